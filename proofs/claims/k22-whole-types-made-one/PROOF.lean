import PyProof.Rows.All
import Wide.All
import OpenK.AllK
import Wide.FinOn
import HandS.ForMost
import HandS.Zip
import HandS.DictTup
import KE.KDictZip
import KE.KDictItemsList
import HandS.SetFor
import HandS.Strs
import HandS.SetKeys
import HandS.IsInst
import HandS.Walk
import HandS.TupAny
import HandS.Style
import HandS.Conv
import KE.KDictKeyed
import PyProof.ReprRoads
import PyProof.CallFns
import HandS.Ends
import HandS.Replace
import PySem.Challenge.RW_changedsame_k22_whole_types_made_one
set_option Elab.async false
set_option linter.all false
set_option maxRecDepth 100000
set_option maxHeartbeats 4000000
/-! Terms, replacements, told lists: plain mathematics. -/
namespace U

inductive Nm where | list | option | mt
  deriving DecidableEq
inductive Pl where | int | bool | unit | exn
  deriving DecidableEq
inductive Lab where | fn | tup | data (n : Nm) | plain (p : Pl) | one (b : Bool)
  deriving DecidableEq
/-- var false k: an unknown; var true k: a parameter -/
inductive Ty where
  | var (p : Bool) (k : Nat)
  | node (l : Lab) (ks : List Ty)

/-- induction over a term and its kids -/
theorem Ty.ind {P : Ty → Prop} (hv : ∀ p k, P (.var p k)) (hn : ∀ l ks, (∀ t ∈ ks, P t) → P (.node l ks)) : ∀ t, P t
  | .var p k => hv p k
  | .node l ks => hn l ks fun t _ => Ty.ind hv hn t

/-! ### putting, occurring, size, depth -/
mutual
def put (w : Bool) (σ : Nat → Ty) : Ty → Ty
  | .var p k => if p = w then σ k else .var p k
  | .node l ks => .node l (puts w σ ks)
def puts (w : Bool) (σ : Nat → Ty) : List Ty → List Ty
  | [] => []
  | t :: ts => put w σ t :: puts w σ ts
end
mutual
def occ (w : Bool) (x : Nat) : Ty → Prop
  | .var p k => p = w ∧ k = x
  | .node _ ks => occs w x ks
def occs (w : Bool) (x : Nat) : List Ty → Prop
  | [] => False
  | t :: ts => occ w x t ∨ occs w x ts
end
mutual
def size : Ty → Nat
  | .var _ _ => 1
  | .node _ ks => 1 + sizes ks
def sizes : List Ty → Nat
  | [] => 0
  | t :: ts => size t + sizes ts
end
mutual
def depth : Ty → Nat
  | .var _ _ => 0
  | .node _ ks => depths ks
/-- one more than the deepest; 0 without any -/
def depths : List Ty → Nat
  | [] => 0
  | t :: ts => max (depth t + 1) (depths ts)
end
theorem puts_eq (w : Bool) (σ : Nat → Ty) : ∀ ts : List Ty, puts w σ ts = ts.map (put w σ)
  | [] => rfl
  | t :: ts => by rw [puts, puts_eq w σ ts, List.map_cons]
theorem put_node (w : Bool) (σ : Nat → Ty) (l : Lab) (ks : List Ty) : put w σ (.node l ks) = .node l (ks.map (put w σ)) := by rw [put, puts_eq]
theorem put_var (w : Bool) (σ : Nat → Ty) (k : Nat) : put w σ (.var w k) = σ k := by rw [put, if_pos rfl]
theorem put_other {w p : Bool} (σ : Nat → Ty) (k : Nat) (h : p ≠ w) : put w σ (.var p k) = .var p k := by rw [put, if_neg h]
theorem occs_iff (w : Bool) (x : Nat) : ∀ ts : List Ty, occs w x ts ↔ ∃ t ∈ ts, occ w x t
  | [] => by simp [occs]
  | t :: ts => by simp [occs, occs_iff w x ts]
theorem occ_node {w : Bool} {x : Nat} {l : Lab} {ks : List Ty} : occ w x (.node l ks) ↔ ∃ t ∈ ks, occ w x t := by rw [occ, occs_iff]
theorem occ_var {w p : Bool} {x k : Nat} : occ w x (.var p k) ↔ p = w ∧ k = x := by rw [occ]
theorem size_pos : ∀ t : Ty, 0 < size t
  | .var _ _ => by rw [size]; exact Nat.one_pos
  | .node _ _ => by rw [size]; omega
theorem sizes_mem {t : Ty} : ∀ {ts : List Ty}, t ∈ ts → size t ≤ sizes ts
  | u :: us, h => by
    rw [sizes]
    rcases List.mem_cons.mp h with rfl | h
    · omega
    · have := sizes_mem h; omega
theorem size_kid {t : Ty} {l : Lab} {ks : List Ty} (h : t ∈ ks) : size t < size (.node l ks) := by
  have := sizes_mem h
  rw [size]; omega
theorem depths_mem {t : Ty} : ∀ {ts : List Ty}, t ∈ ts → depth t + 1 ≤ depths ts
  | u :: us, h => by
    rw [depths]
    rcases List.mem_cons.mp h with rfl | h
    · omega
    · have := depths_mem h; omega
theorem depths_le {n : Nat} : ∀ {ts : List Ty}, (∀ t ∈ ts, depth t + 1 ≤ n) → depths ts ≤ n
  | [], _ => by rw [depths]; omega
  | u :: us, h => by
    rw [depths]
    have h1 := h u List.mem_cons_self
    have h2 := depths_le (ts := us) fun t ht => h t (List.mem_cons_of_mem _ ht)
    omega
theorem depth_kid {t : Ty} {l : Lab} {ks : List Ty} (h : t ∈ ks) : depth t < depth (.node l ks) := by
  have := depths_mem h
  rw [depth]; omega
theorem depth_lt_size : ∀ t : Ty, depth t < size t := Ty.ind (fun _ _ => by rw [depth, size]; omega) fun l ks ih => by
  have : depths ks ≤ sizes ks := by
    clear l
    induction ks with
    | nil => rw [depths, sizes]; omega
    | cons t ts h =>
      rw [depths, sizes]
      have h1 := ih t List.mem_cons_self
      have h2 := h fun u hu => ih u (List.mem_cons_of_mem _ hu)
      omega
  rw [depth, size]; omega

theorem map_congr {α β : Type} {f g : α → β} {l : List α} (h : ∀ a ∈ l, f a = g a) : l.map f = l.map g := List.map_congr_left h
theorem put_congr {w : Bool} {σ τ : Nat → Ty} : ∀ t : Ty, (∀ k, occ w k t → σ k = τ k) → put w σ t = put w τ t :=
  Ty.ind (fun p k h => by
    by_cases e : p = w
    · subst e; rw [put_var, put_var]; exact h k (occ_var.mpr ⟨rfl, rfl⟩)
    · rw [put_other _ _ e, put_other _ _ e]) fun l ks ih h => by
    rw [put_node, put_node]
    exact congrArg _ (map_congr fun t ht => ih t ht fun k hk => h k (occ_node.mpr ⟨t, ht, hk⟩))
theorem put_id {w : Bool} : ∀ t : Ty, put w (fun k => .var w k) t = t :=
  Ty.ind (fun p k => by
    by_cases e : p = w
    · subst e; rw [put_var]
    · rw [put_other _ _ e]) fun l ks ih => by
    rw [put_node]
    have : ks.map (put w fun k => .var w k) = ks.map id := map_congr fun t ht => ih t ht
    rw [this, List.map_id]
theorem put_self {w : Bool} {σ : Nat → Ty} (t : Ty) (h : ∀ k, occ w k t → σ k = .var w k) : put w σ t = t := by
  rw [put_congr t h, put_id]
theorem put_put {w : Bool} {σ τ : Nat → Ty} : ∀ t : Ty, put w σ (put w τ t) = put w (fun k => put w σ (τ k)) t :=
  Ty.ind (fun p k => by
    by_cases e : p = w
    · subst e; rw [put_var, put_var]
    · rw [put_other _ _ e, put_other _ _ e, put_other _ _ e]) fun l ks ih => by
    rw [put_node, put_node, put_node, List.map_map]
    exact congrArg _ (map_congr fun t ht => ih t ht)
theorem occ_put {w : Bool} {σ : Nat → Ty} {x : Nat} : ∀ t : Ty, occ w x (put w σ t) ↔ ∃ k, occ w k t ∧ occ w x (σ k) :=
  Ty.ind (fun p k => by
    by_cases e : p = w
    · subst e
      rw [put_var]
      constructor
      · intro h; exact ⟨k, occ_var.mpr ⟨rfl, rfl⟩, h⟩
      · rintro ⟨j, h1, h2⟩; obtain ⟨_, rfl⟩ := occ_var.mp h1; exact h2
    · rw [put_other _ _ e]
      constructor
      · intro h; exact absurd (occ_var.mp h).1 e
      · rintro ⟨j, h1, _⟩; exact absurd (occ_var.mp h1).1 e) fun l ks ih => by
    rw [put_node, occ_node]
    constructor
    · rintro ⟨t, ht, h⟩
      obtain ⟨u, hu, rfl⟩ := List.mem_map.mp ht
      obtain ⟨k, h1, h2⟩ := (ih u hu).mp h
      exact ⟨k, occ_node.mpr ⟨u, hu, h1⟩, h2⟩
    · rintro ⟨k, h1, h2⟩
      obtain ⟨u, hu, h1⟩ := occ_node.mp h1
      exact ⟨_, List.mem_map_of_mem hu, (ih u hu).mpr ⟨k, h1, h2⟩⟩
/-- equal on what occurs, from equal results -/
theorem put_inj {w : Bool} {σ τ : Nat → Ty} : ∀ t : Ty, put w σ t = put w τ t → ∀ k, occ w k t → σ k = τ k :=
  Ty.ind (fun p k h j hj => by
    obtain ⟨rfl, rfl⟩ := occ_var.mp hj
    rw [put_var, put_var] at h; exact h) fun l ks ih h k hk => by
    rw [put_node, put_node] at h
    obtain ⟨u, hu, hk⟩ := occ_node.mp hk
    have h' : ks.map (put w σ) = ks.map (put w τ) := by injection h
    exact ih u hu (List.map_inj_left.mp h' u hu) k hk
theorem size_put_ge {w : Bool} {σ : Nat → Ty} : ∀ t : Ty, size t ≤ size (put w σ t) :=
  Ty.ind (fun p k => by
    rw [size]; exact size_pos _) fun l ks ih => by
    rw [put_node, size, size]
    have : sizes ks ≤ sizes (ks.map (put w σ)) := by
      clear l
      induction ks with
      | nil => exact Nat.le_refl _
      | cons t ts h =>
        rw [List.map_cons, sizes, sizes]
        have h1 := ih t List.mem_cons_self
        have h2 := h fun u hu => ih u (List.mem_cons_of_mem _ hu)
        omega
    omega
theorem sizes_map_le {m : Nat} {f : Ty → Ty} : ∀ {ks : List Ty}, (∀ t ∈ ks, size (f t) ≤ m * size t) → sizes (ks.map f) ≤ m * sizes ks
  | [], _ => by rw [List.map_nil, sizes]; omega
  | t :: ts, h => by
    rw [List.map_cons, sizes, sizes, Nat.mul_add]
    have h1 := h t List.mem_cons_self
    have h2 := sizes_map_le (ks := ts) fun u hu => h u (List.mem_cons_of_mem _ hu)
    omega
theorem size_put_le {w : Bool} {σ : Nat → Ty} {m : Nat} (hm : 1 ≤ m) : ∀ t : Ty, (∀ k, occ w k t → size (σ k) ≤ m) → size (put w σ t) ≤ m * size t :=
  Ty.ind (fun p k h => by
    rw [size]
    by_cases e : p = w
    · subst e; rw [put_var]; have := h k (occ_var.mpr ⟨rfl, rfl⟩); omega
    · rw [put_other _ _ e, size]; omega) fun l ks ih h => by
    rw [put_node, size, size, Nat.mul_add]
    have := sizes_map_le (m := m) (f := put w σ) (ks := ks) fun t ht => ih t ht fun k hk => h k (occ_node.mpr ⟨t, ht, hk⟩)
    omega
theorem size_occ {w : Bool} {σ : Nat → Ty} {x : Nat} : ∀ t : Ty, occ w x t → size (σ x) ≤ size (put w σ t) :=
  Ty.ind (fun p k h => by
    obtain ⟨rfl, rfl⟩ := occ_var.mp h
    rw [put_var]; exact Nat.le_refl _) fun l ks ih h => by
    obtain ⟨u, hu, h⟩ := occ_node.mp h
    rw [put_node]
    exact Nat.le_of_lt (Nat.lt_of_le_of_lt (ih u hu h) (size_kid (List.mem_map_of_mem hu)))
/-- a variable can't be made one with a node that it stands within -/
theorem occurs_no {w : Bool} {σ : Nat → Ty} {x : Nat} {l : Lab} {ks : List Ty} (h : occ w x (.node l ks)) (e : σ x = put w σ (.node l ks)) : False := by
  obtain ⟨u, hu, h⟩ := occ_node.mp h
  have h1 := size_occ (σ := σ) u h
  have h2 : size (put w σ u) < size (put w σ (.node l ks)) := by rw [put_node]; exact size_kid (List.mem_map_of_mem hu)
  rw [← e] at h2
  omega
theorem depth_put_le {w : Bool} {σ : Nat → Ty} {m : Nat} : ∀ t : Ty, (∀ k, occ w k t → depth (σ k) ≤ m) → depth (put w σ t) ≤ depth t + m :=
  Ty.ind (fun p k h => by
    by_cases e : p = w
    · subst e; rw [put_var]; have := h k (occ_var.mpr ⟨rfl, rfl⟩); omega
    · rw [put_other _ _ e]; omega) fun l ks ih h => by
    rw [put_node, depth, depth]
    refine depths_le fun t ht => ?_
    obtain ⟨u, hu, rfl⟩ := List.mem_map.mp ht
    have h1 := ih u hu fun k hk => h k (occ_node.mpr ⟨u, hu, hk⟩)
    have h2 := depths_mem hu
    omega

/-! ### told lists -/
abbrev Told := List (Nat × Ty)
def put1 (x : Nat) (u t : Ty) : Ty := put false (fun k => if k = x then u else .var false k) t
/-- all that is told, one after another -/
def ap : Told → Ty → Ty
  | [], t => t
  | (x, u) :: r, t => ap r (put1 x u t)
theorem put1_no {x : Nat} {u t : Ty} (h : ¬ occ false x t) : put1 x u t = t := by
  unfold put1
  refine put_self t fun k hk => ?_
  rw [if_neg]
  rintro rfl; exact h hk
theorem put1_self (x : Nat) (u : Ty) : put1 x u (.var false x) = u := by unfold put1; rw [put_var, if_pos rfl]
theorem put1_ne {x y : Nat} (u : Ty) (h : y ≠ x) : put1 x u (.var false y) = .var false y := by unfold put1; rw [put_var, if_neg h]
theorem put1_node (x : Nat) (u : Ty) (l : Lab) (ks : List Ty) : put1 x u (.node l ks) = .node l (ks.map (put1 x u)) := put_node _ _ _ _
theorem occ_put1 {x y : Nat} {u t : Ty} (h : occ false y (put1 x u t)) : (occ false y t ∧ y ≠ x) ∨ (occ false x t ∧ occ false y u) := by
  obtain ⟨k, h1, h2⟩ := (occ_put t).mp h
  by_cases e : k = x
  · subst e; rw [if_pos rfl] at h2; exact .inr ⟨h1, h2⟩
  · rw [if_neg e] at h2
    obtain ⟨_, rfl⟩ := occ_var.mp h2
    exact .inl ⟨h1, e⟩
theorem ap_append : ∀ (r s : Told) (t : Ty), ap (r ++ s) t = ap s (ap r t)
  | [], _, _ => rfl
  | (x, u) :: r, s, t => ap_append r s (put1 x u t)
theorem ap_snoc (r : Told) (x : Nat) (u t : Ty) : ap (r ++ [(x, u)]) t = put1 x u (ap r t) := ap_append r [(x, u)] t
theorem ap_node : ∀ (r : Told) (l : Lab) (ks : List Ty), ap r (.node l ks) = .node l (ks.map (ap r))
  | [], l, ks => by show Ty.node l ks = .node l (ks.map id); rw [List.map_id]
  | (x, u) :: r, l, ks => by
    show ap r (put1 x u (.node l ks)) = _
    rw [put1_node, ap_node r, List.map_map]
    rfl
def apv (r : Told) (k : Nat) : Ty := ap r (.var false k)
theorem ap_par : ∀ (r : Told) (k : Nat), ap r (.var true k) = .var true k
  | [], _ => rfl
  | (x, u) :: r, k => by
    show ap r (put1 x u (.var true k)) = _
    have : put1 x u (.var true k) = .var true k := by unfold put1; exact put_other _ _ (by decide)
    rw [this, ap_par r]
theorem ap_put : ∀ (r : Told) (t : Ty), ap r t = put false (apv r) t := fun r => Ty.ind (fun p k => by
    cases p with
    | false => rw [put_var]; rfl
    | true => rw [put_other _ _ (by decide), ap_par]) fun l ks ih => by
    rw [ap_node, put_node]
    exact congrArg _ (map_congr fun t ht => ih t ht)
def keys (r : Told) : List Nat := r.map (·.1)
theorem ap_unbound : ∀ {r : Told} {x : Nat}, x ∉ keys r → ap r (.var false x) = .var false x
  | [], _, _ => rfl
  | (y, u) :: r, x, h => by
    have h1 : x ≠ y := fun e => h (by rw [e]; exact List.mem_cons_self)
    have h2 : x ∉ keys r := fun e => h (List.mem_cons_of_mem _ e)
    show ap r (put1 y u (.var false x)) = _
    rw [put1_ne u h1]
    exact ap_unbound h2
/-- nothing bound stands within: nothing is done -/
theorem ap_none {r : Told} (t : Ty) (h : ∀ k, occ false k t → k ∉ keys r) : ap r t = t := by
  rw [ap_put]
  exact put_self t fun k hk => ap_unbound (h k hk)

def Tri : Told → Prop
  | [] => True
  | (x, u) :: r => ¬ occ false x u ∧ (∀ p ∈ r, p.1 ≠ x ∧ ¬ occ false x p.2) ∧ Tri r
theorem Tri.snoc : ∀ {r : Told} {y : Nat} {v : Ty}, Tri r → ¬ occ false y v → (∀ p ∈ r, p.1 ≠ y ∧ ¬ occ false p.1 v) → Tri (r ++ [(y, v)])
  | [], y, v, _, h, _ => ⟨h, fun p hp => (List.not_mem_nil hp).elim, trivial⟩
  | (x, u) :: r, y, v, ⟨h1, h2, h3⟩, h, hr => by
    refine ⟨h1, fun p hp => ?_, h3.snoc h fun p hp => hr p (List.mem_cons_of_mem _ hp)⟩
    rcases List.mem_append.mp hp with hp | hp
    · exact h2 p hp
    · have e : p = (y, v) := List.mem_singleton.mp hp
      have := hr (x, u) List.mem_cons_self
      rw [e]
      exact ⟨fun e => this.1 e.symm, this.2⟩
theorem Tri.not_occ : ∀ {r : Told}, Tri r → ∀ {t : Ty} {x : Nat}, ¬ occ false x t → (∀ p ∈ r, ¬ occ false x p.2) → ¬ occ false x (ap r t)
  | [], _, _, _, h, _ => h
  | (y, u) :: r, ⟨_, _, h3⟩, t, x, h, hr => by
    refine h3.not_occ (t := put1 y u t) (fun q => ?_) fun p hp => hr p (List.mem_cons_of_mem _ hp)
    rcases occ_put1 q with ⟨q, _⟩ | ⟨_, q⟩
    · exact h q
    · exact hr (y, u) List.mem_cons_self q
/-- what is told is gone -/
theorem Tri.gone : ∀ {r : Told}, Tri r → ∀ {t : Ty} {x : Nat}, x ∈ keys r → ¬ occ false x (ap r t)
  | (y, u) :: r, ⟨h1, h2, h3⟩, t, x, hx => by
    rcases List.mem_cons.mp hx with rfl | hx
    · refine h3.not_occ (t := put1 _ u t) (fun q => ?_) fun p hp => (h2 p hp).2
      rcases occ_put1 q with ⟨_, q⟩ | ⟨_, q⟩
      · exact q rfl
      · exact h1 q
    · exact h3.gone hx
theorem Tri.twice {r : Told} (h : Tri r) (t : Ty) : ap r (ap r t) = ap r t := ap_none _ fun _ hk hx => h.gone hx hk
theorem Tri.told : ∀ {r : Told}, Tri r → ∀ {x : Nat} {u : Ty}, (x, u) ∈ r → ap r (.var false x) = ap r u
  | (y, v) :: r, ⟨h1, h2, h3⟩, x, u, hm => by
    show ap r (put1 y v (.var false x)) = ap r (put1 y v u)
    rcases List.mem_cons.mp hm with e | hm
    · cases e
      rw [put1_self, put1_no h1]
    · have := h2 (x, u) hm
      rw [put1_ne v this.1, put1_no this.2]
      exact h3.told hm
/-- a replacement keeps what is told -/
def Sat (θ : Nat → Ty) (r : Told) : Prop := ∀ p ∈ r, θ p.1 = put false θ p.2
theorem Sat.put1 {θ : Nat → Ty} {x : Nat} {u : Ty} (h : θ x = put false θ u) (t : Ty) : put false θ (put1 x u t) = put false θ t := by
  unfold U.put1
  rw [put_put]
  refine put_congr t fun k _ => ?_
  by_cases e : k = x
  · subst e; rw [if_pos rfl, h]
  · rw [if_neg e, put_var]
theorem Sat.ap {θ : Nat → Ty} : ∀ {r : Told}, Sat θ r → ∀ t : Ty, put false θ (ap r t) = put false θ t
  | [], _, _ => rfl
  | (x, u) :: r, h, t => by
    show put false θ (U.ap r (U.put1 x u t)) = _
    rw [Sat.ap (r := r) (fun p hp => h p (List.mem_cons_of_mem _ hp)), Sat.put1 (h (x, u) List.mem_cons_self)]
theorem Tri.sat {r : Told} (h : Tri r) : Sat (apv r) r := fun p hp => by
  rw [← ap_put]; exact h.told hp
theorem Sat.snoc {θ : Nat → Ty} {r : Told} {x : Nat} {u : Ty} : Sat θ (r ++ [(x, u)]) ↔ Sat θ r ∧ θ x = put false θ u := by
  constructor
  · intro h
    exact ⟨fun p hp => h p (List.mem_append_left _ hp), h (x, u) (List.mem_append_right _ (List.mem_singleton.mpr rfl))⟩
  · rintro ⟨h1, h2⟩ p hp
    rcases List.mem_append.mp hp with hp | hp
    · exact h1 p hp
    · rw [List.mem_singleton.mp hp]; exact h2
end U

/-! Raw and opened told lists, ranks, depths. -/
namespace U

/-- raw: what is told as it was told; tri: the same, opened when it was told. G: what each told type is -/
inductive Lnk (G : Ty → Prop) : Told → Told → Prop
  | nil : Lnk G [] []
  | snoc {raw tri : Told} {x : Nat} {t : Ty} : Lnk G raw tri → G t → x < 6 → x ∉ keys tri → ¬ occ false x (ap tri t) → Lnk G (raw ++ [(x, t)]) (tri ++ [(x, ap tri t)])
section
variable {G : Ty → Prop} {raw tri : Told}
theorem keys_snoc (r : Told) (x : Nat) (u : Ty) : keys (r ++ [(x, u)]) = keys r ++ [x] := by unfold keys; rw [List.map_append]; rfl
theorem Lnk.keys (h : Lnk G raw tri) : U.keys raw = U.keys tri := by
  induction h with
  | nil => rfl
  | snoc _ _ _ _ _ ih => rw [keys_snoc, keys_snoc, ih]
theorem Lnk.istri (h : Lnk G raw tri) : Tri tri := by
  induction h with
  | nil => trivial
  | @snoc raw tri x t h g hx hn ho ih =>
    refine ih.snoc ho fun p hp => ⟨fun e => hn (e ▸ List.mem_map_of_mem hp), fun q => ih.gone (List.mem_map_of_mem hp) q⟩
theorem Lnk.lt (h : Lnk G raw tri) : ∀ x ∈ U.keys raw, x < 6 := by
  induction h with
  | nil => intro x hx; simp [U.keys] at hx
  | @snoc raw tri x t h g hx hn ho ih =>
    intro y hy
    rw [keys_snoc] at hy
    rcases List.mem_append.mp hy with hy | hy
    · exact ih y hy
    · rw [List.mem_singleton.mp hy]; exact hx
theorem Lnk.nodup (h : Lnk G raw tri) : (U.keys raw).Nodup := by
  induction h with
  | nil => exact List.nodup_nil
  | @snoc raw tri x t h g hx hn ho ih =>
    rw [keys_snoc]
    refine List.nodup_append.mpr ⟨ih, List.nodup_cons.mpr ⟨by simp, List.nodup_nil⟩, fun a ha b hb => ?_⟩
    rw [List.mem_singleton.mp hb]
    rintro rfl
    exact hn (h.keys ▸ ha)
theorem nodup_lt : ∀ (n : Nat) (l : List Nat), l.Nodup → (∀ x ∈ l, x < n) → l.length ≤ n
  | 0, [], _, _ => Nat.le_refl _
  | 0, x :: _, _, h => by have := h x List.mem_cons_self; omega
  | n + 1, l, hd, h => by
    have h1 := nodup_lt n (l.filter (fun x => decide (x ≠ n))) (hd.filter _) fun x hx => by
      obtain ⟨hx, e⟩ := List.mem_filter.mp hx
      have := h x hx
      have := of_decide_eq_true e
      omega
    have h2 : l.length ≤ (l.filter (fun x => decide (x ≠ n))).length + 1 := by
      clear h h1
      induction l with
      | nil => simp
      | cons a l ih =>
        obtain ⟨ha, hl⟩ := List.nodup_cons.mp hd
        by_cases e : a = n
        · have : l.filter (fun x => decide (x ≠ n)) = l := List.filter_eq_self.mpr fun x hx => decide_eq_true fun q => ha (by rw [e, ← q]; exact hx)
          rw [List.filter_cons, if_neg (by simp [e]), this, List.length_cons]
          omega
        · rw [List.filter_cons, if_pos (decide_eq_true e), List.length_cons, List.length_cons]
          have := ih hl
          omega
    omega
theorem Lnk.len (h : Lnk G raw tri) : tri.length ≤ 6 := by
  have := nodup_lt 6 (U.keys raw) h.nodup h.lt
  rw [h.keys] at this
  unfold U.keys at this
  rwa [List.length_map] at this
theorem Lnk.len_raw (h : Lnk G raw tri) : raw.length = tri.length := by
  have := congrArg List.length h.keys
  unfold U.keys at this
  rwa [List.length_map, List.length_map] at this
theorem look_mem {α : Type} {x : Nat} {t : α} : ∀ {r : List (Nat × α)}, r.lookup x = some t → (x, t) ∈ r
  | (y, u) :: r, h => by
    rw [List.lookup_cons] at h
    by_cases e : x = y
    · subst e; simp at h; rw [h]; exact List.mem_cons_self
    · rw [show (x == y) = false from beq_eq_false_iff_ne.mpr e] at h
      exact List.mem_cons_of_mem _ (look_mem h)
theorem look_none {α : Type} {x : Nat} : ∀ {r : List (Nat × α)}, r.lookup x = none ↔ x ∉ r.map (·.1)
  | [] => by simp
  | (y, u) :: r => by
    rw [List.lookup_cons]
    by_cases e : x = y
    · subst e; simp
    · rw [show (x == y) = false from beq_eq_false_iff_ne.mpr e]
      have := look_none (x := x) (r := r)
      simp only [List.map_cons, List.mem_cons, not_or]
      exact ⟨fun h => ⟨e, this.mp h⟩, fun h => this.mpr h.2⟩
theorem look_snoc {α : Type} {x y : Nat} {u : α} : ∀ {r : List (Nat × α)}, (r ++ [(y, u)]).lookup x = if x ∈ r.map (·.1) then r.lookup x else if x = y then some u else none
  | [] => by
    show List.lookup x [(y, u)] = _
    rw [List.lookup_cons]
    by_cases e : x = y
    · subst e; simp
    · rw [show (x == y) = false from beq_eq_false_iff_ne.mpr e]; simp [e]
  | (z, v) :: r => by
    show List.lookup x ((z, v) :: (r ++ [(y, u)])) = _
    rw [List.lookup_cons, List.lookup_cons]
    by_cases e : x = z
    · subst e; simp
    · rw [show (x == z) = false from beq_eq_false_iff_ne.mpr e]
      have ih := look_snoc (x := x) (y := y) (u := u) (r := r)
      show List.lookup x (r ++ [(y, u)]) = if x ∈ z :: List.map (·.1) r then List.lookup x r else if x = y then some u else none
      rw [ih]
      by_cases q : x ∈ List.map (·.1) r
      · rw [if_pos q, if_pos (List.mem_cons_of_mem _ q)]
      · rw [if_neg q, if_neg (fun m => (List.mem_cons.mp m).elim e q)]
theorem Lnk.old (h : Lnk G raw tri) : ∀ p ∈ raw, G p.2 := by
  induction h with
  | nil => intro p hp; cases hp
  | @snoc raw tri x t h g hx hn ho ih =>
    intro p hp
    rcases List.mem_append.mp hp with hp | hp
    · exact ih p hp
    · rw [List.mem_singleton.mp hp]; exact g
/-- an unknown and what it was told are one, opened -/
theorem Lnk.told (h : Lnk G raw tri) : ∀ p ∈ raw, ap tri (.var false p.1) = ap tri p.2 := by
  induction h with
  | nil => intro p hp; cases hp
  | @snoc raw tri x t h g hx hn ho ih =>
    intro p hp
    rw [ap_snoc, ap_snoc]
    rcases List.mem_append.mp hp with hp | hp
    · rw [ih p hp]
    · rw [List.mem_singleton.mp hp]
      show put1 x (ap tri t) (ap tri (.var false x)) = put1 x (ap tri t) (ap tri t)
      rw [ap_unbound hn, put1_self, put1_no ho]
theorem Lnk.look (h : Lnk G raw tri) {x : Nat} {t : Ty} (e : raw.lookup x = some t) : ap tri (.var false x) = ap tri t := h.told (x, t) (look_mem e)
theorem Lnk.look_no (h : Lnk G raw tri) {x : Nat} (e : raw.lookup x = none) : ap tri (.var false x) = .var false x := by
  refine ap_unbound ?_
  rw [← h.keys]
  exact look_none.mp e
/-- a replacement keeps the raw list just where it keeps the opened one -/
theorem Lnk.sat (h : Lnk G raw tri) (θ : Nat → Ty) : Sat θ raw ↔ Sat θ tri := by
  induction h with
  | nil => exact Iff.rfl
  | @snoc raw tri x t h g hx hn ho ih =>
    rw [Sat.snoc, Sat.snoc, ih]
    exact and_congr_right fun hs => by rw [hs.ap]
/-- the opened list told as it stands -/
theorem Lnk.self (h : Lnk G raw tri) : Lnk (fun _ => True) tri tri := by
  induction h with
  | nil => exact .nil
  | @snoc raw tri x t h g hx hn ho ih =>
    have e : ap tri (ap tri t) = ap tri t := h.istri.twice t
    have := Lnk.snoc (G := fun _ => True) (t := ap tri t) ih trivial hx hn (by rw [e]; exact ho)
    rw [e] at this
    exact this

/-! ### ranks: how many times one is led on -/
def Rk (raw : Told) : Nat → Ty → Prop
  | 0, t => ∀ x, occ false x t → raw.lookup x = none
  | n + 1, t => ∀ x t', occ false x t → raw.lookup x = some t' → Rk raw n t'
theorem Rk.mono {t : Ty} : ∀ {n : Nat}, Rk raw n t → ∀ {m : Nat}, n ≤ m → Rk raw m t
  | 0, h, 0, _ => h
  | 0, h, m + 1, _ => fun x t' ho e => by rw [h x ho] at e; cases e
  | n + 1, h, m + 1, hm => fun x t' ho e => (h x t' ho e).mono (by omega)
theorem Rk.kid {l : Lab} {ks : List Ty} {t : Ty} (ht : t ∈ ks) : ∀ {n : Nat}, Rk raw n (.node l ks) → Rk raw n t
  | 0, h => fun x ho => h x (occ_node.mpr ⟨t, ht, ho⟩)
  | _ + 1, h => fun x t' ho e => h x t' (occ_node.mpr ⟨t, ht, ho⟩) e
theorem Rk.next {x : Nat} {t' : Ty} (e : raw.lookup x = some t') : ∀ {n : Nat}, Rk raw n (.var false x) → ∃ m, n = m + 1 ∧ Rk raw m t'
  | 0, h => by rw [h x (occ_var.mpr ⟨rfl, rfl⟩)] at e; cases e
  | n + 1, h => ⟨n, rfl, h x t' (occ_var.mpr ⟨rfl, rfl⟩) e⟩

/-- a list of all told unknowns in which each stands ahead of those that it leads to -/
def OrdL (raw : Told) : List Nat → Prop
  | [] => True
  | y :: l => (∀ t, raw.lookup y = some t → ∀ z, occ false z t → raw.lookup z ≠ none → z ∈ l) ∧ OrdL raw l
theorem rk_of_ord : ∀ (l : List Nat), OrdL raw l → ∀ t, (∀ z, occ false z t → raw.lookup z ≠ none → z ∈ l) → Rk raw l.length t
  | [], _, t, h => fun x ho => by
    cases e : raw.lookup x with
    | none => rfl
    | some u => exact absurd (h x ho (by rw [e]; simp)) List.not_mem_nil
  | y :: l, ⟨h1, h2⟩, t, h => fun x t' ho e => by
    have hm := h x ho (by rw [e]; simp)
    have ih := rk_of_ord l h2
    by_cases q : x = y
    · exact ih t' (h1 t' (q ▸ e))
    · have hx : x ∈ l := (List.mem_cons.mp hm).resolve_left q
      obtain ⟨m, hm, hr⟩ := Rk.next e (ih (.var false x) fun z hz _ => by
        obtain ⟨_, rfl⟩ := occ_var.mp hz; exact hx)
      exact hr.mono (by omega)
open Classical in
theorem Lnk.ord (h : Lnk G raw tri) : ∃ l : List Nat, l.length = raw.length ∧ (∀ z, raw.lookup z ≠ none → z ∈ l) ∧ OrdL raw l := by
  induction h with
  | nil => exact ⟨[], rfl, fun z h => absurd rfl h, trivial⟩
  | @snoc raw tri x t h g hx hn ho ih =>
    obtain ⟨l, hlen, hall, hord⟩ := ih
    have hxr : raw.lookup x = none := look_none.mpr (by rw [show List.map (·.1) raw = U.keys raw from rfl, h.keys]; exact hn)
    have bound : ∀ z, (raw ++ [(x, t)]).lookup z ≠ none → z = x ∨ raw.lookup z ≠ none := fun z hz => by
      rw [look_snoc] at hz
      by_cases e : z ∈ List.map (·.1) raw
      · rw [if_pos e] at hz; exact .inr hz
      · rw [if_neg e] at hz
        by_cases q : z = x
        · exact .inl q
        · rw [if_neg q] at hz; exact absurd rfl hz
    have look : ∀ y u, y ≠ x → (raw ++ [(x, t)]).lookup y = some u → raw.lookup y = some u := fun y u hy e => by
      rw [look_snoc] at e
      by_cases q : y ∈ List.map (·.1) raw
      · rwa [if_pos q] at e
      · rw [if_neg q, if_neg hy] at e; cases e
    have lookx : (raw ++ [(x, t)]).lookup x = some t := by
      rw [look_snoc, if_neg (look_none.mp hxr), if_pos rfl]
    let p : Nat → Bool := fun y => decide (occ false x (ap tri (.var false y)))
    have px : ∀ y u z, raw.lookup y = some u → occ false z u → p z = true → p y = true := fun y u z e hz hp => by
      refine decide_eq_true ?_
      rw [h.look e, ap_put]
      exact (occ_put u).mpr ⟨z, hz, of_decide_eq_true hp⟩
    have pt : ∀ z, occ false z t → p z = false := fun z hz => by
      refine decide_eq_false fun q => ho ?_
      rw [ap_put]
      exact (occ_put t).mpr ⟨z, hz, q⟩
    have pxx : p x = true := by
      refine decide_eq_true ?_
      rw [ap_unbound hn]
      exact occ_var.mpr ⟨rfl, rfl⟩
    -- those that don't lead to x
    have tail : ∀ k : List Nat, OrdL raw k → OrdL (raw ++ [(x, t)]) (k.filter fun y => !p y) := by
      intro k
      induction k with
      | nil => intro _; trivial
      | cons y k ih =>
        rintro ⟨h1, h2⟩
        by_cases e : p y = true
        · rw [List.filter_cons, if_neg (by simp [e])]; exact ih h2
        · rw [List.filter_cons, if_pos (by simp [e])]
          refine ⟨fun u hu z hz hb => ?_, ih h2⟩
          have hyx : y ≠ x := fun q => e (q ▸ pxx)
          have hu' := look y u hyx hu
          have hpz : p z ≠ true := fun q => e (px y u z hu' hz q)
          rcases bound z hb with q | q
          · rw [q] at hpz; exact absurd pxx hpz
          · exact List.mem_filter.mpr ⟨h1 u hu' z hz q, by simp [hpz]⟩
    have mid : OrdL (raw ++ [(x, t)]) (x :: l.filter fun y => !p y) := by
      refine ⟨fun u hu z hz hb => ?_, tail l hord⟩
      rw [lookx] at hu; cases hu
      have hp := pt z hz
      rcases bound z hb with q | q
      · rw [q, pxx] at hp; cases hp
      · exact List.mem_filter.mpr ⟨hall z q, by simp [hp]⟩
    have front : ∀ k : List Nat, (∀ y ∈ k, y ∈ l) → OrdL raw k → OrdL (raw ++ [(x, t)]) (k.filter p ++ x :: l.filter fun y => !p y) := by
      intro k
      induction k with
      | nil => intro _ _; exact mid
      | cons y k ih =>
        rintro hk ⟨h1, h2⟩
        have ih := ih (fun z hz => hk z (List.mem_cons_of_mem _ hz)) h2
        by_cases e : p y = true
        · rw [List.filter_cons, if_pos e]
          refine ⟨fun u hu z hz hb => ?_, ih⟩
          by_cases hzx : z = x
          · rw [hzx]; exact List.mem_append_right _ List.mem_cons_self
          by_cases hyx : y = x
          · rw [hyx, lookx] at hu; cases hu
            have q := (bound z hb).resolve_left hzx
            exact List.mem_append_right _ (List.mem_cons_of_mem _ (List.mem_filter.mpr ⟨hall z q, by simp [pt z hz]⟩))
          · have q := (bound z hb).resolve_left hzx
            have hz' := h1 u (look y u hyx hu) z hz q
            by_cases hp : p z = true
            · exact List.mem_append_left _ (List.mem_filter.mpr ⟨hz', hp⟩)
            · exact List.mem_append_right _ (List.mem_cons_of_mem _ (List.mem_filter.mpr ⟨hall z q, by simp [hp]⟩))
        · rw [List.filter_cons, if_neg e]; exact ih
    refine ⟨l.filter p ++ x :: l.filter fun y => !p y, ?_, fun z hz => ?_, front l (fun _ h => h) hord⟩
    · have : ∀ k : List Nat, (k.filter p).length + (k.filter fun y => !p y).length = k.length := by
        intro k
        induction k with
        | nil => rfl
        | cons a k ih =>
          by_cases e : p a = true
          · rw [List.filter_cons, if_pos e, List.filter_cons, if_neg (by simp [e]), List.length_cons, List.length_cons]; omega
          · rw [List.filter_cons, if_neg e, List.filter_cons, if_pos (by simp [e]), List.length_cons, List.length_cons]; omega
      rw [List.length_append, List.length_cons, List.length_append]
      have := this l
      show _ = raw.length + 1
      omega
    · rcases bound z hz with q | q
      · rw [q]; exact List.mem_append_right _ List.mem_cons_self
      · by_cases hp : p z = true
        · exact List.mem_append_left _ (List.mem_filter.mpr ⟨hall z q, hp⟩)
        · exact List.mem_append_right _ (List.mem_cons_of_mem _ (List.mem_filter.mpr ⟨hall z q, by simp [hp]⟩))
/-- from any type one is led on at most six times on end -/
theorem Lnk.rank (h : Lnk G raw tri) (t : Ty) : Rk raw 6 t := by
  obtain ⟨l, hl, hall, ho⟩ := h.ord
  have := rk_of_ord l ho t fun z _ hz => hall z hz
  exact this.mono (by have := h.len; have := h.len_raw; omega)
theorem Lnk.depth_le (h : Lnk G raw tri) {d : Nat} (hg : ∀ t, G t → depth t ≤ d) : ∀ (n : Nat) (t : Ty), Rk raw n t → depth (ap tri t) ≤ depth t + n * d
  | n, t, hr => by
    rw [ap_put]
    refine depth_put_le t fun k hk => ?_
    cases e : raw.lookup k with
    | none =>
      have : apv tri k = .var false k := h.look_no e
      rw [this, depth]; omega
    | some u =>
      have e2 : apv tri k = ap tri u := h.look e
      cases n with
      | zero => rw [hr k hk] at e; cases e
      | succ n =>
        have h1 := h.depth_le hg n u (hr k u hk e)
        have h2 := hg u (h.old (k, u) (look_mem e))
        rw [e2, Nat.succ_mul]
        omega
theorem Lnk.depth {h : Lnk G raw tri} {d : Nat} (hg : ∀ t, G t → depth t ≤ d) (t : Ty) : U.depth (ap tri t) ≤ U.depth t + 6 * d := h.depth_le hg 6 t (h.rank t)
/-- what a node opened is made of comes of told nodes -/
theorem Lnk.via (h : Lnk G raw tri) {l : Lab} {ks : List Ty} : ∀ (n : Nat) (t : Ty), Rk raw n t → ap tri t = .node l ks → ∃ js : List Ty, (t = .node l js ∨ ∃ p ∈ raw, p.2 = .node l js) ∧ ks = js.map (ap tri)
  | n, .node l' js, _, e => by
    rw [ap_node] at e
    injection e with e1 e2
    subst e1
    exact ⟨js, .inl rfl, e2.symm⟩
  | n, .var true k, _, e => by rw [ap_par] at e; cases e
  | n, .var false k, hr, e => by
    cases q : raw.lookup k with
    | none => rw [h.look_no q] at e; cases e
    | some u =>
      obtain ⟨m, rfl, hm⟩ := Rk.next q hr
      rw [h.look q] at e
      obtain ⟨js, h1, h2⟩ := h.via m u hm e
      rcases h1 with h1 | h1
      · exact ⟨js, .inr ⟨(k, u), look_mem q, h1⟩, h2⟩
      · exact ⟨js, .inr h1, h2⟩
end
end U

/-! Forms, most general ones, numbers, renamings, matching. -/
namespace U

def okL : Lab → Nat → Bool
  | .fn, n => n == 2
  | .tup, n => n == 2 || n == 3
  | .data _, n => n == 1
  | .plain _, n => n == 0
  | .one _, n => n == 1
mutual
def wf : Ty → Prop
  | .var _ _ => True
  | .node l ks => okL l ks.length = true ∧ wfs ks
def wfs : List Ty → Prop
  | [] => True
  | t :: ts => wf t ∧ wfs ts
end
theorem wfs_iff : ∀ ts : List Ty, wfs ts ↔ ∀ t ∈ ts, wf t
  | [] => by simp [wfs]
  | t :: ts => by simp [wfs, wfs_iff ts]
theorem wf_node {l : Lab} {ks : List Ty} : wf (.node l ks) ↔ okL l ks.length = true ∧ ∀ t ∈ ks, wf t := by rw [wf, wfs_iff]
theorem wf_put {w : Bool} {σ : Nat → Ty} : ∀ t : Ty, wf t → (∀ k, occ w k t → wf (σ k)) → wf (put w σ t) :=
  Ty.ind (fun p k h hs => by
    by_cases e : p = w
    · subst e; rw [put_var]; exact hs k (occ_var.mpr ⟨rfl, rfl⟩)
    · rw [put_other _ _ e]; exact h) fun l ks ih h hs => by
    obtain ⟨h1, h2⟩ := wf_node.mp h
    rw [put_node]
    refine wf_node.mpr ⟨by rw [List.length_map]; exact h1, fun t ht => ?_⟩
    obtain ⟨u, hu, rfl⟩ := List.mem_map.mp ht
    exact ih u hu (h2 u hu) fun k hk => hs k (occ_node.mpr ⟨u, hu, hk⟩)
theorem occ_true_put {σ : Nat → Ty} {x : Nat} (t : Ty) (h : ¬ occ true x t) (hs : ∀ k, occ false k t → ¬ occ true x (σ k)) : ¬ occ true x (put false σ t) := by
  revert t
  refine Ty.ind (fun p k h hs q => ?_) fun l ks ih h hs q => ?_
  · by_cases e : p = false
    · subst e
      rw [put_var] at q
      exact hs k (occ_var.mpr ⟨rfl, rfl⟩) q
    · rw [put_other _ _ e] at q; exact h q
  · rw [put_node] at q
    obtain ⟨t, ht, q⟩ := occ_node.mp q
    obtain ⟨u, hu, rfl⟩ := List.mem_map.mp ht
    exact ih u hu (fun z => h (occ_node.mpr ⟨u, hu, z⟩)) (fun k hk => hs k (occ_node.mpr ⟨u, hu, hk⟩)) q
/-- a good loose type of at most some depth: made right, no parameters, unknowns below six -/
structure Gd (d : Nat) (t : Ty) : Prop where
  wf : wf t
  nop : ∀ k, ¬ occ true k t
  lt : ∀ k, occ false k t → k < 6
  dp : depth t ≤ d
theorem Gd.kid {d : Nat} {l : Lab} {ks : List Ty} (h : Gd (d + 1) (.node l ks)) {t : Ty} (ht : t ∈ ks) : Gd d t :=
  ⟨(wf_node.mp h.wf).2 t ht, fun k hk => h.nop k (occ_node.mpr ⟨t, ht, hk⟩), fun k hk => h.lt k (occ_node.mpr ⟨t, ht, hk⟩), by have := depth_kid (l := l) ht; have := h.dp; omega⟩
theorem Gd.kid' {d : Nat} {l : Lab} {ks : List Ty} (h : Gd d (.node l ks)) {t : Ty} (ht : t ∈ ks) : Gd d t :=
  ⟨(wf_node.mp h.wf).2 t ht, fun k hk => h.nop k (occ_node.mpr ⟨t, ht, hk⟩), fun k hk => h.lt k (occ_node.mpr ⟨t, ht, hk⟩), by have := depth_kid (l := l) ht; have := h.dp; omega⟩
theorem Gd.mono {d e : Nat} {t : Ty} (h : Gd d t) (hd : d ≤ e) : Gd e t := ⟨h.wf, h.nop, h.lt, Nat.le_trans h.dp hd⟩
theorem Gd.put {d e : Nat} {σ : Nat → Ty} {t : Ty} (h : Gd d t) (hs : ∀ k, k < 6 → Gd e (σ k)) : Gd (d + e) (U.put false σ t) :=
  ⟨wf_put t h.wf fun k hk => (hs k (h.lt k hk)).wf, fun x => occ_true_put t (h.nop x) fun k hk => (hs k (h.lt k hk)).nop x, fun x hx => by
    obtain ⟨k, h1, h2⟩ := (occ_put t).mp hx
    exact (hs k (h.lt k h1)).lt x h2, Nat.le_trans (depth_put_le t fun k hk => (hs k (h.lt k hk)).dp) (by have := h.dp; omega)⟩
theorem Gd.var {k d : Nat} (h : k < 6) : Gd d (.var false k) := ⟨(by rw [U.wf]; trivial), (fun x hx => nomatch (occ_var.mp hx).1), (fun x hx => by rw [← (occ_var.mp hx).2]; exact h), (by rw [depth]; omega)⟩
/-- what is opened of good types is good but for the depth -/
structure Gw (t : Ty) : Prop where
  wf : wf t
  nop : ∀ k, ¬ occ true k t
  lt : ∀ k, occ false k t → k < 6
theorem Gd.w {d : Nat} {t : Ty} (h : Gd d t) : Gw t := ⟨h.wf, h.nop, h.lt⟩
theorem Gw.gd {t : Ty} (h : Gw t) : Gd (depth t) t := ⟨h.wf, h.nop, h.lt, Nat.le_refl _⟩
theorem Gw.kid {l : Lab} {ks : List Ty} (h : Gw (.node l ks)) {t : Ty} (ht : t ∈ ks) : Gw t :=
  ⟨(wf_node.mp h.wf).2 t ht, fun k hk => h.nop k (occ_node.mpr ⟨t, ht, hk⟩), fun k hk => h.lt k (occ_node.mpr ⟨t, ht, hk⟩)⟩
theorem Gw.put {σ : Nat → Ty} {t : Ty} (h : Gw t) (hs : ∀ k, k < 6 → Gw (σ k)) : Gw (U.put false σ t) :=
  ⟨wf_put t h.wf fun k hk => (hs k (h.lt k hk)).wf, fun x => occ_true_put t (h.nop x) fun k hk => (hs k (h.lt k hk)).nop x, fun x hx => by
    obtain ⟨k, h1, h2⟩ := (occ_put t).mp hx
    exact (hs k (h.lt k h1)).lt x h2⟩
theorem Gw.var {k : Nat} (h : k < 6) : Gw (.var false k) := (Gd.var (d := 0) h).w
theorem Gw.ap : ∀ {r : Told}, (∀ p ∈ r, Gw p.2) → ∀ {t : Ty}, Gw t → Gw (ap r t)
  | [], _, _, h => h
  | (x, u) :: r, hr, t, h => by
    refine Gw.ap (r := r) (t := put1 x u t) (fun p hp => hr p (List.mem_cons_of_mem _ hp)) ?_
    refine h.put fun k hk => ?_
    by_cases e : k = x
    · rw [if_pos e]; exact hr (x, u) List.mem_cons_self
    · rw [if_neg e]; exact Gw.var hk
theorem Lnk.gw {raw tri : Told} {G : Ty → Prop} (h : Lnk G raw tri) (hg : ∀ t, G t → Gw t) : ∀ p ∈ tri, Gw p.2 := by
  induction h with
  | nil => intro p hp; cases hp
  | @snoc raw tri x t h g hx hn ho ih =>
    intro p hp
    rcases List.mem_append.mp hp with hp | hp
    · exact ih p hp
    · rw [List.mem_singleton.mp hp]; exact Gw.ap ih (hg t g)

/-! ### most general ones -/
structure Mgu (r : Told) (a b : Ty) : Prop where
  tri : Tri r
  iff : ∀ θ : Nat → Ty, Sat θ r ↔ put false θ a = put false θ b
section
variable {r s : Told} {a b : Ty}
theorem Mgu.unifies (h : Mgu r a b) : ap r a = ap r b := by
  rw [ap_put, ap_put]
  exact (h.iff _).mp h.tri.sat
theorem Mgu.over (h : Mgu r a b) (k : Mgu s a b) (t : Ty) : ap r (ap s t) = ap r t := by
  have q : Sat (apv r) s := (k.iff _).mpr ((h.iff _).mp h.tri.sat)
  have := q.ap t
  rwa [← ap_put, ← ap_put] at this
theorem Mgu.size_eq (h : Mgu r a b) (k : Mgu s a b) (t : Ty) : size (ap r t) = size (ap s t) := by
  have h1 : size (ap s t) ≤ size (ap r t) := by
    rw [← h.over k t, ap_put r (ap s t)]; exact size_put_ge _
  have h2 : size (ap r t) ≤ size (ap s t) := by
    rw [← k.over h t, ap_put s (ap r t)]; exact size_put_ge _
  omega
theorem Mgu.symm (h : Mgu r a b) : Mgu r b a := ⟨h.tri, fun θ => (h.iff θ).trans eq_comm⟩
end

/-! ### numbers -/
mutual
def nums (w : Bool) : Ty → List Nat
  | .var p k => if p = w then [k] else []
  | .node _ ks => numsL w [] ks
def numsL (w : Bool) (acc : List Nat) : List Ty → List Nat
  | [] => acc
  | t :: ts => numsL w (acc ++ (nums w t).filter fun n => !acc.contains n) ts
end
theorem mem_numsL {w : Bool} {x : Nat} : ∀ (ts : List Ty) (acc : List Nat), (∀ t ∈ ts, x ∈ nums w t ↔ occ w x t) → (x ∈ numsL w acc ts ↔ x ∈ acc ∨ occs w x ts)
  | [], acc, _ => by rw [numsL, occs]; simp
  | t :: ts, acc, h => by
    rw [numsL, mem_numsL ts _ fun u hu => h u (List.mem_cons_of_mem _ hu), occs, List.mem_append, List.mem_filter, h t List.mem_cons_self]
    by_cases e : x ∈ acc
    · simp [e]
    · simp [e]
theorem mem_nums {w : Bool} {x : Nat} : ∀ t : Ty, x ∈ nums w t ↔ occ w x t :=
  Ty.ind (fun p k => by
    rw [nums, occ_var]
    by_cases e : p = w
    · rw [if_pos e]; simp [e, eq_comm]
    · rw [if_neg e]; simp [e]) fun l ks ih => by
    rw [nums, mem_numsL ks [] ih, occ]
    simp
theorem nodup_numsL {w : Bool} : ∀ (ts : List Ty) (acc : List Nat), (∀ t ∈ ts, (nums w t).Nodup) → acc.Nodup → (numsL w acc ts).Nodup
  | [], acc, _, h => by rw [numsL]; exact h
  | t :: ts, acc, ht, h => by
    rw [numsL]
    refine nodup_numsL ts _ (fun u hu => ht u (List.mem_cons_of_mem _ hu)) ?_
    refine List.nodup_append.mpr ⟨h, (ht t List.mem_cons_self).filter _, fun a ha b hb => ?_⟩
    rintro rfl
    have := (List.mem_filter.mp hb).2
    simp at this
    exact this ha
theorem nodup_nums {w : Bool} : ∀ t : Ty, (nums w t).Nodup :=
  Ty.ind (fun p k => by
    rw [nums]
    by_cases e : p = w
    · rw [if_pos e]; simp
    · rw [if_neg e]; exact List.nodup_nil) fun l ks ih => by
    rw [nums]; exact nodup_numsL ks [] ih List.nodup_nil
theorem nums_nil {w : Bool} {t : Ty} : nums w t = [] ↔ ∀ k, ¬ occ w k t := by
  constructor
  · intro h k hk
    have := (mem_nums t).mpr hk
    rw [h] at this; cases this
  · intro h
    cases e : nums w t with
    | nil => rfl
    | cons k r => exact absurd ((mem_nums t).mp (by rw [e]; exact List.mem_cons_self)) (h k)
theorem filter_map_inj {f : Nat → Nat} {acc : List Nat} : ∀ l : List Nat, (∀ a ∈ l, ∀ b ∈ acc, f a = f b → a = b) → (l.filter fun n => !acc.contains n).map f = (l.map f).filter fun n => !(acc.map f).contains n
  | [], _ => rfl
  | a :: l, h => by
    have ih := filter_map_inj l fun x hx => h x (List.mem_cons_of_mem _ hx)
    rw [List.map_cons, List.filter_cons, List.filter_cons]
    by_cases e : a ∈ acc
    · have e2 : f a ∈ acc.map f := List.mem_map_of_mem e
      rw [if_neg (by simp [e]), if_neg (by simpa using e2), ih]
    · have e2 : f a ∉ acc.map f := fun m => by
        obtain ⟨b, hb, q⟩ := List.mem_map.mp m
        exact e (h a List.mem_cons_self b hb q.symm ▸ hb)
      rw [if_pos (by simp [e]), if_pos (by simpa using e2), List.map_cons, ih]
theorem numsL_map {w v : Bool} {f : Nat → Nat} {σ : Nat → Ty} (hi : ∀ (P : Nat → Prop), True) : ∀ (ts : List Ty) (acc : List Nat),
    (∀ t ∈ ts, nums v (put w σ t) = (nums w t).map f) → (∀ a b, (a ∈ acc ∨ occs w a ts) → (b ∈ acc ∨ occs w b ts) → f a = f b → a = b) →
    numsL v (acc.map f) (ts.map (put w σ)) = (numsL w acc ts).map f
  | [], acc, _, _ => by rw [List.map_nil, numsL, numsL]
  | t :: ts, acc, ht, hf => by
    rw [List.map_cons, numsL, numsL, ht t List.mem_cons_self]
    have e : (acc.map f ++ ((nums w t).map f).filter fun n => !(acc.map f).contains n) = (acc ++ (nums w t).filter fun n => !acc.contains n).map f := by
      rw [List.map_append, filter_map_inj]
      intro a ha b hb
      exact hf a b (.inr (by rw [occs]; exact .inl ((mem_nums t).mp ha))) (.inl hb)
    rw [e]
    refine numsL_map hi ts _ (fun u hu => ht u (List.mem_cons_of_mem _ hu)) fun a b ha hb => hf a b ?_ ?_
    · rcases ha with ha | ha
      · rcases List.mem_append.mp ha with ha | ha
        · exact .inl ha
        · exact .inr (by rw [occs]; exact .inl ((mem_nums t).mp (List.mem_filter.mp ha).1))
      · exact .inr (by rw [occs]; exact .inr ha)
    · rcases hb with ha | ha
      · rcases List.mem_append.mp ha with ha | ha
        · exact .inl ha
        · exact .inr (by rw [occs]; exact .inl ((mem_nums t).mp (List.mem_filter.mp ha).1))
      · exact .inr (by rw [occs]; exact .inr ha)
/-- numbers renamed one for one -/
theorem nums_map {w v : Bool} {f : Nat → Nat} {σ : Nat → Ty} : ∀ t : Ty, (∀ k, occ w k t → σ k = .var v (f k)) → (v ≠ w → ∀ k, ¬ occ v k t) → (∀ a b, occ w a t → occ w b t → f a = f b → a = b) → nums v (put w σ t) = (nums w t).map f :=
  Ty.ind (fun p k hs hv hf => by
    by_cases e : p = w
    · subst e
      rw [put_var, hs k (occ_var.mpr ⟨rfl, rfl⟩), nums, nums, if_pos rfl, if_pos rfl]
      rfl
    · rw [put_other _ _ e, nums, nums, if_neg e, if_neg]
      · rfl
      · rintro rfl
        exact hv e k (occ_var.mpr ⟨rfl, rfl⟩)) fun l ks ih hs hv hf => by
    rw [put_node, nums, nums]
    have := numsL_map (w := w) (v := v) (f := f) (σ := σ) (fun _ => trivial) ks [] (fun t ht => ih t ht (fun k hk => hs k (occ_node.mpr ⟨t, ht, hk⟩)) (fun e k hk => hv e k (occ_node.mpr ⟨t, ht, hk⟩)) fun a b ha hb => hf a b (occ_node.mpr ⟨t, ht, ha⟩) (occ_node.mpr ⟨t, ht, hb⟩)) fun a b ha hb => by
      have h1 : occs w a ks := ha.resolve_left List.not_mem_nil
      have h2 : occs w b ks := hb.resolve_left List.not_mem_nil
      exact hf a b (by rw [occ]; exact h1) (by rw [occ]; exact h2)
    exact this
/-- what a list of pairs puts in the place of a number -/
def lk (w : Bool) (d : Told) (k : Nat) : Ty := (d.lookup k).getD (.var w k)
theorem lookup_zip {α : Type} {g : Nat → α} : ∀ {l : List Nat} {k : Nat}, k ∈ l → (l.zip (l.map g)).lookup k = some (g k)
  | a :: l, k, h => by
    rw [List.map_cons, List.zip_cons_cons, List.lookup_cons]
    by_cases e : k = a
    · subst e; simp
    · rw [show (k == a) = false from beq_eq_false_iff_ne.mpr e]
      exact lookup_zip ((List.mem_cons.mp h).resolve_left e)
/-- two types of which each comes of the other by putting are alike but for the numbers -/
theorem variants {A B : Ty} {α β : Nat → Ty} (h1 : B = put false β A) (h2 : A = put false α B) :
    (nums false A).length = (nums false B).length ∧ put false (lk false ((nums false A).zip ((nums false B).map (.var false)))) A = B := by
  have back : ∀ k, occ false k A → put false α (β k) = .var false k := fun k hk => by
    have : put false (fun k => put false α (β k)) A = put false (fun k => .var false k) A := by rw [← put_put, ← h1, ← h2, put_id]
    exact put_inj A this k hk
  have isv : ∀ k, occ false k A → ∃ j, β k = .var false j := fun k hk => by
    have := back k hk
    cases e : β k with
    | var p j =>
      cases p with
      | false => exact ⟨j, rfl⟩
      | true => rw [e, put_other _ _ (by decide)] at this; cases this
    | node l ks => rw [e, put_node] at this; cases this
  let f : Nat → Nat := fun k => match β k with | .var _ j => j | .node _ _ => 0
  have fe : ∀ k, occ false k A → β k = .var false (f k) := fun k hk => by
    obtain ⟨j, e⟩ := isv k hk
    show β k = .var false (match β k with | .var _ j => j | .node _ _ => 0)
    rw [e]
  have inj : ∀ a b, occ false a A → occ false b A → f a = f b → a = b := fun a b ha hb e => by
    have e1 := back a ha
    have e2 := back b hb
    rw [fe a ha, e] at e1
    rw [fe b hb] at e2
    rw [e2] at e1
    injection e1 with _ e1
    exact e1.symm
  have hn : nums false B = (nums false A).map f := by
    rw [h1]
    exact nums_map A fe (fun h => absurd rfl h) inj
  refine ⟨by rw [hn, List.length_map], ?_⟩
  rw [hn, h1, List.map_map]
  refine put_congr A fun k hk => ?_
  unfold lk
  rw [lookup_zip ((mem_nums A).mpr hk), fe k hk]
  rfl

/-! ### matching -/
def SatD (ρ : Nat → Ty) (D : Told) : Prop := ∀ p ∈ D, ρ p.1 = p.2
/-- what comes of matching a with b where D is told already -/
structure Mt (w : Bool) (D : Told) (as bs : List Ty) (r : Bool) (D' : Told) : Prop where
  nd : (keys D').Nodup
  yes : r = true → ∀ ρ, SatD ρ D' ↔ SatD ρ D ∧ as.map (put w ρ) = bs
  no : r = false → ∀ ρ, SatD ρ D → as.map (put w ρ) ≠ bs
theorem satD_some {D : Told} (h : (keys D).Nodup) : ∃ ρ, SatD ρ D := by
  refine ⟨fun k => (D.lookup k).getD (.var false 0), ?_⟩
  induction D with
  | nil => intro p hp; cases hp
  | cons q D ih =>
    obtain ⟨h1, h2⟩ := List.nodup_cons.mp h
    intro p hp
    show (List.lookup p.1 (q :: D)).getD _ = p.2
    rw [show q = (q.1, q.2) from rfl, List.lookup_cons]
    rcases List.mem_cons.mp hp with e | hp
    · rw [e]; simp
    · have e : p.1 ≠ q.1 := fun e => h1 (by show q.1 ∈ _; rw [← e]; exact List.mem_map_of_mem hp)
      rw [show (p.1 == q.1) = false from beq_eq_false_iff_ne.mpr e]
      exact ih h2 p hp
theorem Mt.iff {w : Bool} {as bs : List Ty} {r : Bool} {D' : Told} (h : Mt w [] as bs r D') : r = true ↔ ∃ ρ, as.map (put w ρ) = bs := by
  constructor
  · intro e
    obtain ⟨ρ, hρ⟩ := satD_some h.nd
    exact ⟨ρ, ((h.yes e ρ).mp hρ).2⟩
  · rintro ⟨ρ, hρ⟩
    cases e : r with
    | true => rfl
    | false => exact absurd hρ (h.no e ρ fun p hp => by cases hp)
theorem Mt.var_new {w : Bool} {D : Told} {k : Nat} {b : Ty} (hd : (keys D).Nodup) (h : D.lookup k = none) : Mt w D [.var w k] [b] true (D ++ [(k, b)]) := by
  refine ⟨?_, fun _ ρ => ?_, fun e => nomatch e⟩
  · rw [keys_snoc]
    refine List.nodup_append.mpr ⟨hd, List.nodup_cons.mpr ⟨by simp, List.nodup_nil⟩, fun a ha c hc => ?_⟩
    rw [List.mem_singleton.mp hc]
    rintro rfl
    exact look_none.mp h ha
  · rw [List.map_cons, put_var, List.map_nil]
    constructor
    · intro q
      exact ⟨fun p hp => q p (List.mem_append_left _ hp), by rw [q (k, b) (List.mem_append_right _ (List.mem_singleton.mpr rfl))]⟩
    · rintro ⟨q1, q2⟩ p hp
      rcases List.mem_append.mp hp with hp | hp
      · exact q1 p hp
      · rw [List.mem_singleton.mp hp]
        injection q2 with q2
theorem Mt.var_old {w : Bool} {D : Told} {k : Nat} {b u : Ty} {r : Bool} (hd : (keys D).Nodup) (h : D.lookup k = some u) (hr : r = true ↔ u = b) : Mt w D [.var w k] [b] r D := by
  refine ⟨hd, fun e ρ => ?_, fun e ρ q => ?_⟩
  · rw [List.map_cons, put_var, List.map_nil]
    refine ⟨fun q => ⟨q, ?_⟩, fun q => q.1⟩
    rw [q (k, u) (look_mem h), hr.mp e]
  · rw [List.map_cons, put_var, List.map_nil, q (k, u) (look_mem h)]
    intro z
    injection z with z
    rw [hr.mpr z] at e; cases e
theorem Mt.node_no {w : Bool} {D : Told} {l : Lab} {as : List Ty} {b : Ty} (hd : (keys D).Nodup) (h : ∀ bs, bs.length = as.length → b ≠ .node l bs) : Mt w D [.node l as] [b] false D := by
  refine ⟨hd, fun e => (by cases e), fun _ ρ q z => ?_⟩
  rw [List.map_cons, put_node] at z
  injection z with z
  exact h _ (List.length_map _) z.symm
theorem Mt.other {w p : Bool} {D : Told} {k : Nat} {b : Ty} {r : Bool} (hd : (keys D).Nodup) (hp : p ≠ w) (hr : r = true ↔ .var p k = b) : Mt w D [.var p k] [b] r D := by
  refine ⟨hd, fun e ρ => ?_, fun e ρ q z => ?_⟩
  · rw [List.map_cons, put_other _ _ hp, List.map_nil]
    exact ⟨fun q => ⟨q, by rw [hr.mp e]⟩, fun q => q.1⟩
  · rw [List.map_cons, put_other _ _ hp] at z
    injection z with z
    rw [hr.mpr z] at e; cases e
theorem Mt.node {w : Bool} {D D' : Told} {l : Lab} {as bs : List Ty} {r : Bool} (h : Mt w D as bs r D') : Mt w D [.node l as] [.node l bs] r D' := by
  refine ⟨h.nd, fun e ρ => ?_, fun e ρ q z => h.no e ρ q ?_⟩
  · rw [h.yes e ρ, List.map_cons, put_node, List.map_nil]
    refine and_congr_right fun _ => ⟨fun q => by rw [q], fun q => ?_⟩
    injection q with q
    injection q with _ q
  · rw [List.map_cons, put_node] at z
    injection z with z
    injection z with _ z
theorem Mt.nil {w : Bool} {D : Told} (hd : (keys D).Nodup) : Mt w D [] [] true D := ⟨hd, fun _ ρ => ⟨fun q => ⟨q, rfl⟩, fun q => q.1⟩, fun e => nomatch e⟩
theorem Mt.snoc {w : Bool} {D D1 D2 : Told} {as bs : List Ty} {a b : Ty} {r q : Bool} (h : Mt w D as bs r D1) (g : Mt w D1 [a] [b] q D2) (hl : as.length = bs.length) : Mt w D (as ++ [a]) (bs ++ [b]) (r && q) D2 := by
  have sp : ∀ ρ, (as ++ [a]).map (put w ρ) = bs ++ [b] ↔ as.map (put w ρ) = bs ∧ [a].map (put w ρ) = [b] := fun ρ => by
    rw [List.map_append]
    constructor
    · intro z; exact List.append_inj z (by rw [List.length_map, hl])
    · rintro ⟨z1, z2⟩; rw [z1, z2]
  refine ⟨g.nd, fun e ρ => ?_, fun e ρ z y => ?_⟩
  · obtain ⟨e1, e2⟩ := Bool.and_eq_true_iff.mp e
    rw [g.yes e2 ρ, h.yes e1 ρ, sp, and_assoc]
  · obtain ⟨y1, y2⟩ := (sp ρ).mp y
    cases e1 : r with
    | false => exact h.no e1 ρ z y1
    | true =>
      rw [e1] at e
      exact g.no (by simpa using e) ρ ((h.yes e1 ρ).mpr ⟨z, y1⟩) y2
end U

/-! Heads, steps of making two types one, standing within. -/
namespace U
theorem Gw.nokid {l : Lab} {ks : List Ty} (h : ∀ t ∈ ks, Gw t) (ho : okL l ks.length = true) : Gw (.node l ks) :=
  ⟨wf_node.mpr ⟨ho, fun t ht => (h t ht).wf⟩, fun k hk => by obtain ⟨t, ht, hk⟩ := occ_node.mp hk; exact (h t ht).nop k hk, fun k hk => by obtain ⟨t, ht, hk⟩ := occ_node.mp hk; exact (h t ht).lt k hk⟩

inductive Hd (raw : Told) : Ty → Ty → Prop
  | node (l : Lab) (ks : List Ty) : Hd raw (.node l ks) (.node l ks)
  | par (k : Nat) : Hd raw (.var true k) (.var true k)
  | free (k : Nat) : raw.lookup k = none → Hd raw (.var false k) (.var false k)
  | step {k : Nat} {u t' : Ty} : raw.lookup k = some u → Hd raw u t' → Hd raw (.var false k) t'
section
variable {G : Ty → Prop} {raw tri : Told} {a b a' b' : Ty}
theorem Hd.ap (L : Lnk G raw tri) (h : Hd raw a a') : ap tri a = ap tri a' := by
  induction h with
  | node l ks => rfl
  | par k => rfl
  | free k _ => rfl
  | step e _ ih => rw [L.look e, ih]
theorem Hd.isfree {k : Nat} (h : Hd raw a a') (e : a' = .var false k) : raw.lookup k = none := by
  induction h with
  | node l ks => cases e
  | par k => cases e
  | free k h => injection e with _ e; rw [← e]; exact h
  | step _ _ ih => exact ih e
theorem Hd.src (h : Hd raw a a') : a' = a ∨ ∃ p ∈ raw, p.2 = a' := by
  induction h with
  | node l ks => exact .inl rfl
  | par k => exact .inl rfl
  | free k _ => exact .inl rfl
  | step e _ ih =>
    rcases ih with q | q
    · exact .inr ⟨_, look_mem e, q.symm⟩
    · exact .inr q
theorem Hd.of_node {l : Lab} {ks : List Ty} (h : Hd raw (.node l ks) a') : a' = .node l ks := by cases h; rfl
theorem Hd.put (L : Lnk G raw tri) {θ : Nat → Ty} (hs : Sat θ tri) (h : Hd raw a a') : put false θ a = put false θ a' := by
  rw [← hs.ap a, ← hs.ap a', h.ap L]
theorem Hd.gw (hr : ∀ p ∈ raw, Gw p.2) (h : Hd raw a a') (g : Gw a) : Gw a' := by
  rcases h.src with e | ⟨p, hp, e⟩
  · rw [e]; exact g
  · rw [← e]; exact hr p hp

/-! ### steps -/
theorem bind_iff (L : Lnk G raw tri) {x : Nat} (ha : Hd raw a (.var false x)) (hb : Hd raw b b') (θ : Nat → Ty) : Sat θ (tri ++ [(x, U.ap tri b')]) ↔ Sat θ tri ∧ put false θ a = put false θ b := by
  rw [Sat.snoc]
  refine and_congr_right fun hs => ?_
  rw [ha.put L hs, hb.put L hs, hs.ap, put_var]
theorem bind_no (L : Lnk G raw tri) {x : Nat} (ha : Hd raw a (.var false x)) (hb : Hd raw b b') (ne : b' ≠ .var false x) (np : ∀ k, b' ≠ .var true k) (ho : occ false x (U.ap tri b')) (θ : Nat → Ty) (hs : Sat θ tri) : put false θ a ≠ put false θ b := by
  intro e
  rw [ha.put L hs, hb.put L hs, put_var, ← hs.ap b'] at e
  cases b' with
  | var p y =>
    cases p with
    | true => exact np y rfl
    | false =>
      rw [L.look_no (hb.isfree rfl)] at ho
      exact ne (by rw [(occ_var.mp ho).2])
  | node l ks =>
    rw [ap_node] at ho e
    exact occurs_no ho e
theorem map_zip {f : Ty → Ty} : ∀ {as bs : List Ty}, as.length = bs.length → (as.map f = bs.map f ↔ ∀ p ∈ as.zip bs, f p.1 = f p.2)
  | [], [], _ => by simp
  | a :: as, b :: bs, h => by
    have ih := map_zip (f := f) (as := as) (bs := bs) (by simpa using h)
    rw [List.map_cons, List.map_cons, List.zip_cons_cons]
    constructor
    · intro e p hp
      injection e with e1 e2
      rcases List.mem_cons.mp hp with q | q
      · rw [q]; exact e1
      · exact ih.mp e2 p q
    · intro e
      rw [e (a, b) List.mem_cons_self, ih.mpr fun p hp => e p (List.mem_cons_of_mem _ hp)]
theorem node_iff (L : Lnk G raw tri) {l : Lab} {as bs : List Ty} (ha : Hd raw a (.node l as)) (hb : Hd raw b (.node l bs)) (hl : as.length = bs.length) {θ : Nat → Ty} (hs : Sat θ tri) : put false θ a = put false θ b ↔ ∀ p ∈ as.zip bs, put false θ p.1 = put false θ p.2 := by
  rw [ha.put L hs, hb.put L hs, put_node, put_node, ← map_zip hl]
  exact ⟨fun e => by injection e, fun e => by rw [e]⟩
theorem node_no (L : Lnk G raw tri) {l m : Lab} {as bs : List Ty} (ha : Hd raw a (.node l as)) (hb : Hd raw b (.node m bs)) (h : l ≠ m ∨ as.length ≠ bs.length) (θ : Nat → Ty) (hs : Sat θ tri) : put false θ a ≠ put false θ b := by
  intro e
  rw [ha.put L hs, hb.put L hs, put_node, put_node] at e
  injection e with e1 e2
  rcases h with h | h
  · exact h e1
  · exact h (by simpa using congrArg List.length e2)

/-! ### levels -/
def kidsU : Ty → List Ty
  | .var _ _ => []
  | .node _ ks => ks
inductive Dn : Nat → Ty → Ty → Prop
  | z (t : Ty) : Dn 0 t t
  | s {n : Nat} {t u : Ty} {l : Lab} {ks : List Ty} : Dn n t (.node l ks) → u ∈ ks → Dn (n + 1) t u
theorem Dn.put1 {n : Nat} {t u : Ty} (x : Nat) (v : Ty) (h : Dn n t u) : Dn n (put1 x v t) (put1 x v u) := by
  induction h with
  | z t => exact .z _
  | s _ hu ih =>
    rw [put1_node] at ih
    exact .s ih (List.mem_map_of_mem hu)
theorem Dn.le {n : Nat} {t u : Ty} (h : Dn n t u) : n + depth u ≤ depth t := by
  induction h with
  | z t => omega
  | s _ hu ih => have := depth_kid (l := (by assumption)) hu; omega
theorem pow_le {a b : Nat} (h : a ≤ b) : 4 ^ a ≤ 4 ^ b := Nat.pow_le_pow_right (by decide) h
theorem size_le : ∀ t : Ty, wf t → size t ≤ 4 ^ (depth t + 1) := Ty.ind (fun p k _ => by rw [size, depth]; decide) fun l ks ih hw => by
  obtain ⟨h0, h1⟩ := wf_node.mp hw
  have h2 : sizes ks ≤ ks.length * 4 ^ depths ks := by
    have : ∀ (us : List Ty) (d : Nat), (∀ t ∈ us, size t ≤ 4 ^ d) → sizes us ≤ us.length * 4 ^ d := by
      intro us d
      induction us with
      | nil => intro _; rw [sizes]; omega
      | cons t ts ih => 
        intro h
        rw [sizes, List.length_cons, Nat.succ_mul]
        have := h t List.mem_cons_self
        have := ih fun u hu => h u (List.mem_cons_of_mem _ hu)
        omega
    refine this ks _ fun t ht => Nat.le_trans (ih t ht (h1 t ht)) (pow_le (depths_mem ht))
  have h3 : ks.length ≤ 3 := by
    cases l <;> (simp only [okL, Bool.or_eq_true, beq_iff_eq] at h0; omega)
  have h4 : 0 < 4 ^ depths ks := Nat.pow_pos (by decide)
  have h5 : ks.length * 4 ^ depths ks ≤ 3 * 4 ^ depths ks := Nat.mul_le_mul_right _ h3
  rw [size, depth, Nat.pow_succ]
  omega

/-! ### the pairs that are left -/
def isN : Ty → Prop
  | .var _ _ => False
  | .node _ _ => True
structure POk (a b : Ty) : Prop where
  wa : Gw a
  wb : Gw b
  dp : (depth a ≤ 3 ∧ depth b ≤ 3) ∨ (depth a ≤ 4 ∧ depth b ≤ 4 ∧ isN a ∧ isN b)
theorem POk.hd (g : ∀ p ∈ raw, Gd 3 p.2) (h : POk a b) (ha : Hd raw a a') (hb : Hd raw b b') : POk a' b' := by
  have gr : ∀ p ∈ raw, Gw p.2 := fun p hp => (g p hp).w
  refine ⟨ha.gw gr h.wa, hb.gw gr h.wb, ?_⟩
  rcases h.dp with ⟨h1, h2⟩ | ⟨h1, h2, h3, h4⟩
  · refine .inl ⟨?_, ?_⟩
    · rcases ha.src with e | ⟨p, hp, e⟩
      · rw [e]; exact h1
      · rw [← e]; exact (g p hp).dp
    · rcases hb.src with e | ⟨p, hp, e⟩
      · rw [e]; exact h2
      · rw [← e]; exact (g p hp).dp
  · cases a with
    | var p k => exact h3.elim
    | node l as =>
      cases b with
      | var p k => exact h4.elim
      | node m bs => rw [ha.of_node, hb.of_node]; exact .inr ⟨h1, h2, trivial, trivial⟩
theorem POk.left {x : Nat} (h : POk (.var false x) b) : Gd 3 b := by
  rcases h.dp with ⟨_, h2⟩ | ⟨_, _, h3, _⟩
  · exact ⟨h.wb.wf, h.wb.nop, h.wb.lt, h2⟩
  · exact h3.elim
theorem POk.right {x : Nat} (h : POk a (.var false x)) : Gd 3 a := by
  rcases h.dp with ⟨h2, _⟩ | ⟨_, _, _, h3⟩
  · exact ⟨h.wa.wf, h.wa.nop, h.wa.lt, h2⟩
  · exact h3.elim
theorem POk.kids {l m : Lab} {as bs : List Ty} (h : POk (.node l as) (.node m bs)) : ∀ p ∈ as.zip bs, POk p.1 p.2 := fun p hp => by
  obtain ⟨h1, h2⟩ := List.of_mem_zip hp
  refine ⟨h.wa.kid h1, h.wb.kid h2, .inl ?_⟩
  have d1 := depth_kid (l := l) h1
  have d2 := depth_kid (l := m) h2
  rcases h.dp with ⟨q1, q2⟩ | ⟨q1, q2, _⟩ <;> omega
/-- what stays true while two types are made one by the pairs that are left -/
structure UI (one other : Ty) (raw tri : Told) (ps : List (Ty × Ty)) : Prop where
  L : Lnk (Gd 3) raw tri
  sem : ∀ θ : Nat → Ty, put false θ one = put false θ other ↔ Sat θ tri ∧ ∀ p ∈ ps, put false θ p.1 = put false θ p.2
  pok : ∀ p ∈ ps, POk p.1 p.2
  lev : ∀ i p, ps[i]? = some p → ∃ n, i ≤ 2 * n ∧ Dn n (U.ap tri one) (U.ap tri p.1)
  o : Gw one ∧ depth one ≤ 4
end
section
variable {one other a b c : Ty} {raw tri : Told} {ps : List (Ty × Ty)}
theorem UI.start (h : POk one other) : UI one other [] [] [(one, other)] := by
  refine ⟨.nil, fun θ => ⟨fun e => ⟨fun p hp => (nomatch hp), fun p hp => (by rw [List.mem_singleton.mp hp]; exact e)⟩, fun e => e.2 (one, other) List.mem_cons_self⟩, fun p hp => (by rw [List.mem_singleton.mp hp]; exact h), fun i p e => ?_, h.wa, ?_⟩
  · cases i with
    | zero => simp at e; subst e; exact ⟨0, Nat.le_refl _, .z _⟩
    | succ i => simp at e
  · rcases h.dp with ⟨h1, _⟩ | ⟨h1, _⟩ <;> omega
theorem sem_last {θ : Nat → Ty} : (∀ p ∈ ps ++ [(a, b)], put false θ p.1 = put false θ p.2) ↔ (∀ p ∈ ps, put false θ p.1 = put false θ p.2) ∧ put false θ a = put false θ b := by
  constructor
  · intro h; exact ⟨fun p hp => h p (List.mem_append_left _ hp), h (a, b) (List.mem_append_right _ (List.mem_singleton.mpr rfl))⟩
  · rintro ⟨h1, h2⟩ p hp
    rcases List.mem_append.mp hp with hp | hp
    · exact h1 p hp
    · rw [List.mem_singleton.mp hp]; exact h2
theorem UI.levp {qs : List (Ty × Ty)} (h : UI one other raw tri (ps ++ qs)) : ∀ i p, ps[i]? = some p → ∃ n, i ≤ 2 * n ∧ Dn n (ap tri one) (ap tri p.1) := fun i p e => h.lev i p (by
  have : i < ps.length := by
    rcases Nat.lt_or_ge i ps.length with q | q
    · exact q
    · rw [List.getElem?_eq_none q] at e; cases e
  rw [List.getElem?_append_left this]; exact e)
theorem UI.same (h : UI one other raw tri (ps ++ [(a, b)])) (ha : Hd raw a c) (hb : Hd raw b c) : UI one other raw tri ps := by
  refine ⟨h.L, fun θ => ?_, fun p hp => h.pok p (List.mem_append_left _ hp), h.levp, h.o⟩
  rw [h.sem θ, sem_last]
  exact ⟨fun ⟨q1, q2, _⟩ => ⟨q1, q2⟩, fun ⟨q1, q2⟩ => ⟨q1, q2, by rw [ha.put h.L q1, hb.put h.L q1]⟩⟩
theorem UI.lastok (h : UI one other raw tri (ps ++ [(a, b)])) : POk a b := h.pok (a, b) (List.mem_append_right _ (List.mem_singleton.mpr rfl))
theorem UI.fail (h : UI one other raw tri (ps ++ [(a, b)])) (no : ∀ θ, Sat θ tri → put false θ a ≠ put false θ b) (θ : Nat → Ty) : put false θ one ≠ put false θ other := fun e => by
  obtain ⟨q1, q2⟩ := (h.sem θ).mp e
  exact no θ q1 (sem_last.mp q2).2
theorem UI.lev_bind {qs : List (Ty × Ty)} (h : UI one other raw tri (ps ++ qs)) (x : Nat) (v : Ty) : ∀ i p, ps[i]? = some p → ∃ n, i ≤ 2 * n ∧ Dn n (ap (tri ++ [(x, v)]) one) (ap (tri ++ [(x, v)]) p.1) := fun i p e => by
  obtain ⟨n, h1, h2⟩ := h.levp i p e
  refine ⟨n, h1, ?_⟩
  rw [ap_snoc, ap_snoc]
  exact h2.put1 x v
theorem UI.bindL {x : Nat} {b' : Ty} (h : UI one other raw tri (ps ++ [(a, b)])) (ha : Hd raw a (.var false x)) (hb : Hd raw b b') (ho : ¬ occ false x (ap tri b')) : UI one other (raw ++ [(x, b')]) (tri ++ [(x, ap tri b')]) ps := by
  have pk := h.lastok.hd h.L.old ha hb
  have hx : x ∉ keys tri := by rw [← h.L.keys]; exact look_none.mp (ha.isfree rfl)
  refine ⟨.snoc h.L pk.left (pk.wa.lt x (occ_var.mpr ⟨rfl, rfl⟩)) hx ho, fun θ => ?_, fun p hp => h.pok p (List.mem_append_left _ hp), h.lev_bind x _, h.o⟩
  rw [h.sem θ, sem_last, bind_iff h.L ha hb, and_assoc]
  exact and_congr_right fun _ => and_comm
theorem UI.bindR {x : Nat} {a' : Ty} (h : UI one other raw tri (ps ++ [(a, b)])) (ha : Hd raw a a') (hb : Hd raw b (.var false x)) (ho : ¬ occ false x (ap tri a')) : UI one other (raw ++ [(x, a')]) (tri ++ [(x, ap tri a')]) ps := by
  have pk := h.lastok.hd h.L.old ha hb
  have hx : x ∉ keys tri := by rw [← h.L.keys]; exact look_none.mp (hb.isfree rfl)
  refine ⟨.snoc h.L pk.right (pk.wb.lt x (occ_var.mpr ⟨rfl, rfl⟩)) hx ho, fun θ => ?_, fun p hp => h.pok p (List.mem_append_left _ hp), h.lev_bind x _, h.o⟩
  rw [h.sem θ, sem_last, bind_iff h.L hb ha, and_assoc]
  refine and_congr_right fun _ => ?_
  rw [and_comm, eq_comm]
theorem mem_zip_at {α β : Type} {as : List α} {bs : List β} {i : Nat} {p : α × β} (h : (as.zip bs)[i]? = some p) : as[i]? = some p.1 ∧ bs[i]? = some p.2 ∧ i < as.length := by
  rw [List.getElem?_zip_eq_some] at h
  refine ⟨h.1, h.2, ?_⟩
  rcases Nat.lt_or_ge i as.length with q | q
  · exact q
  · rw [List.getElem?_eq_none q] at h; cases h.1
theorem UI.node {l : Lab} {as bs : List Ty} (h : UI one other raw tri (ps ++ [(a, b)])) (ha : Hd raw a (.node l as)) (hb : Hd raw b (.node l bs)) (hl : as.length = bs.length) : UI one other raw tri (ps ++ as.zip bs) := by
  have pk := h.lastok.hd h.L.old ha hb
  have h3 : as.length ≤ 3 := by
    have h0 := (wf_node.mp pk.wa.wf).1
    cases l <;> (simp only [okL, Bool.or_eq_true, beq_iff_eq] at h0; omega)
  refine ⟨h.L, fun θ => ?_, fun p hp => ?_, fun i p e => ?_, h.o⟩
  · rw [h.sem θ, sem_last]
    refine and_congr_right fun hs => ?_
    rw [node_iff h.L ha hb hl hs]
    constructor
    · rintro ⟨q1, q2⟩ p hp
      rcases List.mem_append.mp hp with hp | hp
      · exact q1 p hp
      · exact q2 p hp
    · intro q
      exact ⟨fun p hp => q p (List.mem_append_left _ hp), fun p hp => q p (List.mem_append_right _ hp)⟩
  · rcases List.mem_append.mp hp with hp | hp
    · exact h.pok p (List.mem_append_left _ hp)
    · exact pk.kids p hp
  · rcases Nat.lt_or_ge i ps.length with q | q
    · rw [List.getElem?_append_left q] at e; exact h.levp i p e
    · rw [List.getElem?_append_right q] at e
      obtain ⟨e1, _, e3⟩ := mem_zip_at e
      obtain ⟨n, n1, n2⟩ := h.lev ps.length (a, b) (by rw [List.getElem?_append_right (Nat.le_refl _)]; simp)
      refine ⟨n + 1, by omega, ?_⟩
      have e4 : ap tri a = .node l (as.map (ap tri)) := by rw [ha.ap h.L, ap_node]
      rw [show (a, b).1 = a from rfl, e4] at n2
      exact .s n2 (List.mem_map_of_mem (List.mem_of_getElem? e1))
theorem UI.done (h : UI one other raw tri []) : Mgu tri one other := ⟨h.L.istri, fun θ => by rw [h.sem θ]; exact ⟨fun q => ⟨q, fun p hp => by cases hp⟩, fun q => q.1⟩⟩
theorem UI.dep (h : UI one other raw tri ps) : depth (ap tri one) ≤ 22 := by
  have := Lnk.depth (h := h.L) (d := 3) (fun t g => g.dp) one
  have := h.o.2
  omega
theorem UI.len (h : UI one other raw tri ps) : ps.length ≤ 45 := by
  rcases Nat.lt_or_ge 45 ps.length with q | q
  · obtain ⟨n, h1, h2⟩ := h.lev 45 ps[45] (List.getElem?_eq_getElem q)
    have := h2.le
    have := h.dep
    omega
  · exact q
def sumz (tri : Told) : List (Ty × Ty) → Nat
  | [] => 0
  | p :: ps => size (ap tri p.1) + sumz tri ps
theorem sumz_append (tri : Told) : ∀ ps qs : List (Ty × Ty), sumz tri (ps ++ qs) = sumz tri ps + sumz tri qs
  | [], qs => by rw [List.nil_append, sumz]; omega
  | p :: ps, qs => by rw [List.cons_append, sumz, sumz, sumz_append tri ps qs]; omega
theorem sumz_le {tri : Told} {B : Nat} : ∀ {ps : List (Ty × Ty)}, (∀ p ∈ ps, size (ap tri p.1) ≤ B) → sumz tri ps ≤ ps.length * B
  | [], _ => by rw [sumz]; omega
  | p :: ps, h => by
    rw [sumz, List.length_cons, Nat.succ_mul]
    have := h p List.mem_cons_self
    have := sumz_le (ps := ps) fun q hq => h q (List.mem_cons_of_mem _ hq)
    omega
theorem sumz_zip {tri : Told} : ∀ {as bs : List Ty}, sumz tri (as.zip bs) ≤ sizes (as.map (ap tri))
  | [], bs => by rw [List.zip_nil_left, sumz]; omega
  | a :: as, [] => by rw [List.zip_nil_right, sumz]; omega
  | a :: as, b :: bs => by
    rw [List.zip_cons_cons, sumz, List.map_cons, sizes]
    have := sumz_zip (tri := tri) (as := as) (bs := bs)
    show size (ap tri a) + _ ≤ _
    omega
def bigM : Nat := 45 * 4 ^ 23
theorem UI.sum (h : UI one other raw tri ps) : sumz tri ps ≤ bigM := by
  have h1 : ∀ p ∈ ps, size (ap tri p.1) ≤ 4 ^ 23 := fun p hp => by
    have hw : wf (ap tri p.1) := (Gw.ap (h.L.gw fun t g => g.w) (h.pok p hp).wa).wf
    obtain ⟨i, hi, e⟩ := List.mem_iff_getElem.mp hp
    obtain ⟨n, _, h2⟩ := h.lev i p (by rw [List.getElem?_eq_getElem hi, e])
    have := h2.le
    have := h.dep
    exact Nat.le_trans (size_le _ hw) (pow_le (by omega))
  have h2 := sumz_le h1
  exact Nat.le_trans h2 (Nat.mul_le_mul_right _ h.len)
/-- falls at each turn -/
def meas (raw tri : Told) (ps : List (Ty × Ty)) : Nat := (6 - raw.length) * (bigM + 1) + sumz tri ps
theorem meas_pop {tri : Told} : meas raw tri ps < meas raw tri (ps ++ [(a, b)]) := by
  unfold meas
  rw [sumz_append, sumz, sumz]
  have := size_pos (ap tri a)
  show _ < _ + (_ + (size (ap tri a) + 0))
  omega
theorem meas_bind {x : Nat} {v u : Ty} {qs : List (Ty × Ty)} (h : UI one other (raw ++ [(x, v)]) (tri ++ [(x, u)]) ps) : meas (raw ++ [(x, v)]) (tri ++ [(x, u)]) ps < meas raw tri qs := by
  have h1 := h.sum
  have h2 := h.L.len
  have h3 := h.L.len_raw
  unfold meas
  rw [List.length_append, List.length_singleton] at h2 h3
  rw [List.length_append, List.length_singleton] at h3
  rw [List.length_append, List.length_singleton]
  have h4 : 6 - raw.length = (6 - (raw.length + 1)) + 1 := by omega
  rw [h4, Nat.succ_mul]
  omega
theorem meas_node {l : Lab} {as bs : List Ty} (h : UI one other raw tri (ps ++ [(a, b)])) (ha : Hd raw a (.node l as)) : meas raw tri (ps ++ as.zip bs) < meas raw tri (ps ++ [(a, b)]) := by
  unfold meas
  rw [sumz_append, sumz_append, sumz, sumz]
  have e4 : ap tri a = .node l (as.map (ap tri)) := by rw [ha.ap h.L, ap_node]
  have := sumz_zip (tri := tri) (as := as) (bs := bs)
  have h5 : size (ap tri a) = 1 + sizes (as.map (ap tri)) := by rw [e4, size]
  show _ < _ + (_ + (size (ap tri a) + 0))
  omega
end

/-! ### standing within -/
mutual
def subs : Ty → List Ty
  | .var p k => [.var p k]
  | .node l ks => .node l ks :: subsL ks
def subsL : List Ty → List Ty
  | [] => []
  | t :: ts => subs t ++ subsL ts
end
theorem subs_self (t : Ty) : t ∈ subs t := by cases t <;> (rw [subs]; exact List.mem_cons_self)
theorem mem_subsL {u : Ty} : ∀ {ts : List Ty}, u ∈ subsL ts ↔ ∃ t ∈ ts, u ∈ subs t
  | [] => by simp [subsL]
  | t :: ts => by rw [subsL, List.mem_append, mem_subsL]; simp
theorem subs_kid {l : Lab} {ks : List Ty} {k : Ty} (hk : k ∈ ks) : ∀ t : Ty, .node l ks ∈ subs t → k ∈ subs t := Ty.ind (fun p j h => by rw [subs] at h; cases List.mem_singleton.mp h) fun m js ih h => by
  rw [subs] at h ⊢
  rcases List.mem_cons.mp h with e | h
  · injection e with _ e
    subst e
    exact List.mem_cons_of_mem _ (mem_subsL.mpr ⟨k, hk, subs_self k⟩)
  · obtain ⟨t, ht, h⟩ := mem_subsL.mp h
    exact List.mem_cons_of_mem _ (mem_subsL.mpr ⟨t, ht, ih t ht h⟩)
theorem subs_len : ∀ t : Ty, (subs t).length = size t := Ty.ind (fun p k => by rw [subs, size]; rfl) fun l ks ih => by
  rw [subs, size, List.length_cons]
  have : (subsL ks).length = sizes ks := by
    clear l
    induction ks with
    | nil => rw [subsL, sizes]; rfl
    | cons t ts h =>
      rw [subsL, sizes, List.length_append, ih t List.mem_cons_self, h fun u hu => ih u (List.mem_cons_of_mem _ hu)]
  omega
theorem subs_dep {u : Ty} : ∀ t : Ty, u ∈ subs t → depth u ≤ depth t := Ty.ind (fun p k h => by rw [subs] at h; rw [List.mem_singleton.mp h]; omega) fun l ks ih h => by
  rw [subs] at h
  rcases List.mem_cons.mp h with e | h
  · rw [e]; omega
  · obtain ⟨t, ht, h⟩ := mem_subsL.mp h
    have := ih t ht h
    have := depth_kid (l := l) ht
    omega
theorem subs_gw {u : Ty} : ∀ t : Ty, Gw t → u ∈ subs t → Gw u := Ty.ind (fun p k g h => by rw [subs] at h; rw [List.mem_singleton.mp h]; exact g) fun l ks ih g h => by
  rw [subs] at h
  rcases List.mem_cons.mp h with e | h
  · rw [e]; exact g
  · obtain ⟨t, ht, h⟩ := mem_subsL.mp h
    exact ih t ht (g.kid ht) h
open Classical in
theorem nodup_sub {α : Type} : ∀ {l m : List α}, l.Nodup → (∀ x ∈ l, x ∈ m) → l.length ≤ m.length
  | [], _, _, _ => Nat.zero_le _
  | a :: l, m, hd, hs => by
    obtain ⟨ha, hl⟩ := List.nodup_cons.mp hd
    have hm := hs a List.mem_cons_self
    have h1 := nodup_sub (m := m.erase a) hl fun x hx => by
      have : x ≠ a := fun e => ha (e ▸ hx)
      exact (List.mem_erase_of_ne this).mpr (hs x (List.mem_cons_of_mem _ hx))
    rw [List.length_erase_of_mem hm] at h1
    have := List.length_pos_of_mem hm
    rw [List.length_cons]
    omega
/-- all that can be met -/
def subsT (raw : Told) (one : Ty) : List Ty := subsL (one :: raw.map (·.2))
theorem subsT_one (raw : Told) (one : Ty) : one ∈ subsT raw one := mem_subsL.mpr ⟨one, List.mem_cons_self, subs_self _⟩
theorem subsT_kid {raw : Told} {one : Ty} {l : Lab} {ks : List Ty} {k : Ty} (hk : k ∈ ks) (h : .node l ks ∈ subsT raw one) : k ∈ subsT raw one := by
  obtain ⟨t, ht, h⟩ := mem_subsL.mp h
  exact mem_subsL.mpr ⟨t, ht, subs_kid hk t h⟩
theorem subsT_hd {raw : Told} {one a b : Ty} (h : a ∈ subsT raw one) (hd : Hd raw a b) : b ∈ subsT raw one := by
  rcases hd.src with e | ⟨p, hp, e⟩
  · rw [e]; exact h
  · exact mem_subsL.mpr ⟨p.2, List.mem_cons_of_mem _ (List.mem_map_of_mem hp), by rw [← e]; exact subs_self _⟩
theorem subsT_dep {raw : Told} {one a : Ty} (hr : ∀ p ∈ raw, Gd 3 p.2) (ho : Gd 3 one) (h : a ∈ subsT raw one) : Gd 3 a := by
  obtain ⟨t, ht, h⟩ := mem_subsL.mp h
  have g : Gd 3 t := by
    rcases List.mem_cons.mp ht with e | ht
    · rw [e]; exact ho
    · obtain ⟨p, hp, rfl⟩ := List.mem_map.mp ht; exact hr p hp
  have g2 := subs_gw t g.w h
  have := subs_dep t h
  exact ⟨g2.wf, g2.nop, g2.lt, by have := g.dp; omega⟩
theorem subsT_len {raw tri : Told} {G : Ty → Prop} {one : Ty} (L : Lnk G raw tri) (hr : ∀ p ∈ raw, Gd 3 p.2) (ho : Gd 3 one) : (subsT raw one).length ≤ 1792 := by
  have h1 : ∀ t, Gd 3 t → size t ≤ 256 := fun t g => Nat.le_trans (size_le t g.wf) (Nat.le_trans (pow_le (show depth t + 1 ≤ 4 by have := g.dp; omega)) (by decide))
  have h2 : ∀ ts : List Ty, (∀ t ∈ ts, Gd 3 t) → (subsL ts).length ≤ 256 * ts.length := by
    intro ts
    induction ts with
    | nil => intro _; rw [subsL]; simp
    | cons t ts ih =>
      intro h
      rw [subsL, List.length_append, subs_len, List.length_cons]
      have := h1 t (h t List.mem_cons_self)
      have := ih fun u hu => h u (List.mem_cons_of_mem _ hu)
      omega
  have h3 := h2 (one :: raw.map (·.2)) fun t ht => by
    rcases List.mem_cons.mp ht with e | ht
    · rw [e]; exact ho
    · obtain ⟨p, hp, rfl⟩ := List.mem_map.mp ht; exact hr p hp
  have h4 := L.len
  have h5 := L.len_raw
  rw [List.length_cons, List.length_map] at h3
  unfold subsT
  omega
structure SI (raw tri : Told) (one : Ty) (x : Nat) (ws M : List Ty) : Prop where
  no : ∀ h ∈ M, h ≠ .var false x
  clo : ∀ t, (t = one ∨ ∃ l ks, .node l ks ∈ M ∧ t ∈ ks) → t ∈ ws ∨ ∃ h ∈ M, Hd raw t h
  reach : ∀ t ∈ ws, occ false x (ap tri t) → occ false x (ap tri one)
  subw : ∀ t ∈ ws, t ∈ subsT raw one
  subm : ∀ t ∈ M, t ∈ subsT raw one
  nd : M.Nodup
  len : ws.length ≤ 1 + 3 * M.length
section
variable {G : Ty → Prop} {raw tri : Told} {one t h : Ty} {x : Nat} {ws M : List Ty}
theorem SI.start : SI raw tri one x [one] [] := by
  refine ⟨fun _ h => (nomatch h), fun t q => ?_, fun t q e => ?_, fun t q => ?_, fun _ h => (nomatch h), List.nodup_nil, Nat.le_refl _⟩
  · rcases q with e | ⟨l, ks, e, _⟩
    · exact .inl (List.mem_singleton.mpr e)
    · cases e
  · rw [List.mem_singleton.mp q] at e; exact e
  · rw [List.mem_singleton.mp q]; exact subsT_one _ _
theorem SI.found (L : Lnk G raw tri) (s : SI raw tri one x (ws ++ [t]) M) (hd : Hd raw t (.var false x)) : occ false x (ap tri one) := by
  refine s.reach t (List.mem_append_right _ (List.mem_singleton.mpr rfl)) ?_
  rw [hd.ap L, L.look_no (hd.isfree rfl)]
  exact occ_var.mpr ⟨rfl, rfl⟩
theorem SI.old (s : SI raw tri one x (ws ++ [t]) M) (hd : Hd raw t h) (hm : h ∈ M) : SI raw tri one x ws M := by
  refine ⟨s.no, fun u q => ?_, fun u q => s.reach u (List.mem_append_left _ q), fun u q => s.subw u (List.mem_append_left _ q), s.subm, s.nd, by have := s.len; rw [List.length_append] at this; omega⟩
  rcases s.clo u q with q | q
  · rcases List.mem_append.mp q with q | q
    · exact .inl q
    · rw [List.mem_singleton.mp q]; exact .inr ⟨h, hm, hd⟩
  · exact .inr q
theorem SI.new (L : Lnk G raw tri) (s : SI raw tri one x (ws ++ [t]) M) (hd : Hd raw t h) (hm : h ∉ M) (hn : h ≠ .var false x) (hk : (kidsU h).length ≤ 3) : SI raw tri one x (ws ++ kidsU h) (M ++ [h]) := by
  have ht := s.subw t (List.mem_append_right _ (List.mem_singleton.mpr rfl))
  have hh := subsT_hd ht hd
  refine ⟨fun u q => ?_, fun u q => ?_, fun u q e => ?_, fun u q => ?_, fun u q => ?_, ?_, ?_⟩
  · rcases List.mem_append.mp q with q | q
    · exact s.no u q
    · rw [List.mem_singleton.mp q]; exact hn
  · have old : (u = one ∨ ∃ l ks, .node l ks ∈ M ∧ u ∈ ks) → u ∈ ws ++ kidsU h ∨ ∃ h' ∈ M ++ [h], Hd raw u h' := fun q => by
      rcases s.clo u q with q | ⟨h', q1, q2⟩
      · rcases List.mem_append.mp q with q | q
        · exact .inl (List.mem_append_left _ q)
        · rw [List.mem_singleton.mp q]; exact .inr ⟨h, List.mem_append_right _ (List.mem_singleton.mpr rfl), hd⟩
      · exact .inr ⟨h', List.mem_append_left _ q1, q2⟩
    rcases q with q | ⟨l, ks, q1, q2⟩
    · exact old (.inl q)
    · rcases List.mem_append.mp q1 with q1 | q1
      · exact old (.inr ⟨l, ks, q1, q2⟩)
      · have e := List.mem_singleton.mp q1
        exact .inl (List.mem_append_right _ (by rw [← e]; exact q2))
  · rcases List.mem_append.mp q with q | q
    · exact s.reach u (List.mem_append_left _ q) e
    · refine s.reach t (List.mem_append_right _ (List.mem_singleton.mpr rfl)) ?_
      rw [hd.ap L]
      cases h with
      | var p k => cases q
      | node l ks => rw [ap_node]; exact occ_node.mpr ⟨_, List.mem_map_of_mem q, e⟩
  · rcases List.mem_append.mp q with q | q
    · exact s.subw u (List.mem_append_left _ q)
    · cases h with
      | var p k => cases q
      | node l ks => exact subsT_kid q hh
  · rcases List.mem_append.mp q with q | q
    · exact s.subm u q
    · rw [List.mem_singleton.mp q]; exact hh
  · refine List.nodup_append.mpr ⟨s.nd, List.nodup_cons.mpr ⟨by simp, List.nodup_nil⟩, fun a ha b hb => ?_⟩
    rw [List.mem_singleton.mp hb]
    rintro rfl
    exact hm ha
  · have := s.len
    rw [List.length_append, List.length_singleton] at this
    rw [List.length_append, List.length_append, List.length_singleton]
    omega
theorem SI.none (L : Lnk G raw tri) (s : SI raw tri one x [] M) : ¬ occ false x (ap tri one) := by
  have go : ∀ (n : Nat) (t : Ty), size (ap tri t) ≤ n → (∃ h ∈ M, Hd raw t h) → ¬ occ false x (ap tri t) := by
    intro n
    induction n with
    | zero => intro t hs _; have := size_pos (ap tri t); omega
    | succ n ih =>
      rintro t hs ⟨h, hm, hd⟩ ho
      rw [hd.ap L] at hs ho
      cases h with
      | var p k =>
        cases p with
        | true => rw [ap_par] at ho; exact nomatch (occ_var.mp ho).1
        | false =>
          rw [L.look_no (hd.isfree rfl)] at ho
          exact s.no _ hm (by rw [(occ_var.mp ho).2])
      | node l ks =>
        rw [ap_node] at ho hs
        obtain ⟨u, hu, ho⟩ := occ_node.mp ho
        obtain ⟨k, hk, rfl⟩ := List.mem_map.mp hu
        have hz := size_kid (l := l) hu
        rcases s.clo k (.inr ⟨l, ks, hm, hk⟩) with q | q
        · cases q
        · exact ih k (by omega) q ho
  rcases s.clo one (.inl rfl) with q | q
  · cases q
  · exact go _ one (Nat.le_refl _) q
theorem SI.mlen (L : Lnk G raw tri) (hr : ∀ p ∈ raw, Gd 3 p.2) (ho : Gd 3 one) (s : SI raw tri one x ws M) : M.length ≤ 1792 := Nat.le_trans (nodup_sub s.nd s.subm) (subsT_len L hr ho)
/-- falls at each turn -/
def measS (ws M : List Ty) : Nat := 4 * (1792 - M.length) + ws.length
end
end U

/-! Making two types one by a recursion that opens first. -/
namespace U
section
variable {G : Ty → Prop} {raw tri : Told}
theorem Lnk.selfw (h : Lnk G raw tri) (hg : ∀ t, G t → Gw t) : Lnk Gw tri tri := by
  induction h with
  | nil => exact .nil
  | @snoc raw tri x t h g hx hn ho ih =>
    have e : ap tri (ap tri t) = ap tri t := h.istri.twice t
    have := Lnk.snoc (G := Gw) (t := ap tri t) ih (Gw.ap (h.gw hg) (hg t g)) hx hn (by rw [e]; exact ho)
    rw [e] at this
    exact this
/-- opened, it is what a small one is, opened -/
def Via (tri : Told) (a : Ty) : Prop := ∃ a0, Gd 4 a0 ∧ ap tri a = ap tri a0
def Ext (tri tri' : Told) : Prop := ∃ s, tri' = tri ++ s
theorem Ext.refl (tri : Told) : Ext tri tri := ⟨[], (List.append_nil _).symm⟩
theorem Ext.trans {a b c : Told} (h : Ext a b) (g : Ext b c) : Ext a c := by
  obtain ⟨s, rfl⟩ := h
  obtain ⟨r, rfl⟩ := g
  exact ⟨s ++ r, by rw [List.append_assoc]⟩
theorem Ext.len {a b : Told} (h : Ext a b) : a.length ≤ b.length := by
  obtain ⟨s, rfl⟩ := h
  rw [List.length_append]; omega
theorem Ext.eq {a b : Told} (h : Ext a b) (e : b.length ≤ a.length) : b = a := by
  obtain ⟨s, rfl⟩ := h
  rw [List.length_append] at e
  have : s = [] := List.eq_nil_of_length_eq_zero (by omega)
  rw [this, List.append_nil]
theorem Via.ext {tri' : Told} {a : Ty} (h : Via tri a) (e : Ext tri tri') : Via tri' a := by
  obtain ⟨a0, g, q⟩ := h
  obtain ⟨s, rfl⟩ := e
  exact ⟨a0, g, by rw [ap_append, ap_append, q]⟩
theorem Via.of {a : Ty} (h : Gd 4 a) : Via tri a := ⟨a, h, rfl⟩
theorem Via.kid (L : Lnk (Gd 4) raw tri) {a k : Ty} {l : Lab} {ks : List Ty} (h : Via tri a) (e : ap tri a = .node l ks) (hk : k ∈ ks) : Via tri k := by
  obtain ⟨a0, g, q⟩ := h
  rw [q] at e
  obtain ⟨js, h1, h2⟩ := L.via 6 a0 (L.rank a0) e
  rw [h2] at hk
  obtain ⟨j, hj, rfl⟩ := List.mem_map.mp hk
  refine ⟨j, ?_, L.istri.twice j⟩
  rcases h1 with z | ⟨p, hp, z⟩
  · rw [z] at g; exact g.kid' hj
  · have := L.old p hp
    rw [z] at this
    exact this.kid' hj
theorem Via.dep (L : Lnk (Gd 4) raw tri) {a : Ty} (h : Via tri a) : depth (ap tri a) ≤ 28 := by
  obtain ⟨a0, g, q⟩ := h
  have := L.depth_le (d := 4) (fun t g => g.dp) 6 a0 (L.rank a0)
  have := g.dp
  rw [q]; omega
end
/-- what comes of making the as one with the bs where tri0 is told already -/
structure LU (tri0 tri1 : Told) (as bs : List Ty) (r : Bool) : Prop where
  yes : r = true → ∀ θ, Sat θ tri1 ↔ Sat θ tri0 ∧ as.map (put false θ) = bs.map (put false θ)
  no : r = false → ∀ θ, Sat θ tri0 → as.map (put false θ) ≠ bs.map (put false θ)
theorem LU.nil (tri : Told) : LU tri tri [] [] true := ⟨fun _ θ => ⟨fun h => ⟨h, rfl⟩, fun h => h.1⟩, fun e => (nomatch e)⟩
theorem LU.snoc {t0 t1 t2 : Told} {as bs : List Ty} {a b : Ty} {r q : Bool} (h : LU t0 t1 as bs r) (g : LU t1 t2 [a] [b] q) (hl : as.length = bs.length) : LU t0 t2 (as ++ [a]) (bs ++ [b]) (r && q) := by
  have sp : ∀ θ : Nat → Ty, (as ++ [a]).map (put false θ) = (bs ++ [b]).map (put false θ) ↔ as.map (put false θ) = bs.map (put false θ) ∧ [a].map (put false θ) = [b].map (put false θ) := fun θ => by
    rw [List.map_append, List.map_append]
    constructor
    · intro z; exact List.append_inj z (by rw [List.length_map, List.length_map, hl])
    · rintro ⟨z1, z2⟩; rw [z1, z2]
  refine ⟨fun e θ => ?_, fun e θ z y => ?_⟩
  · obtain ⟨e1, e2⟩ := Bool.and_eq_true_iff.mp e
    rw [g.yes e2 θ, h.yes e1 θ, sp, and_assoc]
  · obtain ⟨y1, y2⟩ := (sp θ).mp y
    cases e1 : r with
    | false => exact h.no e1 θ z y1
    | true =>
      rw [e1] at e
      exact g.no (by simpa using e) θ ((h.yes e1 θ).mpr ⟨z, y1⟩) y2
theorem one_map {θ : Nat → Ty} {a b : Ty} : [a].map (put false θ) = [b].map (put false θ) ↔ put false θ a = put false θ b := by
  rw [List.map_cons, List.map_cons, List.map_nil]
  exact ⟨fun e => by injection e, fun e => by rw [e]⟩
theorem LU.same {tri : Told} {a b : Ty} (e : ap tri a = ap tri b) : LU tri tri [a] [b] true := ⟨fun _ θ => ⟨fun h => ⟨h, by rw [one_map, ← h.ap a, ← h.ap b, e]⟩, fun h => h.1⟩, fun e => (nomatch e)⟩
theorem LU.swap {t0 t1 : Told} {a b : Ty} {r : Bool} (h : LU t0 t1 [a] [b] r) : LU t0 t1 [b] [a] r := ⟨fun e θ => by rw [h.yes e θ, one_map, one_map, eq_comm (a := put false θ a)], fun e θ z => by
  have := h.no e θ z
  rw [ne_eq, one_map] at this ⊢
  exact fun q => this q.symm⟩
theorem LU.bind {tri : Told} {a b : Ty} {x : Nat} (e : ap tri a = .var false x) : LU tri (tri ++ [(x, ap tri b)]) [a] [b] true := ⟨fun _ θ => by
  rw [Sat.snoc, one_map]
  refine and_congr_right fun hs => ?_
  rw [hs.ap, ← hs.ap a, e, put_var], fun e => (nomatch e)⟩
theorem LU.fail {tri : Told} {a b : Ty} {x : Nat} (e : ap tri a = .var false x) (ne : ap tri b ≠ .var false x) (np : ∀ k, ap tri b ≠ .var true k) (ho : occ false x (ap tri b)) : LU tri tri [a] [b] false := ⟨fun e => (nomatch e), fun _ θ hs q => by
  rw [one_map, ← hs.ap a, ← hs.ap b, e, put_var] at q
  cases hb : ap tri b with
  | var p y =>
    cases p with
    | true => exact np y hb
    | false => rw [hb] at ho; exact ne (by rw [hb, (occ_var.mp ho).2])
  | node l ks => rw [hb] at ho q; exact occurs_no ho q⟩
theorem LU.no_node {tri : Told} {a b : Ty} {l m : Lab} {as bs : List Ty} (e1 : ap tri a = .node l as) (e2 : ap tri b = .node m bs) (h : l ≠ m ∨ as.length ≠ bs.length) : LU tri tri [a] [b] false := ⟨fun e => (nomatch e), fun _ θ hs q => by
  rw [one_map, ← hs.ap a, ← hs.ap b, e1, e2, put_node, put_node] at q
  injection q with q1 q2
  rcases h with h | h
  · exact h q1
  · exact h (by simpa using congrArg List.length q2)⟩
theorem LU.node {tri t1 : Told} {a b : Ty} {l : Lab} {as bs : List Ty} {r : Bool} (e1 : ap tri a = .node l as) (e2 : ap tri b = .node l bs) (h : LU tri t1 as bs r) : LU tri t1 [a] [b] r := by
  have key : ∀ θ, Sat θ tri → ([a].map (put false θ) = [b].map (put false θ) ↔ as.map (put false θ) = bs.map (put false θ)) := fun θ hs => by
    rw [one_map, ← hs.ap a, ← hs.ap b, e1, e2, put_node, put_node]
    exact ⟨fun e => by injection e, fun e => by rw [e]⟩
  refine ⟨fun e θ => ?_, fun e θ hs => ?_⟩
  · rw [h.yes e θ]
    exact and_congr_right fun hs => (key θ hs).symm
  · rw [ne_eq, key θ hs]; exact h.no e θ hs
end U

/-! What the law asks, in plain. -/
namespace U
theorem mem_look {r : Told} : (keys r).Nodup → ∀ {k : Nat} {t : Ty}, (k, t) ∈ r → r.lookup k = some t := by
  induction r with
  | nil => intro _ k t h; cases h
  | cons p r ih =>
    intro hd k t h
    obtain ⟨h1, h2⟩ := List.nodup_cons.mp hd
    rw [show p = (p.1, p.2) from rfl, List.lookup_cons]
    rcases List.mem_cons.mp h with e | h
    · rw [← e]; simp
    · have hk : k ∈ keys r := List.mem_map_of_mem (f := (·.1)) h
      have : k ≠ p.1 := fun e => h1 (by rw [e] at hk; exact hk)
      rw [show (k == p.1) = false from beq_eq_false_iff_ne.mpr this]
      exact ih h2 h
section
variable {a b : Ty} {s t r : Told}
/-- one most general replacement goes on to another -/
theorem Mgu.goes (h : Mgu s a b) (g : Mgu r a b) (k : Nat) : put false (apv r) (apv s k) = apv r k := by
  show put false (apv r) (ap s (.var false k)) = _
  rw [← ap_put, g.over h]; rfl
theorem Mgu.alike (h : Mgu s a b) (g : Mgu r a b) (t : Ty) : (nums false (ap s t)).length = (nums false (ap r t)).length ∧ put false (lk false ((nums false (ap s t)).zip ((nums false (ap r t)).map (.var false)))) (ap s t) = ap r t :=
  variants (α := apv s) (β := apv r) (by rw [← ap_put, g.over h]) (by rw [← ap_put, h.over g])
/-- what fills all unknowns -/
structure Fill (r : Told) (c F : Nat → Ty) : Prop where
  eq : ∀ k, k < 6 → F k = put false c (apv r k)
  no : ∀ k, k < 6 → ∀ j, ¬ occ false j (c k)
theorem Fill.put {c F : Nat → Ty} (f : Fill r c F) {t : Ty} (h : Gw t) : put false F t = put false c (ap r t) := by
  rw [ap_put, put_put]
  exact put_congr t fun k hk => f.eq k (h.lt k hk)
theorem Fill.unify {c F : Nat → Ty} (f : Fill r c F) (h : Mgu r a b) (ga : Gw a) (gb : Gw b) : U.put false F a = U.put false F b := by rw [f.put ga, f.put gb, h.unifies]
theorem Mgu.back {F : Nat → Ty} (h : Mgu s a b) (e : put false F a = put false F b) (k : Nat) : put false F (apv s k) = F k := by
  have hs := (h.iff F).mpr e
  show put false F (ap s (.var false k)) = _
  rw [hs.ap, put_var]
theorem Fill.closed {c F : Nat → Ty} (f : Fill r c F) (hr : ∀ k, k < 6 → Gw (apv r k)) {k : Nat} (hk : k < 6) : ∀ j, ¬ occ false j (F k) := fun j hj => by
  rw [f.eq k hk] at hj
  obtain ⟨i, h1, h2⟩ := (occ_put _).mp hj
  exact f.no i ((hr k hk).lt i h1) j h2
theorem put_closed {σ : Nat → Ty} {t : Ty} (h : ∀ j, ¬ occ false j t) : put false σ t = t := put_self t fun k hk => absurd hk (h k)
theorem Fill.most {c F : Nat → Ty} (f : Fill r c F) (hr : ∀ k, k < 6 → Gw (apv r k)) (h : Mgu r a b) (g : Mgu s a b) : (∃ ρ, ∀ k, k < 6 → U.put false ρ (F k) = apv s k) ↔ ∀ k, k < 6 → nums false (apv r k) = [] := by
  constructor
  · rintro ⟨ρ, hρ⟩ k hk
    have e : apv s k = F k := by rw [← hρ k hk, put_closed (f.closed hr hk)]
    have cl : ∀ j, ¬ occ false j (apv s k) := by rw [e]; exact f.closed hr hk
    have e2 := g.goes h k
    rw [put_closed cl] at e2
    rw [← e2]
    exact nums_nil.mpr cl
  · intro hc
    refine ⟨fun k => .var false k, fun k hk => ?_⟩
    have cl := nums_nil.mp (hc k hk)
    have e := h.goes g k
    rw [put_closed cl] at e
    rw [put_id, f.eq k hk, put_closed cl, e]
end
/-! ### numbers exchanged -/
def exF (k : Nat) : Ty := if k < 6 then .var false (5 - k) else .var false k
theorem ex_twice {t : Ty} (h : Gw t) : put false exF (put false exF t) = t := by
  rw [put_put]
  refine put_self t fun k hk => ?_
  have h6 := h.lt k hk
  unfold exF
  rw [if_pos h6, put_var, if_pos (by omega), show 5 - (5 - k) = k by omega]
theorem ex_gw {t : Ty} (h : Gw t) : Gw (put false exF t) := h.put fun k hk => by
  unfold exF
  rw [if_pos hk]; exact Gw.var (by omega)
theorem ex_depth (t : Ty) : depth (put false exF t) ≤ depth t := depth_put_le (m := 0) t fun k _ => by unfold exF; split <;> (rw [depth]; omega)
theorem ex_size (t : Ty) : size (put false exF t) ≤ size t := by
  have := size_put_le (w := false) (σ := exF) (m := 1) (Nat.le_refl _) t fun k _ => by unfold exF; split <;> (rw [size]; omega)
  omega
theorem ex_pok {a b : Ty} (h : POk a b) : POk (put false exF a) (put false exF b) := by
  have isn : ∀ {t : Ty}, isN t → isN (put false exF t) := fun {t} q => by
    cases t with
    | var p k => exact q.elim
    | node l ks => rw [put_node]; trivial
  refine ⟨ex_gw h.wa, ex_gw h.wb, ?_⟩
  have d1 := ex_depth a
  have d2 := ex_depth b
  rcases h.dp with ⟨h1, h2⟩ | ⟨h1, h2, h3, h4⟩
  · exact .inl ⟨by omega, by omega⟩
  · exact .inr ⟨by omega, by omega, isn h3, isn h4⟩
theorem ex_unify {a b : Ty} (ga : Gw a) (gb : Gw b) : (∃ θ : Nat → Ty, put false θ (put false exF a) = put false θ (put false exF b)) ↔ ∃ θ : Nat → Ty, put false θ a = put false θ b := by
  constructor
  · rintro ⟨θ, e⟩
    rw [put_put, put_put] at e
    exact ⟨_, e⟩
  · rintro ⟨θ, e⟩
    refine ⟨fun k => θ (5 - k), ?_⟩
    rw [put_put, put_put]
    have q : ∀ {t : Ty}, Gw t → put false (fun k => put false (fun k => θ (5 - k)) (exF k)) t = put false θ t := fun {t} g => put_congr t fun k hk => by
      have := g.lt k hk
      unfold exF
      rw [if_pos this, put_var, show 5 - (5 - k) = k by omega]
    rw [q ga, q gb, e]
theorem POk.symm {a b : Ty} (h : POk a b) : POk b a := ⟨h.wb, h.wa, by
  rcases h.dp with ⟨h1, h2⟩ | ⟨h1, h2, h3, h4⟩
  · exact .inl ⟨h2, h1⟩
  · exact .inr ⟨h2, h1, h4, h3⟩⟩
end U

/-! list(zip(t, u)) of two tuples. -/
namespace UR
open PySem PySem.Spec PyProof.Rows L2

section
variable {prog : Program} {w : World} {A : Around} {E : Value → Shared → Prop} {s : Shared} {z TI TO T i1 i2 l1 l2 : Addr} {f : Bool} {oT : Obj} {k1 k2 : Nat} {xs ys : Array Value} {x y : Value}

/-- one more pair while the last one is still held -/
theorem held_item {Q : Value → Shared → Prop} (D : ZipApart z TI TO i1 i2 l1 l2) (hz : IsZipHeld s.heap z TI TO T f) (hT : s.heap.get? T = some oT) (hTI : IsPair s.heap TI (.ref i1) (.ref i2))
    (a1 : s.heap.IsTupleIter i1 l1 k1) (a2 : s.heap.IsTupleIter i2 l2 k2) (b1 : s.heap.IsTuple l1 xs) (b2 : s.heap.IsTuple l2 ys) (hx : xs[k1]? = some x) (hy : ys[k2]? = some y)
    (hQ : ∀ h', IsZipHeld h' z TI TO T true → h'.IsTupleIter i1 l1 (k1 + 1) → h'.IsTupleIter i2 l2 (k2 + 1) → IsPair h' s.heap.objs.size x y → (∀ c o, c ≠ z → c ≠ i1 → c ≠ i2 → s.heap.get? c = some o → h'.get? c = some o) →
      Q (.ref s.heap.objs.size) { s with heap := h' }) : wpAny (model prog w) A (Builtin.«zip.__next__» ⟨[.ref z], []⟩) (fun fin s' => ∃ v, fin = .done (.ret v) ∧ Q v s') E s := by
  show wpAny (model prog w) A (field (.ref z) 2 >>= _) _ _ _
  refine wpAny_bind (wpAny_field hz rfl (x := .bool false) rfl ?_)
  show wpAny (model prog w) A (field (.ref z) 3 >>= _) _ _ _
  refine wpAny_bind (wpAny_field hz rfl (x := .ref TI) rfl (wpAny_bind (wpAny_seqItems hTI rfl ?_)))
  show wpAny (model prog w) A (Builtin.SmallTypes.ownedTupleIsFree (.ref z) >>= _) _ _ _
  refine wpAny_bind (wpAny_tupleHeld_zip hz hT fun g1 z1 e1 => ?_)
  simp only [Bool.false_eq_true, if_false]
  rw [← Array.forIn_toList]
  simp only [List.forIn_cons, List.forIn_nil]
  have p1 : Heap.IsTupleIter g1 i1 l1 k1 := a1.at fun o e => e1.extBut _ _ D.i1z e
  have q1 : Heap.IsTuple g1 l1 xs := b1.at fun o e => e1.extBut _ _ D.l1z e
  refine wpAny_bind (wpAny_bind (wpAny_bind (wpAny_holding ?_)))
  show wpAny (model prog w) A (Builtin.SmallTypes.nextOf (.ref i1) >>= _) _ _ _
  refine wpAny_bind (RZ.nextOf_tuple_item (s := { s with heap := g1 }) p1 q1 hx fun g2 p2 e2 => wpAny_pure (wpAny_pure ?_))
  have r2 : Heap.IsTupleIter g2 i2 l2 k2 := a2.at fun o e => e2.extBut _ _ D.i12.symm (e1.extBut _ _ D.i2z e)
  have t2 : Heap.IsTuple g2 l2 ys := b2.at fun o e => e2.extBut _ _ D.l2i1 (e1.extBut _ _ D.l2z e)
  refine wpAny_bind (wpAny_bind (wpAny_holding ?_))
  show wpAny (model prog w) A (Builtin.SmallTypes.nextOf (.ref i2) >>= _) _ _ _
  refine wpAny_bind (RZ.nextOf_tuple_item (s := { s with heap := g2 }) r2 t2 hy fun g3 p3 e3 => wpAny_pure (wpAny_pure (wpAny_pure ?_)))
  show wpAny (model prog w) A (newTuple [x, y] >>= _) _ _ _
  refine wpAny_bind (wpAny_newTuple (wpAny_pure ⟨_, rfl, ?_⟩))
  have size : g3.objs.size = s.heap.objs.size := e3.1.trans (e2.1.trans e1.1)
  have kept : ∀ c o, c ≠ z → c ≠ i1 → c ≠ i2 → s.heap.get? c = some o → g3.get? c = some o := fun c o c1 c2 c3 e => e3.extBut _ _ c3 (e2.extBut _ _ c2 (e1.extBut _ _ c1 e))
  have zz : IsZipHeld g3 z TI TO T true := e3.extBut _ _ D.i2z.symm (e2.extBut _ _ D.i1z.symm z1)
  have pp : Heap.IsTupleIter g3 i1 l1 (k1 + 1) := p2.at fun o e => e3.extBut _ _ D.i12 e
  have new : IsPair (g3.push { cls := .type "tuple", data := .seq #[x, y] }) g3.objs.size x y := Heap.get?_push_size _ rfl
  show Q (.ref g3.objs.size) _
  rw [size] at new ⊢
  exact hQ _ (Heap.get?_push_of_some _ zz) (pp.at fun o e => Heap.get?_push_of_some _ e) (p3.at fun o e => Heap.get?_push_of_some _ e) new fun c o c1 c2 c3 e => Heap.get?_push_of_some _ (kept c o c1 c2 c3 e)
theorem held_next {Q : Option Value → Shared → Prop} (D : ZipApart z TI TO i1 i2 l1 l2) (hz : IsZipHeld s.heap z TI TO T f) (hT : s.heap.get? T = some oT) (hTI : IsPair s.heap TI (.ref i1) (.ref i2))
    (a1 : s.heap.IsTupleIter i1 l1 k1) (a2 : s.heap.IsTupleIter i2 l2 k2) (b1 : s.heap.IsTuple l1 xs) (b2 : s.heap.IsTuple l2 ys) (hx : xs[k1]? = some x) (hy : ys[k2]? = some y)
    (hQ : ∀ h', IsZipHeld h' z TI TO T true → h'.IsTupleIter i1 l1 (k1 + 1) → h'.IsTupleIter i2 l2 (k2 + 1) → IsPair h' s.heap.objs.size x y → (∀ c o, c ≠ z → c ≠ i1 → c ≠ i2 → s.heap.get? c = some o → h'.get? c = some o) →
      Q (some (.ref s.heap.objs.size)) { s with heap := h' }) : wpAny (model prog w) A (pyNext (.ref z)) Q E s := by
  have ty : s.TypeIs (.ref z) "zip" := ⟨_, hz, rfl⟩
  unfold pyNext
  refine wpAny_bind (wpAny_attempt (wpAny_callSpecial?_slot (name := Str.ofString "__next__") ty F.slot_zip_next (wpAny_call_entry F.slot_zip_next ty F.entry_zip_next ?_ (F.args_zip_next_1 _))))
  exact held_item D hz hT hTI a1 a2 b1 b2 hx hy fun h' c1 c2 c3 c4 c5 => wpAny_pure (hQ h' c1 c2 c3 c4 c5)
/-- no further pair, the last one still held -/
theorem held_stop {Q : Option Value → Shared → Prop} (hh : A.handled = none) (D : ZipApart z TI TO i1 i2 l1 l2) (hz : IsZipHeld s.heap z TI TO T f) (hT : s.heap.get? T = some oT) (hTI : IsPair s.heap TI (.ref i1) (.ref i2))
    (a1 : s.heap.IsTupleIter i1 l1 k1) (b1 : s.heap.IsTuple l1 xs) (hx : xs[k1]? = none)
    (hQ : ∀ h', (∀ c o, c ≠ z → c ≠ i1 → s.heap.get? c = some o → h'.get? c = some o) → Q none { s with heap := h' }) : wpAny (model prog w) A (pyNext (.ref z)) Q E s := by
  have ty : s.TypeIs (.ref z) "zip" := ⟨_, hz, rfl⟩
  unfold pyNext
  refine wpAny_bind (wpAny_attempt (wpAny_callSpecial?_slot (name := Str.ofString "__next__") ty F.slot_zip_next (wpAny_call_entry F.slot_zip_next ty F.entry_zip_next ?_ (F.args_zip_next_1 _))))
  show wpAny (model prog w) A.in1 (field (.ref z) 2 >>= _) _ _ _
  refine wpAny_bind (wpAny_field hz rfl (x := .bool false) rfl ?_)
  show wpAny (model prog w) A.in1 (field (.ref z) 3 >>= _) _ _ _
  refine wpAny_bind (wpAny_field hz rfl (x := .ref TI) rfl (wpAny_bind (wpAny_seqItems hTI rfl ?_)))
  show wpAny (model prog w) A.in1 (Builtin.SmallTypes.ownedTupleIsFree (.ref z) >>= _) _ _ _
  refine wpAny_bind (wpAny_tupleHeld_zip hz hT fun g1 z1 e1 => ?_)
  simp only [Bool.false_eq_true, if_false]
  rw [← Array.forIn_toList]
  simp only [List.forIn_cons, List.forIn_nil]
  have p1 : Heap.IsTupleIter g1 i1 l1 k1 := a1.at fun o e => e1.extBut _ _ D.i1z e
  have q1 : Heap.IsTuple g1 l1 xs := b1.at fun o e => e1.extBut _ _ D.l1z e
  refine wpAny_bind (wpAny_bind (wpAny_bind (wpAny_holding ?_)))
  show wpAny (model prog w) A.in1 (Builtin.SmallTypes.nextOf (.ref i1) >>= _) _ _ _
  refine wpAny_bind (RZ.nextOf_tuple_end (s := { s with heap := g1 }) hh p1 q1 hx fun g2 e e2 ⟨o, ho, hc⟩ => ?_)
  exact wpAny_bind (wpAny_isInstance (T := "StopIteration") (b := true) ⟨o, ho, hc⟩ isSubtype_stop (wpAny_pure (hQ _ fun c o c1 c2 q => e2 _ _ c2 (e1.extBut _ _ c1 q))))
end

/-- how the zip stands ahead of turn i, the list being made at S -/
def ZAt (z TI TO i1 i2 l1 l2 S : Addr) (xs ys : Array Value) (i : Nat) (h : Heap) : Prop :=
  IsPair h TI (.ref i1) (.ref i2) ∧ h.IsTupleIter i1 l1 i ∧ h.IsTupleIter i2 l2 i ∧ h.IsTuple l1 xs ∧ h.IsTuple l2 ys ∧
    ((IsZip h z TI TO .none ∧ ∃ a b, IsPair h TO a b) ∨ ∃ T f oT, IsZipHeld h z TI TO T f ∧ h.get? T = some oT ∧ T ≠ z ∧ T ≠ i1 ∧ T ≠ i2 ∧ T ≠ S)
section
variable {prog : Program} {w : World} {A : Around} {E : Value → Shared → Prop} {s : Shared} {z TI TO i1 i2 l1 l2 S : Addr} {xs ys : Array Value} {i : Nat} {h h' : Heap}
/-- the addresses apart from S -/
structure Off (z TI TO i1 i2 l1 l2 S : Addr) : Prop where
  z : z ≠ S
  TI : TI ≠ S
  TO : TO ≠ S
  i1 : i1 ≠ S
  i2 : i2 ≠ S
  l1 : l1 ≠ S
  l2 : l2 ≠ S
theorem ZAt.keep (O : Off z TI TO i1 i2 l1 l2 S) (a : ZAt z TI TO i1 i2 l1 l2 S xs ys i h) (k : ∀ b o, b ≠ S → h.get? b = some o → h'.get? b = some o) : ZAt z TI TO i1 i2 l1 l2 S xs ys i h' := by
  obtain ⟨c1, c2, c3, c4, c5, c6⟩ := a
  refine ⟨k _ _ O.TI c1, c2.at fun o e => k _ o O.i1 e, c3.at fun o e => k _ o O.i2 e, c4.at fun o e => k _ o O.l1 e, c5.at fun o e => k _ o O.l2 e, ?_⟩
  rcases c6 with ⟨d1, a, b, d2⟩ | ⟨T, f, oT, d1, d2, d3, d4, d5, d6⟩
  · exact .inl ⟨k _ _ O.z d1, a, b, k _ _ O.TO d2⟩
  · exact .inr ⟨T, f, oT, k _ _ O.z d1, k _ _ d6 d2, d3, d4, d5, d6⟩
theorem ZAt.next {Q : Option Value → Shared → Prop} {x y : Value} (D : ZipApart z TI TO i1 i2 l1 l2) (a : ZAt z TI TO i1 i2 l1 l2 S xs ys i s.heap) (hS : S < s.heap.objs.size) (hx : xs[i]? = some x) (hy : ys[i]? = some y)
    (hTO : ∃ ot, s.heap.get? TO = some ot) (hQ : ∀ h', ZAt z TI TO i1 i2 l1 l2 S xs ys (i + 1) h' → (∃ ot, h'.get? TO = some ot) → IsPair h' s.heap.objs.size x y → (∀ c o, c ≠ z → c ≠ TO → c ≠ i1 → c ≠ i2 → s.heap.get? c = some o → h'.get? c = some o) →
      Q (some (.ref s.heap.objs.size)) { s with heap := h' }) : wpAny (model prog w) A (pyNext (.ref z)) Q E s := by
  obtain ⟨c1, c2, c3, c4, c5, c6⟩ := a
  have ne : ∀ {c : Addr} {o : Obj}, s.heap.get? c = some o → s.heap.objs.size ≠ c := fun e => Nat.ne_of_gt (Heap.lt_size e)
  have n1 : s.heap.objs.size ≠ i1 := let ⟨_, e, _⟩ := c2; ne e
  have n2 : s.heap.objs.size ≠ i2 := let ⟨_, e, _⟩ := c3; ne e
  rcases c6 with ⟨d1, a, b, d2⟩ | ⟨T, f, oT, d1, d2, d3, d4, d5, d6⟩
  · refine RZ.pyNext_zipT_item D d1 c1 d2 c2 c3 c4 c5 hx hy fun h' g1 g2 g3 g4 g5 g6 k => ?_
    exact hQ h' ⟨k _ _ D.TIz D.TITO D.TIi1 D.TIi2 c1, g3, g4, c4.at fun o e => k _ o D.l1z D.l1TO D.l1i1 D.l1i2 e, c5.at fun o e => k _ o D.l2z D.l2TO D.l2i1 D.l2i2 e, .inr ⟨_, false, _, g1, g5, ne d1, n1, n2, Nat.ne_of_gt hS⟩⟩ ⟨_, g2⟩ g5 k
  · refine held_next D d1 d2 c1 c2 c3 c4 c5 hx hy fun h' g1 g3 g4 g5 k => ?_
    exact hQ h' ⟨k _ _ D.TIz D.TIi1 D.TIi2 c1, g3, g4, c4.at fun o e => k _ o D.l1z D.l1i1 D.l1i2 e, c5.at fun o e => k _ o D.l2z D.l2i1 D.l2i2 e, .inr ⟨T, true, oT, g1, k _ _ d3 d4 d5 d2, d3, d4, d5, d6⟩⟩ (let ⟨o, e⟩ := hTO; ⟨o, k _ o D.TOz D.TOi1 D.TOi2 e⟩) g5 fun c o e1 e2 e3 e4 e => k c o e1 e3 e4 e
theorem ZAt.stop {Q : Option Value → Shared → Prop} (hh : A.handled = none) (D : ZipApart z TI TO i1 i2 l1 l2) (a : ZAt z TI TO i1 i2 l1 l2 S xs ys i s.heap) (hx : xs[i]? = none)
    (hQ : ∀ h', (∀ c o, c ≠ z → c ≠ TO → c ≠ i1 → c ≠ i2 → s.heap.get? c = some o → h'.get? c = some o) → Q none { s with heap := h' }) : wpAny (model prog w) A (pyNext (.ref z)) Q E s := by
  obtain ⟨c1, c2, c3, c4, c5, c6⟩ := a
  rcases c6 with ⟨d1, a, b, d2⟩ | ⟨T, f, oT, d1, d2, d3, d4, d5, d6⟩
  · exact RZ.pyNext_zipT_end hh D d1 c1 d2 c2 c3 c4 c5 (.inl hx) fun h' k => hQ h' k
  · exact held_stop hh D d1 d2 c1 c2 c4 hx fun h' k => hQ h' fun c o e1 e2 e3 e4 e => k c o e1 e3 e

/-- the pairs that were made, by their addresses -/
structure Prs (z TO i1 i2 : Addr) (xs ys : Array Value) (S lo : Addr) (h : Heap) (ts : List Addr) : Prop where
  nd : ts.Nodup
  low : ∀ t ∈ ts, lo ≤ t
  off : ∀ t ∈ ts, t ≠ S ∧ t ≠ z ∧ t ≠ TO ∧ t ≠ i1 ∧ t ≠ i2
  at' : ∀ (j : Nat) (t : Addr), ts[j]? = some t → ∃ x y, xs[j]? = some x ∧ ys[j]? = some y ∧ IsPair h t x y
/-- the filling of the list -/
theorem fill (hh : A.handled = none) (D : ZipApart z TI TO i1 i2 l1 l2) (O : Off z TI TO i1 i2 l1 l2 S) (hlen : xs.size = ys.size) (hsz : xs.size ≤ 1000) {lo : Addr} {h0 : Heap} {res : Value} {R : Result → Shared → Prop}
    (hR : ∀ h' tk acc c ts, (∀ b o, b ≠ S → b ≠ z → b ≠ TO → b ≠ i1 → b ≠ i2 → h0.get? b = some o → h'.get? b = some o) → h'.get? S = some { cls := .type "list", dict := none, data := .seq acc c, slots := #[] } →
      ts.length = xs.size → Prs z TO i1 i2 xs ys S lo h' ts → acc.toList = ts.map Value.ref → R (.ok (.ret res)) { s with heap := h', toks := tk }) :
    ∀ (k i : Nat) (h : Heap) (tk c : Nat) (acc : Array Value) (ts : List Addr), xs.size = i + k → ZAt z TI TO i1 i2 l1 l2 S xs ys i h → (∃ ot, h.get? TO = some ot) → (∀ b o, b ≠ S → b ≠ z → b ≠ TO → b ≠ i1 → b ≠ i2 → h0.get? b = some o → h.get? b = some o) →
      h.get? S = some { cls := .type "list", dict := none, data := .seq acc c, slots := #[] } → acc.toList = ts.map Value.ref → ts.length = i → Prs z TO i1 i2 xs ys S lo h ts → lo ≤ h.objs.size →
      codeAny (model prog w) A (.builtin "list.extend.loop" ⟨[.ref S, .ref z, res], []⟩) R { s with heap := h, toks := tk } := by
  intro k
  induction k with
  | zero =>
    intro i h tk c acc ts e0 st hTO keep hS hacc hl P hb
    refine codeAny_builtin PySem.F.entry_extend_loop ?_
    rw [Around.under_plainId PySem.F.plain_extend_loop _]
    show wpAny (model prog w) A.in1 (pyNext (.ref z) >>= _) _ _ _
    refine wpAny_bind (ZAt.stop (s := { s with heap := h, toks := tk }) (A := A.in1) hh D st (Array.getElem?_eq_none (by omega)) fun h' k' => wpAny_pure ?_)
    refine hR h' tk acc c ts (fun b o n1 n2 n3 n4 n5 e => k' b o n2 n3 n4 n5 (keep b o n1 n2 n3 n4 n5 e)) (k' S _ O.z.symm O.TO.symm O.i1.symm O.i2.symm hS) (by omega) ⟨P.nd, P.low, P.off, fun j t hj => ?_⟩ hacc
    obtain ⟨x, y, g1, g2, g3⟩ := P.at' j t hj
    obtain ⟨m1, m2, m3, m4, m5⟩ := P.off t (List.mem_of_getElem? hj)
    exact ⟨x, y, g1, g2, k' t _ m2 m3 m4 m5 g3⟩
  | succ k ih =>
    intro i h tk c acc ts e0 st hTO keep hS hacc hl P hb
    have hi : i < xs.size := by omega
    have hj : i < ys.size := by omega
    have asz : acc.size = i := by rw [← Array.length_toList, hacc, List.length_map, hl]
    have hSl : S < h.objs.size := Heap.lt_size hS
    refine codeAny_builtin PySem.F.entry_extend_loop ?_
    rw [Around.under_plainId PySem.F.plain_extend_loop _]
    show wpAny (model prog w) A.in1 (pyNext (.ref z) >>= _) _ _ _
    have gone : ∀ {c : Addr} {o : Obj}, h.get? c = some o → h.objs.size ≠ c := fun e => Nat.ne_of_gt (Heap.lt_size e)
    have gz : h.objs.size ≠ z := by
      rcases st.2.2.2.2.2 with ⟨d1, _⟩ | ⟨_, _, _, d1, _⟩
      · exact gone d1
      · exact gone d1
    have gTO : h.objs.size ≠ TO := let ⟨_, e⟩ := hTO; gone e
    have g1 : h.objs.size ≠ i1 := let ⟨_, e, _⟩ := st.2.1; gone e
    have g2 : h.objs.size ≠ i2 := let ⟨_, e, _⟩ := st.2.2.1; gone e
    refine wpAny_bind (ZAt.next (s := { s with heap := h, toks := tk }) (A := A.in1) D st hSl (Array.getElem?_eq_getElem hi) (Array.getElem?_eq_getElem hj) hTO fun h' st' hTO' new k' => ?_)
    dsimp only at new k' ⊢
    have hS' := k' S _ O.z.symm O.TO.symm O.i1.symm O.i2.symm hS
    have old : ∀ b o, b ≠ S → h'.get? b = some o → (h'.update S (Obj.mapSeq (·.push (Value.ref h.objs.size)))).get? b = some o := fun b o n e => (Heap.get?_update_other _ _ (Ne.symm n)).trans e
    have new' := old _ _ (Nat.ne_of_gt hSl) new
    show wpAny (model prog w) A.in1 (updateSeq S (·.push (Value.ref h.objs.size)) >>= _) _ _ _
    refine wpAny_bind (wpAny_updateSeq hS' rfl (wpAny_pure ⟨plainId_quiet PySem.F.plain_extend_loop _, ?_⟩) (by rw [asz]; show i ≤ _; rw [sizeLine_eq]; omega) (by show (acc.push _).size ≤ _; rw [Array.size_push, asz, sizeLine_eq]; omega))
    refine ih (i + 1) _ tk _ (acc.push (Value.ref h.objs.size)) (ts ++ [h.objs.size]) (by omega) (st'.keep O old) (let ⟨o, e⟩ := hTO'; ⟨o, old _ _ O.TO e⟩) (fun b o n1 n2 n3 n4 n5 e => old b o n1 (k' b o n2 n3 n4 n5 (keep b o n1 n2 n3 n4 n5 e))) (Heap.get?_update_self _ hS' rfl) (by rw [Array.toList_push, hacc, List.map_append]; rfl) (by rw [List.length_append, hl]; rfl) ⟨?_, fun t ht => ?_, fun t ht => ?_, fun j t ht => ?_⟩ (Nat.le_trans hb (Nat.le_of_lt (Heap.lt_size new')))
    · refine List.nodup_append.mpr ⟨P.nd, List.nodup_cons.mpr ⟨by simp, List.nodup_nil⟩, fun a ha b hb' => ?_⟩
      rw [List.mem_singleton.mp hb']
      obtain ⟨j, hj⟩ := List.mem_iff_getElem?.mp ha
      obtain ⟨_, _, _, _, e⟩ := P.at' j a hj
      exact (gone e).symm
    · rcases List.mem_append.mp ht with ht | ht
      · exact P.low t ht
      · rw [List.mem_singleton.mp ht]; exact hb
    · rcases List.mem_append.mp ht with ht | ht
      · exact P.off t ht
      · rw [List.mem_singleton.mp ht]; exact ⟨Nat.ne_of_gt hSl, gz, gTO, g1, g2⟩
    · by_cases q : j < ts.length
      · rw [List.getElem?_append_left q] at ht
        obtain ⟨x, y, e1, e2, e3⟩ := P.at' j t ht
        obtain ⟨m1, m2, m3, m4, m5⟩ := P.off t (List.mem_of_getElem? ht)
        exact ⟨x, y, e1, e2, old t _ m1 (k' t _ m2 m3 m4 m5 e3)⟩
      · rw [List.getElem?_append_right (Nat.le_of_not_lt q)] at ht
        by_cases q2 : j = ts.length
        · rw [q2, Nat.sub_self] at ht
          have ht : h.objs.size = t := by simpa using ht
          subst ht
          have : j = i := by omega
          subst this
          exact ⟨_, _, Array.getElem?_eq_getElem hi, Array.getElem?_eq_getElem hj, new'⟩
        · rw [List.getElem?_eq_none (by rw [List.length_singleton]; omega)] at ht
          cases ht
end
end UR

/-! list(zip(t, u)), further: the call, and as an expression. -/
namespace UR
open PySem PySem.Spec PyProof.Rows L2

theorem zip_nolen : typeLookup (.type "zip") "__len__" = pure none := am_miss_of_fast (by decide +kernel)
theorem zip_nohint : typeLookup (.type "zip") "__length_hint__" = pure none := am_miss_of_fast (by decide +kernel)

section
variable {prog : Program} {w : World} {A : Around} {E : Value → Shared → Prop} {s : Shared} {z TI TO i1 i2 l1 l2 : Addr} {xs ys : Array Value}
theorem ZAt.push {S i : Addr} {h : Heap} (o : Obj) (a : ZAt z TI TO i1 i2 l1 l2 S xs ys i h) : ZAt z TI TO i1 i2 l1 l2 S xs ys i (h.push o) := by
  obtain ⟨c1, c2, c3, c4, c5, c6⟩ := a
  have k : ∀ b u, h.get? b = some u → (h.push o).get? b = some u := fun b u e => Heap.get?_push_of_some _ e
  refine ⟨k _ _ c1, c2.at fun o e => k _ o e, c3.at fun o e => k _ o e, c4.at fun o e => k _ o e, c5.at fun o e => k _ o e, ?_⟩
  rcases c6 with ⟨d1, a, b, d2⟩ | ⟨T, f, oT, d1, d2, d3, d4, d5, d6⟩
  · exact .inl ⟨k _ _ d1, a, b, k _ _ d2⟩
  · exact .inr ⟨T, f, oT, k _ _ d1, k _ _ d2, d3, d4, d5, d6⟩
/-- the new list takes what the zip gives -/
theorem taken {S : Addr} {R : Result → Shared → Prop} (hh : A.handled = none) (D : ZipApart z TI TO i1 i2 l1 l2) (O : Off z TI TO i1 i2 l1 l2 S) (hlen : xs.size = ys.size) (hsz : xs.size ≤ 1000) {lo : Addr}
    (hz : IsZip s.heap z TI TO .none) (hTI : IsPair s.heap TI (.ref i1) (.ref i2)) (hTO : ∃ a b, IsPair s.heap TO a b) (a1 : s.heap.IsTupleIter i1 l1 0) (a2 : s.heap.IsTupleIter i2 l2 0) (b1 : s.heap.IsTuple l1 xs) (b2 : s.heap.IsTuple l2 ys)
    (hS : s.heap.get? S = some { cls := .type "list", data := .seq #[] }) (hlo : lo ≤ s.heap.objs.size)
    (hR : ∀ h' tk acc c ts, (∀ b o, b ≠ S → b ≠ z → b ≠ TO → b ≠ i1 → b ≠ i2 → s.heap.get? b = some o → h'.get? b = some o) → h'.get? S = some { cls := .type "list", dict := none, data := .seq acc c, slots := #[] } →
      ts.length = xs.size → Prs z TO i1 i2 xs ys S lo h' ts → acc.toList = ts.map Value.ref → R (.ok (.ret .none)) { s with heap := h', toks := tk }) :
    wpAny (model prog w) A.in1 (Builtin.«list.__init__» ⟨[.ref S, .ref z], []⟩)
      (fun fin s' => match fin with | .done f => R (.ok f) s' | .again c' => c'.quiet = true ∧ codeAny (model prog w) A c' R s') (fun e s' => R (.error e) s') s := by
  have ty : ∀ h : Heap, IsZip h z TI TO .none → ∀ tk, ({ s with heap := h, toks := tk } : Shared).TypeIs (.ref z) "zip" := fun h e tk => ⟨_, e, rfl⟩
  show wpAny (model prog w) A.in1 (do let old ← Builtin.List.listItems (.ref S); Builtin.List.listUpdate (.ref S) (fun _ => #[]); letGo old.toList.reverse; Builtin.List.listExtendWith (.ref S) (.ref z) .none) _ _ s
  refine wpAny_bind ?_
  unfold Builtin.List.listItems
  refine wpAny_bind (wpAny_seqItems hS rfl (wpAny_pure ?_))
  show wpAny (model prog w) A.in1 (updateSeq S (fun _ => #[]) >>= fun _ => letGo (#[] : Array Value).toList.reverse >>= fun _ => Builtin.List.listExtendWith (.ref S) (.ref z) .none) _ _ s
  refine wpAny_bind (wpAny_updateSeq hS rfl ?_)
  have sS := Heap.get?_update_self (Obj.mapSeq (fun _ => (#[] : Array Value))) hS rfl
  have oth : ∀ b o, b ≠ S → s.heap.get? b = some o → (s.heap.update S (Obj.mapSeq (fun _ => (#[] : Array Value)))).get? b = some o := fun b o n e => (Heap.get?_update_other _ _ (Ne.symm n)).trans e
  have usz : (s.heap.update S (Obj.mapSeq (fun _ => (#[] : Array Value)))).objs.size = s.heap.objs.size := (Heap.SameBut.update ..).1
  generalize hg : s.heap.update S (Obj.mapSeq (fun _ => (#[] : Array Value))) = g at sS oth usz ⊢
  refine wpAny_bind (wpAny_letGo ?_)
  have hz' : IsZip g z TI TO .none := oth _ _ O.z hz
  unfold Builtin.List.listExtendWith
  refine wpAny_bind (wpAny_typeOf (T := "zip") (ty g hz' s.toks) ?_)
  have n1 : Builtin.List.listSameRef (.ref S) (.ref z) = false := by simp [Builtin.List.listSameRef, O.z.symm]
  have n2 : (Value.type "zip" == Value.type "list") = false := by decide
  have n3 : (Value.type "zip" == Value.type "tuple") = false := by decide
  simp only [n1, n2, n3, Bool.or_false, Bool.false_eq_true, if_false]
  refine wpAny_bind (wpAny_pyIter_zip hz' (wpAny_bind (wpAny_holding ?_)))
  unfold Builtin.List.listLengthHint
  refine wpAny_bind (wpAny_specialOf (ty g hz' s.toks) zip_nolen ?_)
  show wpAny (model prog w) A.in1 (specialOf (Value.ref z) (Str.ofString "__length_hint__") >>= _) _ _ _
  refine wpAny_bind (wpAny_specialOf (ty g hz' s.toks) zip_nohint (wpAny_pure ?_))
  show wpAny (model prog w) A.in1 (rule "list.extend.makes-room" >>= fun _ => Builtin.List.listTouch (.ref S) >>= fun _ => again (.builtin "list.extend.loop" ⟨[.ref S, .ref z, .none], []⟩)) _ _ _
  refine wpAny_bind (wpAny_rule (wpAny_bind ?_))
  show wpAny (model prog w) A.in1 (updateSeq S (·.push .none) >>= fun _ => updateSeq S (·.pop)) _ _ _
  refine wpAny_bind (wpAny_updateSeq sS rfl ?_)
  have sS2 := Heap.get?_update_self (Obj.mapSeq (·.push Value.none)) sS rfl
  refine wpAny_updateSeq (hz := by seq_fits) sS2 rfl (wpAny_pure ⟨plainId_quiet PySem.F.plain_extend_loop _, ?_⟩)
  have sS3 := Heap.get?_update_self (Obj.mapSeq (·.pop)) sS2 rfl
  have oth3 : ∀ b o, b ≠ S → s.heap.get? b = some o → ((g.update S (Obj.mapSeq (·.push Value.none))).update S (Obj.mapSeq (·.pop))).get? b = some o :=
    fun b o n e => (Heap.get?_update_other _ _ (Ne.symm n)).trans ((Heap.get?_update_other _ _ (Ne.symm n)).trans (oth b o n e))
  have usz3 : ((g.update S (Obj.mapSeq (·.push Value.none))).update S (Obj.mapSeq (·.pop))).objs.size = s.heap.objs.size := (Heap.SameBut.update ..).1.trans ((Heap.SameBut.update ..).1.trans usz)
  obtain ⟨a, b, hTO⟩ := hTO
  have st : ZAt z TI TO i1 i2 l1 l2 S xs ys 0 ((g.update S (Obj.mapSeq (·.push Value.none))).update S (Obj.mapSeq (·.pop))) :=
    ⟨oth3 _ _ O.TI hTI, a1.at fun o e => oth3 _ o O.i1 e, a2.at fun o e => oth3 _ o O.i2 e, b1.at fun o e => oth3 _ o O.l1 e, b2.at fun o e => oth3 _ o O.l2 e, .inl ⟨oth3 _ _ O.z hz, a, b, oth3 _ _ O.TO hTO⟩⟩
  exact fill (s := s) (h0 := s.heap) hh D O hlen hsz hR xs.size 0 _ s.toks _ #[] [] (Nat.zero_add _).symm st ⟨_, oth3 _ _ O.TO hTO⟩ (fun b o n1 _ _ _ _ e => oth3 b o n1 e) sS3 rfl rfl
    ⟨List.nodup_nil, (fun _ h => nomatch h), (fun _ h => nomatch h), (fun j t h => by simp at h)⟩ (by rw [usz3]; exact hlo)
/-- list(z), z a zip of two tuples of one length -/
theorem call_list_zip {Q : Value → Shared → Prop} (hh : A.handled = none) (D : ZipApart z TI TO i1 i2 l1 l2) (hlen : xs.size = ys.size) (hsz : xs.size ≤ 1000)
    (hz : IsZip s.heap z TI TO .none) (hTI : IsPair s.heap TI (.ref i1) (.ref i2)) (hTO : ∃ a b, IsPair s.heap TO a b) (a1 : s.heap.IsTupleIter i1 l1 0) (a2 : s.heap.IsTupleIter i2 l2 0) (b1 : s.heap.IsTuple l1 xs) (b2 : s.heap.IsTuple l2 ys)
    (hQ : ∀ h' tk acc c ts, (∀ b o, b ≠ z → b ≠ TO → b ≠ i1 → b ≠ i2 → s.heap.get? b = some o → h'.get? b = some o) → h'.get? s.heap.objs.size = some { cls := .type "list", dict := none, data := .seq acc c, slots := #[] } →
      ts.length = xs.size → Prs z TO i1 i2 xs ys s.heap.objs.size s.heap.objs.size h' ts → acc.toList = ts.map Value.ref → Q (.ref s.heap.objs.size) { s with heap := h', toks := tk }) :
    wpAny (model prog w) A (call (.type "list") [.ref z]) Q E s := by
  refine callType_codes (Q₁ := fun obj s₁ => obj = .ref s.heap.objs.size ∧ s₁ = { s with heap := s.heap.push { cls := .type "list", data := .seq #[] } }) PySem.F.called_list (PySem.F.typeCall_list_1 _) PySem.F.entry_list_init (code_list_new _ ⟨rfl, rfl⟩) fun obj s1 h1 => ?_
  obtain ⟨rfl, rfl⟩ := h1
  have hS : (s.heap.push { cls := .type "list", data := .seq #[] }).get? s.heap.objs.size = some { cls := .type "list", data := .seq #[] } := Heap.get?_push_size _ rfl
  have k : ∀ b u, s.heap.get? b = some u → (s.heap.push { cls := .type "list", data := .seq #[] }).get? b = some u := fun b u e => Heap.get?_push_of_some _ e
  have off : ∀ {c : Addr} {o : Obj}, s.heap.get? c = some o → c ≠ s.heap.objs.size := fun e => Nat.ne_of_lt (Heap.lt_size e)
  obtain ⟨a, b, hTO⟩ := hTO
  have O : Off z TI TO i1 i2 l1 l2 s.heap.objs.size := ⟨off hz, off hTI, off hTO, let ⟨_, e, _⟩ := a1; off e, let ⟨_, e, _⟩ := a2; off e, let ⟨_, e, _⟩ := b1; off e, let ⟨_, e, _⟩ := b2; off e⟩
  refine ⟨⟨_, hS, rfl⟩, PySem.F.args_list_init_2 _ _, ?_⟩
  refine taken (A := A.in1) (lo := s.heap.objs.size) hh D O hlen hsz (k _ _ hz) (k _ _ hTI) ⟨a, b, k _ _ hTO⟩ (a1.at fun o e => k _ o e) (a2.at fun o e => k _ o e) (b1.at fun o e => k _ o e) (b2.at fun o e => k _ o e) hS (by rw [Heap.size_push]; exact Nat.le_succ _) fun h' tk acc c ts keep hS' hl P hacc => ?_
  exact ⟨rfl, hQ h' tk acc c ts (fun b o n2 n3 n4 n5 e => keep b o (off e) n2 n3 n4 n5 (k b o e)) hS' hl P hacc⟩
end

/-- list(zip(t, u)), t and u tuples of one length: new pairs in a new list -/
def tListZip (K : PySem.W.Frag) (ta : TA) : TE := fun σ H Q => ta σ H fun vs H1 => ∃ (a b : Addr) (xs ys : List V), vs = [.ref a, .ref b] ∧ SqT K H1 a xs ∧ SqT K H1 b ys ∧ xs.length = ys.length ∧ xs.length ≤ 1000 ∧
  ∀ (D : Addr) (H2 : Hp) (ts : List Addr), Same H1 H2 → H1 D = none → H2 D = some (.lst (ts.map V.ref)) → ts.length = xs.length → (∀ (j : Nat) (t : Addr), ts[j]? = some t → ∃ x y, xs[j]? = some x ∧ ys[j]? = some y ∧ H2 t = some (.tup [x, y])) → Q (.ref D) H2
section
variable {X : Cx}
theorem pe_listZip {e e2 : Expr} {ta : TA} {p p2 q pos : Pos} (hc : X.calm = true) (hg : Gl X "list") (hm : X.mg "list" = none) (hg2 : Gl X "zip") (hm2 : X.mg "zip" = none) (ha : PA X [e, e2] ta)
    (hs : starEach [e, e2] X.env = (false, eval e X.env) :: starEach [e2] X.env := by rfl) (hpl : (backTo q (starEach [e2] X.env)).any (·.1) = false := by rfl)
    (na : ∀ z : Expr, starEach [.Call (.Name "zip" p2) [e, e2] [] q] X.env = (false, eval (.Call (.Name "zip" p2) [e, e2] [] q) X.env) :: starEach [] X.env := by intro _; rfl) :
    PE X (.Call (.Name "list" p) [.Call (.Name "zip" p2) [e, e2] [] q] [] pos) (tListZip X.K ta) := by
  refine ⟨fun pins s σ H Q I h => ?_⟩
  refine Call_ (ld_blt I hg hm boot_list ?_)
  refine PyProof.Rows.callWith_type1 (PyProof.Rows.args_cons ?_ (na e)) (na e) rfl
  refine Call_ (ld_blt I hg2 hm2 PyProof.Rows.boot_zip (PyProof.Rows.callWith_type1 (thn (ha.run q pins s σ H _ I h) fun us s1 ⟨vs, H1, I1, r1, q1⟩ => ?_) hs hpl))
  obtain ⟨a, b, xs, ys, ex, hqx, hqy, hlen, hsz, q2⟩ := q1
  subst ex
  cases r1 with
  | cons r rr =>
    cases rr with
    | cons r' rr =>
      cases rr
      cases r
      cases r'
      obtain ⟨its, rv, p1, _⟩ := I1.tuple hqx
      obtain ⟨its2, rv2, p2, _⟩ := I1.tuple hqy
      have la : a < s1.heap.objs.size := p1.lt
      have lb : b < s1.heap.objs.size := p2.lt
      have l1 : its.toArray.size = xs.length := by rw [List.size_toArray, rv.length]
      have l2 : its2.toArray.size = ys.length := by rw [List.size_toArray, rv2.length]
      refine RZ.call_zipT (show s1.heap.IsTuple a its.toArray from p1) (show s1.heap.IsTuple b its2.toArray from p2) fun h' hz hTI hTO g1 g2 hsz' hk => ?_
      refine PyProof.Rows.args_nil ?_
      refine call_list_zip (s := { s1 with heap := h' }) (I1.ok.hd hc) (PySem.W.ktu_apart s1.heap.objs.size a b la lb) (xs := its.toArray) (ys := its2.toArray) (l1.trans (hlen.trans l2.symm)) (by rw [l1]; exact hsz) hz hTI ⟨_, _, hTO⟩ g1 g2 (Heap.IsTuple.at (show s1.heap.IsTuple a its.toArray from p1) fun o e => hk _ o e) (Heap.IsTuple.at (show s1.heap.IsTuple b its2.toArray from p2) fun o e => hk _ o e) fun h2 tk acc c ts keep hD hl P hacc => ?_
      have low : ∀ c o, s1.heap.get? c = some o → h2.get? c = some o := fun c o e => by
        have hlt := Heap.lt_size e
        exact keep c o (Nat.ne_of_lt (Nat.lt_of_lt_of_le hlt (Nat.le_add_right _ _))) (Nat.ne_of_lt (Nat.lt_of_lt_of_le hlt (Nat.le_add_right _ _))) (Nat.ne_of_lt hlt) (Nat.ne_of_lt (Nat.lt_of_lt_of_le hlt (Nat.le_add_right _ _))) (hk c o e)
      have ge : s1.heap.objs.size ≤ h'.objs.size := by rw [hsz']; exact Nat.le_add_right _ _
      have I2 : Inv X pins σ H1 { s1 with heap := h2, toks := tk } := I1.kept low
      have nD : H1 h'.objs.size = none := I1.hok.fresh ge
      have lts : ts.length = xs.length := hl.trans l1
      have vals : ∀ l : List Addr, Vals (l.map V.ref) (l.map Value.ref) := fun l => by
        induction l with
        | nil => exact .nil
        | cons t l ih => exact .cons rfl ih
      have newD : ObjOk X.prog X.w (upd H1 h'.objs.size (.lst (ts.map V.ref))) h2 h'.objs.size (.lst (ts.map V.ref)) := by
        refine ⟨by rw [List.length_map, lts, sizeLine_eq]; omega, ts.map Value.ref, c, vals ts, ?_⟩
        rw [← hacc]
        exact hD
      have I3 := I2.take (h' := h2) (t' := tk) (fun b u _ e => e) (I1.fpOk ge nD) newD
      obtain ⟨H2, I4, up, got⟩ := DX.takeT (P := fun t vs => ∃ j x y, ts[j]? = some t ∧ xs[j]? = some x ∧ ys[j]? = some y ∧ vs = [x, y]) I1 ts _ I3 P.nd fun t ht => by
        obtain ⟨j, hj⟩ := List.mem_iff_getElem?.mp ht
        obtain ⟨u, v, e1, e2, e3⟩ := P.at' j t hj
        have hge : s1.heap.objs.size ≤ t := Nat.le_trans ge (P.low t ht)
        have e1' : its[j]? = some u := by simpa using e1
        have e2' : its2[j]? = some v := by simpa using e2
        have jx : j < xs.length := by rw [rv.length]; exact (List.getElem?_eq_some_iff.mp e1').1
        have jy : j < ys.length := by rw [rv2.length]; exact (List.getElem?_eq_some_iff.mp e2').1
        obtain ⟨u', hu', ru⟩ := rv.get (List.getElem?_eq_getElem jx)
        obtain ⟨v', hv', rv'⟩ := rv2.get (List.getElem?_eq_getElem jy)
        rw [e1'] at hu'; cases hu'
        rw [e2'] at hv'; cases hv'
        exact ⟨hge, (upd_ne (P.off t ht).1).trans (I1.hok.fresh hge), [xs[j], ys[j]], ⟨j, xs[j], ys[j], hj, List.getElem?_eq_getElem jx, List.getElem?_eq_getElem jy, rfl⟩, fun H2 => ⟨(by show 2 ≤ sizeLine; decide), [u, v], .cons ru (.cons rv' .nil), ⟨_, e3, rfl, _, rfl⟩⟩⟩
      refine ⟨.ref h'.objs.size, H2, I4, rfl, q2 h'.objs.size H2 ts (fun b o e => up b o (by rw [upd_ne (ne_of_none e nD)]; exact e)) nD (up _ _ upd_same) lts fun j t hj => ?_⟩
      obtain ⟨vs, ⟨k, x, y, f1, f2, f3, rfl⟩, g⟩ := got t (List.mem_of_getElem? hj)
      have : k = j := nd_ix P.nd f1 hj
      subst this
      exact ⟨x, y, f2, f3, g⟩
end
end UR

/-! sorted(set(xs)) of a list of whole numbers. -/
namespace UR
open PySem PySem.Spec PyProof.Rows L2
section
variable {P : Program} {w : World} {A : Around} {E : Value → Shared → Prop} {s : Shared}

/-- a new empty set -/
abbrev eSet (w : World) : Obj := { cls := .type "set", dict := none, data := .set #[] 0 (.fresh 0 0 (!w.params.followText "set-order")) }
/-- what set.__init__ does of a list of ints: from the empty set at a -/
theorem set_init_list {a l : Addr} {items : Array Value} {ns : List Int} (hh : A.handled = none) (ha : s.heap.get? a = some (eSet w)) (hla : l ≠ a) (hl : s.heap.IsList l items) (hit : IntsAre items.toList ns) (hb : ns.length + 1 < scanBound)
    {R : PySem.Fin → Shared → Prop} (hF : ∀ (h' : Heap) (tk c : Nat), SetR w h' a (fun j => decide (j ∈ ns)) c → c ≤ ns.length → (∀ b o, b ≠ a → s.heap.get? b = some o → h'.get? b = some o) → R (.done (.ret .none)) { s with heap := h', toks := tk }) :
    wpAny (model P w) A (Builtin.«set.__init__» ⟨[.ref a, .ref l], []⟩) R E s := by
  have size : items.size = ns.length := by
    have q := IntsAre.length hit
    rwa [Array.length_toList] at q
  have ty : s.TypeIs (.ref a) "set" := ⟨_, ha, rfl⟩
  obtain ⟨ol, hol, hcl, nl, hdl⟩ := id hl
  obtain ⟨ocls, odict, odata, oslots⟩ := ol
  simp only at hcl hdl
  subst hcl; subst hdl
  have n1 := F.sub_list_set
  have n2 := F.sub_list_frozenset
  have n3 : (Value.type "list" == Value.type "dict") = false := by decide
  unfold Builtin.«set.__init__» noKeywords Builtin.Frozenset.updateFrom
  generalize hPI : pyIter = PI
  wp_walk
  subst hPI
  refine wpAny_pyIter_list hl (wpAny_bind (wpAny_runValue ?_))
  have lts : l < s.heap.objs.size := Heap.lt_size hol
  have ats : a < s.heap.objs.size := Heap.lt_size ha
  have hh2 : A.in1.handled = none := hh
  have off : a ∉ [s.heap.objs.size, l] := by
    simp only [List.mem_cons, List.mem_singleton, List.not_mem_nil, or_false, not_or]
    exact ⟨Nat.ne_of_lt ats, hla.symm⟩
  have val : ∀ (i : Nat) (v : Value), items[i]? = some v → ∃ k t, ns[i]? = some k ∧ v = .int k t := fun i v hv => by
    have hi : i < ns.length := by rw [← size]; exact (Array.getElem?_eq_some_iff.mp hv).1
    obtain ⟨t, e⟩ := PyProof.Rows.IntsAre.int_at hit i v (by rw [Array.getElem?_toList]; exact hv)
    refine ⟨ns[i], t, List.getElem?_eq_getElem hi, ?_⟩
    rw [e, List.getD_eq_getElem?_getD, List.getElem?_eq_getElem hi] <;> rfl
  refine set_update_ints ((Walks.list hh2 _ l (Nat.ne_of_lt lts) items).toS) a off ns size hb val (items.size - 0) 0 _ (by omega) (Nat.zero_le _) ⟨⟨_, Heap.get?_push_size _ rfl, rfl, rfl⟩, hl.push _⟩
    ⟨0, Nat.le_refl 0, setR_new_at (Heap.get?_push_of_some _ ha)⟩ fun s' c' hm hc' hS' => ?_
  obtain ⟨h', g2, d', tk', os'⟩ := s'
  have eg : g2 = s.gens := hm.gens
  have ed : d' = s.drawn := hm.drawn
  have eo : os' = s.os := hm.os
  subst eg; subst ed; subst eo
  show wpAny _ _ _ _ _ _
  refine wpAny_pure ?_
  show wpAny _ _ (ret Value.none) _ _ _
  rw [size] at hc'
  refine wpAny_pure (hF h' tk' c' hS' hc' fun b o nb e => hm.heap b o ?_ (Heap.get?_push_of_some _ e))
  simp only [List.mem_cons, List.mem_singleton, List.not_mem_nil, or_false, not_or]
  exact ⟨nb, Nat.ne_of_lt (Heap.lt_size e)⟩
/-- set(xs) of a list of ints, so that it may be sorted -/
theorem call_set_ints {l : Addr} {items : Array Value} {ns : List Int} {Q : Value → Shared → Prop} (hh : A.handled = none) (hl : s.heap.IsList l items) (hit : IntsAre items.toList ns) (hb : ns.length + 1 < scanBound)
    (h : ∀ (h' : Heap) (tk c : Nat), SetR w h' s.heap.objs.size (fun j => decide (j ∈ ns)) c → c ≤ ns.length → (∀ b o, s.heap.get? b = some o → h'.get? b = some o) → Q (.ref s.heap.objs.size) { s with heap := h', toks := tk }) :
    wpAny (model P w) A (call (.type "set") [.ref l]) Q E s := by
  have called := PySem.F.called_set
  obtain ⟨mro0, mro1, hmro⟩ := called.mro
  have hmade := called.made
  have hsub := called.sub
  refine wpAny_call (codeAny_of_tree ?_)
  show wpAny _ _ (callAny (.type "set") _) _ _ _
  refine wpAny_pure ⟨Code.quiet_builtin _ (by decide +kernel), codeAny_builtin PySem.F.entry_type_call ?_⟩
  rw [Around.under_plain (weight_type_call_type "set" [.ref l] []) rfl]
  have notT := called.notType
  have can := called.canCreate
  have hct := PySem.F.typeCall_set_1 (.ref l)
  repeat (any_goals (first | assumption | wp_step))
  let g := s.heap.push (eSet w)
  refine codeAny_mono (code_set_led1 (.ref l) (E := E) (Q₁ := fun obj s₁ => obj = .ref s.heap.objs.size ∧ s₁ = { s with heap := g }) ⟨rfl, rfl⟩) fun r s₁ hr => ?_
  cases r with
  | error e => exact hr
  | ok fl =>
    cases fl with
    | next => exact hr.elim
    | brk => exact hr.elim
    | cont => exact hr.elim
    | ret obj =>
      obtain ⟨rfl, rfl⟩ := hr
      have hS : g.get? s.heap.objs.size = some (eSet w) := Heap.get?_push_size _ rfl
      have hT : Shared.TypeIs { s with heap := g } (.ref s.heap.objs.size) "set" := ⟨_, hS, rfl⟩
      have hli := called.init.lookup
      have hbi := called.init.bind (.ref s.heap.objs.size)
      have hg : ∀ b o, s.heap.get? b = some o → g.get? b = some o := fun b o e => Heap.get?_push_of_some _ e
      have hlS : l < s.heap.objs.size := let ⟨_, e, _⟩ := hl; Heap.lt_size e
      repeat (any_goals (first | assumption | wp_step))
      refine codeAny_mono (codeAny_call_builtin (R := wants (fun r s₂ => r = .none ∧ ∃ h' tk c, s₂ = { s with heap := h', toks := tk } ∧ SetR w h' s.heap.objs.size (fun j => decide (j ∈ ns)) c ∧ c ≤ ns.length ∧ (∀ b o, s.heap.get? b = some o → h'.get? b = some o)) E)
        called.init.plain PySem.F.entry_set_init (check_set_init_1 hT ?_)) fun r₂ s₂ hr₂ => ?_
      · refine set_init_list (s := { s with heap := g }) (by exact hh) hS (Nat.ne_of_lt hlS) (hl.at fun o e => hg _ o e) hit hb fun h' tk c hR hc hk => ?_
        exact ⟨rfl, h', tk, c, rfl, hR, hc, fun b o e => hk b o (Nat.ne_of_lt (Heap.lt_size e)) (hg b o e)⟩
      · cases r₂ with
        | error e => exact hr₂
        | ok fl₂ =>
          cases fl₂ with
          | next => exact hr₂.elim
          | brk => exact hr₂.elim
          | cont => exact hr₂.elim
          | ret r =>
            obtain ⟨rfl, h', tk, c', rfl, hS', hc', hk'⟩ := hr₂
            repeat (any_goals (first | assumption | wp_step))
            exact h _ _ _ hS' hc' hk'
end
/-- set(xs) -/
def rSetL (w : World) (K : PySem.W.Frag) : List V → Hp → VK → Prop := fun xs H Q => ∃ (a : Addr) (ns : List Int), xs = [.ref a] ∧ SqL K H a (ns.map V.int) ∧ ns.length ≤ 4000 ∧ ∀ p c, H p = none → c ≤ ns.length → Q (.ref p) (upd H p (SetO w p (fun j => decide (j ∈ ns)) c))
theorem cr_setL {X : Cx} (hc : X.calm = true) : CallR X (.type "set") (rSetL X.w X.K) := by
  intro pins s σ H xs us Q I r h
  obtain ⟨a, ns, rfl, hq, hl, q⟩ := h
  obtain ⟨u, rfl, ru⟩ := vals1 r
  cases ru
  obtain ⟨its, rv, pl, hz⟩ := I.list hq
  refine call_set_ints (I.ok.hd hc) pl.isList (by simpa using RZ.intsAre_vals rv) (by unfold scanBound; omega) fun h' tk c hR hcl hk => ?_
  have new : H s.heap.objs.size = none := I.hok.fresh (Nat.le_refl _)
  exact ⟨.ref _, upd H s.heap.objs.size (SetO X.w s.heap.objs.size (fun j => decide (j ∈ ns)) c), I.laid (t' := tk) hk (Nat.le_refl _) (setO_new hR), rfl, q _ c new hcl⟩
end UR

/-! repr of data; list(d.values()); dict(zip(l, m)); a dict whose keys are nested tuples. -/
namespace UR
open PySem PySem.Spec PyProof.Rows L2

/-! ### repr -/
def rReprD (K : PySem.W.Frag) : List V → Hp → VK → Prop := fun xs H Q => ∃ (a : Addr) (d : PyData), xs = [.ref a] ∧ Dp K H (.ref a) d ∧ d.showable = true ∧ d.hasDict = false ∧ d.depth ≤ 62 ∧ d.shown.length ≤ sizeLine ∧ Q (.str d.shown) H
theorem cr_reprD {X : Cx} (hg : X.A.guards = some []) (hu : X.A.units + 64 < cLine) : CallR X (.builtin "repr") (rReprD X.K) := by
  intro pins s σ H xs us Q I r h
  obtain ⟨a, d, rfl, hd, hs, hn, hdp, hl, q⟩ := h
  obtain ⟨u, rfl, ru⟩ := vals1 r
  cases ru
  obtain ⟨as, rd⟩ := Dp.reads I d _ _ hd rfl
  refine repr_of_reads' rd hs (fun z => by rw [hn] at z; cases z) hg (by omega) (fun _ _ e => e) (fun h' u tk hk => ?_) hl
  exact ⟨.str d.shown, H, I.kept (t' := tk) hk, ⟨u, rfl⟩, q⟩
def rReprB : List V → Hp → VK → Prop := fun xs H Q => ∃ b : Bool, xs = [.bl b] ∧ Q (.str (if b then "True" else "False")) H
theorem cr_reprB {X : Cx} : CallR X (.builtin "repr") rReprB := by
  intro pins s σ H xs us Q I r h
  obtain ⟨b, rfl, q⟩ := h
  obtain ⟨u, rfl, ru⟩ := vals1 r
  cases ru
  refine PySem.P.repr_of_bool ⟨.str (if b then "True" else "False"), H, I.tok _, ⟨s.toks, rfl⟩, q⟩

/-! ### list(d.values()) -/
theorem kv_at {κ : Type} : ∀ {kvs : List (κ × V)} {vs : List (κ × Value)}, KV kvs vs → ∀ {i : Nat} {k : κ} {v : Value}, vs[i]? = some (k, v) → ∃ x, kvs[i]? = some (k, x) ∧ RelV x v
  | _, _, .nil, i, k, v, h => by simp at h
  | _, _, .cons (a := p) r t, 0, k, v, h => by
    have e := Option.some.inj h
    refine ⟨p.2, ?_, by rw [show v = _ from (congrArg Prod.snd e).symm]; exact r.2⟩
    show some p = some (k, p.2)
    rw [show k = p.1 from by rw [r.1]; exact (congrArg Prod.fst e).symm]
  | _, _, .cons r t, i + 1, k, v, h => kv_at t (i := i) (k := k) (v := v) h
def tListVals (td : TE) : TE := fun σ H Q => td σ H fun x H1 => ∃ (a : Addr) (kvs : List (Key × V)), x = .ref a ∧ H1 a = some (.dK kvs) ∧ ∀ p, H1 p = none → Q (.ref p) (upd H1 p (.lst (kvs.map (·.2))))
theorem pe_listVals {X : Cx} {o : Expr} {p pos apos mpos : Pos} {td : TE} (hc : X.calm = true) (hg : Gl X "list") (hm : X.mg "list" = none) (hd : PE X o td) (hbase : attributeBase o "values" X.env (eval o X.env) = eval o X.env := by rfl) (hline : (apos.endLine == mpos.line) = true := by rfl)
    (hse : starEach [Expr.Call (.Attribute o "values" apos) [] [] mpos] X.env = (false, eval (Expr.Call (.Attribute o "values" apos) [] [] mpos) X.env) :: starEach [] X.env := by rfl) :
    PE X (.Call (.Name "list" p) [.Call (.Attribute o "values" apos) [] [] mpos] [] pos) (tListVals td) := by
  refine ⟨fun pins s σ H Q I h => ?_⟩
  refine Call_ (ld_blt I hg hm boot_list (PyProof.Rows.callWith_type1 (PyProof.Rows.args_cons ?_ hse) hse rfl))
  refine wpAny_Call_method (T := "dict") (id := "dict.values") hbase rfl hline PySem.F.plainAttrs_dict PySem.F.slot_dict_values PySem.F.type_dict_values (thn (hd.run pins s σ H _ I h) fun u s1 ⟨x, H1, I1, rx, a, kvs, ex, ha, q⟩ => ?_)
  subst ex
  obtain rfl : u = Value.ref a := rx
  obtain ⟨z, hsys, vs, rel, dof⟩ := dk_of I1.hok ha
  obtain ⟨ep, dat⟩ := dof.dictAt
  refine ⟨dof.typeIs, dof.mapOf.noDict, ?_⟩
  have hlen : kvs.length = vs.length := rel.length
  let g := s1.heap.push { cls := .type "dict_values", data := .fields #[.ref a] }
  have k1 : ∀ b u, s1.heap.get? b = some u → g.get? b = some u := fun b u e => Heap.get?_push_of_some _ e
  show wpAny _ _ (callWith mpos (.builtin "dict.values") [.ref a] [] []) _ X.xe s1
  refine method_meetsIn PySem.F.slot_dict_values PySem.F.entry_dict_values rfl (PySem.evalArgs_none ⟨rfl, dof.typeIs, PySem.F.args_dict_values_1 _, _, meets_dict_values (mixKind X.prog X.w) a hsys, ⟨⟨vs, dof⟩, ?_⟩⟩)
  refine PyProof.Rows.args_nil ?_
  refine PySem.W.kdl_call (s := { s1 with heap := g }) (PySem.W.kdl_values (knd := mixKind X.prog X.w) (kvs := vs) (ep := ep) (r := s1.heap.objs.size) (d := a)) (I1.ok.hd hc) ⟨⟨_, Heap.get?_push_size _ rfl, rfl, rfl⟩, dat.keep k1⟩ (by rw [← hlen]; exact z) fun h' tk acc c hk hS hacc => ?_
  have low : ∀ b o, s1.heap.get? b = some o → h'.get? b = some o := fun b o e => hk b o (k1 b o e)
  have ge : s1.heap.objs.size ≤ g.objs.size := by rw [Heap.size_push]; exact Nat.le_succ _
  refine ⟨.ref g.objs.size, upd H1 g.objs.size (.lst (kvs.map (·.2))), I1.laid (t' := tk) low ge (show ObjOk X.prog X.w _ _ _ (.lst (kvs.map (·.2))) from ⟨?_, acc.toList, c, ?_, ?_⟩), rfl, q _ (I1.hok.fresh ge)⟩
  · rw [List.length_map]; exact z
  · have el : acc.toList.length = acc.size := by simp
    refine vals_of_at (by rw [List.length_map, el, hacc.1, hlen]) fun j x w h1 h2 => ?_
    obtain ⟨k, hky⟩ := hacc.2 j w (by rw [← Array.getElem?_toList]; exact h2)
    obtain ⟨y, e1, e2⟩ := kv_at rel hky
    rw [List.getElem?_map, e1] at h1
    have : y = x := Option.some.inj h1
    rw [← this]; exact e2
  · rw [Array.toArray_toList]; exact hS

/-! ### dict(zip(l, m)) -/
abbrev kI (i : Int) : Key := .inl i
def tDictZip (K : PySem.W.Frag) (ta : TA) : TE := fun σ H Q => ta σ H fun vs H1 => ∃ (a b : Addr) (ks : List Int) (ys : List V), vs = [.ref a, .ref b] ∧ SqL K H1 a (ks.map V.int) ∧ SqL K H1 b ys ∧ ks.length = ys.length ∧
  ∀ p, H1 p = none → Q (.ref p) (upd H1 p (.dK (mergeK [] ((ks.map kI).zip ys))))
theorem pe_dictZip {X : Cx} {e e2 : Expr} {ta : TA} {p p2 q pos : Pos} (hc : X.calm = true) (hg : Gl X "dict") (hm : X.mg "dict" = none) (hg2 : Gl X "zip") (hm2 : X.mg "zip" = none) (ha : PA X [e, e2] ta)
    (hs : starEach [e, e2] X.env = (false, eval e X.env) :: starEach [e2] X.env := by rfl) (hpl : (backTo q (starEach [e2] X.env)).any (·.1) = false := by rfl)
    (na : starEach [.Call (.Name "zip" p2) [e, e2] [] q] X.env = (false, eval (.Call (.Name "zip" p2) [e, e2] [] q) X.env) :: starEach [] X.env := by rfl) :
    PE X (.Call (.Name "dict" p) [.Call (.Name "zip" p2) [e, e2] [] q] [] pos) (tDictZip X.K ta) := by
  refine ⟨fun pins s σ H Q I h => ?_⟩
  refine Call_ (ld_blt I hg hm (by decide +kernel : bootBuiltins "dict" = some (.type "dict")) ?_)
  refine PyProof.Rows.callWith_type1 (PyProof.Rows.args_cons ?_ na) na rfl
  refine Call_ (ld_blt I hg2 hm2 PyProof.Rows.boot_zip (PyProof.Rows.callWith_type1 (thn (ha.run q pins s σ H _ I h) fun us s1 ⟨vs, H1, I1, r1, q1⟩ => ?_) hs hpl))
  obtain ⟨a, b, ks, ys, ex, hqx, hqy, hlen, q2⟩ := q1
  subst ex
  cases r1 with
  | cons r rr =>
    cases rr with
    | cons r' rr =>
      cases rr
      cases r
      cases r'
      obtain ⟨its, rv, p1, hz1⟩ := I1.list hqx
      obtain ⟨its2, rv2, p2, _⟩ := I1.list hqy
      have la : a < s1.heap.objs.size := let ⟨_, _, e, _⟩ := p1; Heap.lt_size e
      have lb : b < s1.heap.objs.size := let ⟨_, _, e, _⟩ := p2; Heap.lt_size e
      have l1 : its.length = ks.length := by rw [← rv.length, List.length_map]
      have l2 : its2.length = ys.length := by rw [rv2.length]
      refine call_zip_2 p1.isList p2.isList fun h' hz hTI hTO g1 g2 hsz' hk => PyProof.Rows.args_nil ?_
      have low : ∀ b o, s1.heap.get? b = some o → h'.get? b = some o := hk
      have rel : KV ((ks.map kI).zip ys) ((ks.map kI).zip its2) := by
        have go : ∀ (ks : List Int) (ys : List V) (us : List Value), Vals ys us → KV ((ks.map kI).zip ys) ((ks.map kI).zip us) := by
          intro ks
          induction ks with
          | nil => intro _ _ _; exact .nil
          | cons k ks ih =>
            intro ys us r
            cases r with
            | nil => exact .nil
            | cons r rt => exact .cons ⟨rfl, r⟩ (ih _ _ rt)
        exact go ks ys its2 rv2
      have zl : ((ks.map kI).zip its2).length = min its.toArray.size its2.toArray.size := by
        rw [List.length_zip, List.length_map, List.size_toArray, List.size_toArray, l1]
      refine call_dict_pairs (s := { s1 with heap := h' }) (knd := mixKind X.prog X.w) (kvs := (ks.map kI).zip its2) (PairArg.zip (s1.heap.objs.size + 4) (s1.heap.objs.size + 2) (s1.heap.objs.size + 3) s1.heap.objs.size (s1.heap.objs.size + 1) a b (PySem.W.ktu_apart s1.heap.objs.size a b la lb) its.toArray its2.toArray)
        (I1.ok.hd hc) ⟨hz, hTI, ⟨_, _, hTO⟩, g1, g2, p1.isList.at fun o e => hk _ o e, p2.isList.at fun o e => hk _ o e⟩ ⟨zl, fun i key v hr => ?_⟩ (by rw [List.size_toArray, List.size_toArray, l1]; rw [List.length_map] at hz1; omega) fun h2 tk hd hk2 => ?_
      · obtain ⟨e1, e2⟩ := hr
        have e1' : its[i]? = some key := by simpa using e1
        have e2' : its2[i]? = some v := by simpa using e2
        have hi : i < ks.length := by rw [← l1]; exact (List.getElem?_eq_some_iff.mp e1').1
        obtain ⟨u, hu, ru⟩ := rv.get (i := i) (x := .int ks[i]) (by rw [List.getElem?_map, List.getElem?_eq_getElem hi]; rfl)
        rw [e1'] at hu; cases hu
        obtain ⟨t, rfl⟩ := ru
        refine ⟨kI ks[i], ?_, keyIs_int _ t⟩
        rw [List.getElem?_zip_eq_some]
        exact ⟨by rw [List.getElem?_map, List.getElem?_eq_getElem hi]; rfl, e2'⟩
      · have ge : s1.heap.objs.size ≤ h'.objs.size := by rw [hsz']; exact Nat.le_add_right _ _
        have keep : ∀ b o, s1.heap.get? b = some o → h2.get? b = some o := fun c o e => by
          have hlt := Heap.lt_size e
          refine hk2 c o (fun hmem => ?_) (hk c o e)
          simp only [List.mem_cons, List.not_mem_nil, or_false] at hmem
          rcases hmem with z | z | z | z
          · exact absurd hlt (by rw [z]; exact Nat.not_lt.mpr (Nat.le_add_right _ _))
          · exact absurd hlt (by rw [z]; exact Nat.not_lt.mpr (Nat.le_add_right _ _))
          · exact absurd hlt (by rw [z]; exact Nat.lt_irrefl _)
          · exact absurd hlt (by rw [z]; exact Nat.not_lt.mpr (Nat.le_add_right _ _))
        have hsys : (h'.objs.size == sysModules) = false := beq_eq_false_iff_ne.mpr (Nat.ne_of_gt (Nat.lt_of_lt_of_le I1.big ge))
        have hlenm : (mergeK [] ((ks.map kI).zip ys)).length ≤ sizeLine := by
          refine Nat.le_trans (length_mergeK _ []) ?_
          rw [List.length_nil, Nat.zero_add, List.length_zip, List.length_map]
          rw [List.length_map] at hz1
          omega
        exact ⟨.ref h'.objs.size, upd H1 h'.objs.size (.dK (mergeK [] ((ks.map kI).zip ys))), I1.laid (t' := tk) keep ge (show ObjOk X.prog X.w _ _ _ (.dK _) from ⟨hlenm, hsys, merged [] ((ks.map kI).zip its2), KV.merge rel .nil, hd⟩), rfl, q2 _ (I1.hok.fresh ge)⟩

/-! ### zip of two tuples, walked -/
theorem walk_zipT {K : PySem.W.Frag} {a b : Addr} {xs ys : List V} {n : Nat} (hx : xs.length = n) (hy : ys.length = n) : Walk (RZ.ItzT K a b) n (fun H => SqT K H a xs ∧ SqT K H b ys) (YPair (fun i => xs[i]?) (fun i => ys[i]?)) := by
  refine ⟨fun i H hi q => ?_, fun H q => ⟨xs, ys, q.1, q.2, by omega⟩, fun i H v H' hi q y => ?_⟩
  · exact ⟨xs, ys, xs[i]'(by omega), ys[i]'(by omega), q.1, q.2, by simp [hx, hi], by simp [hy, hi]⟩
  · obtain ⟨T, x, z, h1, h2, h3, h4, h5⟩ := y
    exact ⟨T, x, z, h1, h2, h3, h4 xs q.1, h5 ys q.2⟩
end UR

/-! Types as Python's values. -/
namespace UV
open PySem PySem.Spec PyProof.Rows L2 U

def nmW : Nm → Str
  | .list => "list"
  | .option => "option"
  | .mt => "M.t"
def plW : Pl → Str
  | .int => "int"
  | .bool => "bool"
  | .unit => "unit"
  | .exn => "exn"
/-- the word that a made type begins with -/
def labW : Lab → Str
  | .fn => "fun"
  | .tup => "tuple"
  | .data _ => "data"
  | .plain p => plW p
  | .one true => "ref"
  | .one false => "array"
def varW (p : Bool) : Str := if p then "param" else "unknown"
def word : Ty → Str
  | .var p _ => varW p
  | .node l _ => labW l
mutual
def tyK : Ty → NestedKey
  | .var p k => .tup [.text (varW p), .num k]
  | .node l ks => match l with
    | .tup => .tup [.text "tuple", .tup (tyKs ks)]
    | .data n => .tup [.text "data", .text (nmW n), .tup (tyKs ks)]
    | .fn => .tup (.text "fun" :: tyKs ks)
    | .plain p => .tup (.text (plW p) :: tyKs ks)
    | .one b => .tup (.text (labW (.one b)) :: tyKs ks)
def tyKs : List Ty → List NestedKey
  | [] => []
  | t :: ts => tyK t :: tyKs ts
end
theorem tyKs_eq : ∀ ts : List Ty, tyKs ts = ts.map tyK
  | [] => rfl
  | t :: ts => by rw [tyKs, tyKs_eq ts, List.map_cons]
theorem datas_eq : ∀ ks : List NestedKey, NestedKey.datas ks = ks.map NestedKey.data
  | [] => rfl
  | k :: ks => by rw [NestedKey.datas, datas_eq ks, List.map_cons]
/-- a type as data -/
def tyD (t : Ty) : PyData := (tyK t).data
theorem tyD_var (p : Bool) (k : Nat) : tyD (.var p k) = .tuple [.str (varW p), .int k] := by unfold tyD; rw [tyK, NestedKey.data]; rfl
theorem tyD_tup (ks : List Ty) : tyD (.node .tup ks) = .tuple [.str "tuple", .tuple (ks.map tyD)] := by
  unfold tyD
  rw [tyK, NestedKey.data, NestedKey.datas, NestedKey.datas, NestedKey.data, NestedKey.data, tyKs_eq, datas_eq, List.map_map]
  rfl
theorem tyD_data (n : Nm) (ks : List Ty) : tyD (.node (.data n) ks) = .tuple [.str "data", .str (nmW n), .tuple (ks.map tyD)] := by
  unfold tyD
  rw [tyK, NestedKey.data, NestedKey.datas, NestedKey.datas, NestedKey.datas, NestedKey.data, NestedKey.data, NestedKey.data, tyKs_eq, datas_eq, List.map_map]
  rfl
/-- kinds whose types stand beside the word -/
def flatL : Lab → Bool
  | .fn => true
  | .plain _ => true
  | .one _ => true
  | _ => false
theorem tyD_flat {l : Lab} (h : flatL l = true) (ks : List Ty) : tyD (.node l ks) = .tuple (.str (labW l) :: ks.map tyD) := by
  cases l with
  | tup => cases h
  | data n => cases h
  | fn =>
    unfold tyD
    rw [tyK, NestedKey.data, NestedKey.datas, NestedKey.data, tyKs_eq, datas_eq, List.map_map]
    rfl
  | plain p =>
    unfold tyD
    rw [tyK, NestedKey.data, NestedKey.datas, NestedKey.data, tyKs_eq, datas_eq, List.map_map]
    rfl
  | one b =>
    unfold tyD
    rw [tyK, NestedKey.data, NestedKey.datas, NestedKey.data, tyKs_eq, datas_eq, List.map_map]
    rfl
/-! ### one type, one key -/
theorem varW_inj {p q : Bool} (h : varW p = varW q) : p = q := by
  cases p <;> cases q <;> first | rfl | exact absurd h (by decide +kernel)
theorem varW_labW {p : Bool} {l : Lab} : varW p ≠ labW l := by
  cases p <;> cases l <;> first | decide +kernel | (rename_i q; cases q <;> decide +kernel)
theorem nmW_inj {n m : Nm} (h : nmW n = nmW m) : n = m := by
  cases n <;> cases m <;> first | rfl | exact absurd h (by decide +kernel)
/-- equal words: equal labels, but for the name of data -/
theorem labW_inj {l m : Lab} (h : labW l = labW m) : l = m ∨ ∃ n k, l = .data n ∧ m = .data k := by
  cases l <;> cases m <;> first
    | exact .inl rfl
    | exact .inr ⟨_, _, rfl, rfl⟩
    | exact absurd h (by decide +kernel)
    | (rename_i q; cases q <;> first | exact .inl rfl | exact absurd h (by decide +kernel))
    | (rename_i p q; cases p <;> cases q <;> first | exact .inl rfl | exact absurd h (by decide +kernel))
/-- the first word of a key -/
def hdK : NestedKey → Option NestedKey
  | .tup (k :: _) => some k
  | _ => none
theorem hd_tyK (t : Ty) : hdK (tyK t) = some (.text (word t)) := by
  cases t with
  | var p k => rw [tyK]; rfl
  | node l ks => cases l <;> (rw [tyK]; rfl)
theorem tyK_inj : ∀ a b : Ty, tyK a = tyK b → a = b := Ty.ind (fun p k b h => by
    have hw := congrArg hdK h
    rw [hd_tyK, hd_tyK] at hw
    have hw : varW p = word b := by injection hw with hw; injection hw
    cases b with
    | var q j =>
      have := varW_inj hw
      subst this
      rw [tyK, tyK] at h
      injection h with h
      injection h with _ h
      injection h with h _
      injection h with h
      rw [Int.ofNat.inj h]
    | node l ks => exact absurd hw varW_labW) fun l ks ih b h => by
    have hw0 := congrArg hdK h
    rw [hd_tyK, hd_tyK] at hw0
    have hw : labW l = word b := by injection hw0 with hw0; injection hw0
    have go : ∀ js : List Ty, tyKs ks = tyKs js → ks = js := by
      clear h hw hw0
      intro js
      rw [tyKs_eq, tyKs_eq]
      induction ks generalizing js with
      | nil => intro e; cases js with
        | nil => rfl
        | cons _ _ => cases e
      | cons t ts ih2 =>
        intro e
        cases js with
        | nil => cases e
        | cons u us =>
          rw [List.map_cons, List.map_cons] at e
          injection e with e1 e2
          rw [ih t List.mem_cons_self u e1, ih2 (fun v hv => ih v (List.mem_cons_of_mem _ hv)) us e2]
    cases b with
    | var q j => exact absurd hw.symm varW_labW
    | node m js =>
      rcases labW_inj hw with e | ⟨n, k, e1, e2⟩
      · subst e
        cases l with
        | tup =>
          rw [tyK, tyK] at h
          injection h with h; injection h with _ h; injection h with h _; injection h with h
          rw [go js h]
        | data n =>
          rw [tyK, tyK] at h
          injection h with h; injection h with _ h; injection h with _ h; injection h with h _; injection h with h
          rw [go js h]
        | fn => rw [tyK, tyK] at h; injection h with h; injection h with _ h; rw [go js h]
        | plain p => rw [tyK, tyK] at h; injection h with h; injection h with _ h; rw [go js h]
        | one c => rw [tyK, tyK] at h; injection h with h; injection h with _ h; rw [go js h]
      · subst e1 e2
        rw [tyK, tyK] at h
        injection h with h; injection h with _ h; injection h with h1 h; injection h with h _; injection h with h
        injection h1 with h1
        rw [nmW_inj h1, go js h]
/-! ### data of keys -/
mutual
theorem eqv_data : ∀ x y : NestedKey, PyData.eqv x.data y.data = NestedKey.beq x y
  | .none, y => by cases y <;> (simp only [NestedKey.data, NestedKey.beq]; rfl)
  | .num i, y => by cases y <;> (simp only [NestedKey.data, NestedKey.beq, PyData.eqv] <;> first | rfl | (rw [Bool.beq_eq_decide_eq]))
  | .text i, y => by cases y <;> (simp only [NestedKey.data, NestedKey.beq, PyData.eqv] <;> first | rfl | (rw [Bool.beq_eq_decide_eq]))
  | .tup a, .tup b => by rw [NestedKey.data, NestedKey.data, PyData.eqv, NestedKey.beq, eqv_datas a b]
  | .tup a, .none => by simp only [NestedKey.data, NestedKey.beq]; rfl
  | .tup a, .num _ => by simp only [NestedKey.data, NestedKey.beq]; rfl
  | .tup a, .text _ => by simp only [NestedKey.data, NestedKey.beq]; rfl
theorem eqv_datas : ∀ xs ys : List NestedKey, PyData.eqvAll (NestedKey.datas xs) (NestedKey.datas ys) = NestedKey.beqAll xs ys
  | [], [] => rfl
  | [], _ :: _ => rfl
  | _ :: _, [] => rfl
  | x :: xs, y :: ys => by rw [NestedKey.datas, NestedKey.datas, PyData.eqvAll, NestedKey.beqAll, eqv_data x y, eqv_datas xs ys]
end
open Classical in
theorem eqv_ty (a b : Ty) : PyData.eqv (tyD a) (tyD b) = decide (a = b) := by
  unfold tyD
  rw [eqv_data, ← NestedKey.decide_eq]
  by_cases e : a = b
  · rw [decide_eq_true (congrArg tyK e), decide_eq_true e]
  · rw [decide_eq_false fun q => e (tyK_inj a b q), decide_eq_false e]
theorem lay_all {ds : List PyData} (h : ∀ d ∈ ds, d.canLay0 = true) : PyData.canLayAll0 ds = true := by
  induction ds with
  | nil => rfl
  | cons d ds ih => rw [PyData.canLayAll0, h d List.mem_cons_self, ih fun e he => h e (List.mem_cons_of_mem _ he)]; rfl
theorem lay_str {x : Str} (h : PyData.canLay0 (.str x) = true) : PyData.canLay0 (.str x) = true := h
theorem lay_word (t : Ty) : PyData.canLay0 (.str (word t)) = true := by
  cases t with
  | var p k =>
    show PyData.canLay0 (.str (varW p)) = true
    cases p <;> decide +kernel
  | node l ks =>
    show PyData.canLay0 (.str (labW l)) = true
    cases l <;> first | decide +kernel | (rename_i q; cases q <;> decide +kernel)
theorem lay_nm (n : Nm) : PyData.canLay0 (.str (nmW n)) = true := by cases n <;> decide +kernel
theorem lay_tyD : ∀ t : Ty, (tyD t).canLay0 = true := Ty.ind (fun p k => by
    rw [tyD_var, PyData.canLay0]
    exact lay_all fun d hd => by
      rcases List.mem_cons.mp hd with e | hd
      · rw [e]; exact lay_word (.var p k)
      · rw [List.mem_singleton.mp hd]; rfl) fun l ks ih => by
    have hk : ∀ d ∈ ks.map tyD, d.canLay0 = true := fun d hd => by
      obtain ⟨t, ht, rfl⟩ := List.mem_map.mp hd
      exact ih t ht
    by_cases hf : flatL l = true
    · rw [tyD_flat hf, PyData.canLay0]
      exact lay_all fun d hd => by
        rcases List.mem_cons.mp hd with e | hd
        · rw [e]; exact lay_word (.node l ks)
        · exact hk d hd
    · cases l with
      | tup =>
        rw [tyD_tup, PyData.canLay0]
        exact lay_all fun d hd => by
          rcases List.mem_cons.mp hd with e | hd
          · rw [e]; exact lay_word (.node .tup ks)
          · rw [List.mem_singleton.mp hd, PyData.canLay0]; exact lay_all hk
      | data n =>
        rw [tyD_data, PyData.canLay0]
        exact lay_all fun d hd => by
          rcases List.mem_cons.mp hd with e | hd
          · rw [e]; exact lay_word (.node (.data n) ks)
          · rcases List.mem_cons.mp hd with e | hd
            · rw [e]; exact lay_nm n
            · rw [List.mem_singleton.mp hd, PyData.canLay0]; exact lay_all hk
      | fn => exact absurd rfl hf
      | plain p => exact absurd rfl hf
      | one b => exact absurd rfl hf
mutual
theorem depth_data : ∀ x : NestedKey, x.data.depth = x.depth
  | .none => rfl
  | .num _ => rfl
  | .text _ => rfl
  | .tup a => by rw [NestedKey.data, PyData.depth, NestedKey.depth, depth_datas a]
theorem depth_datas : ∀ xs : List NestedKey, PyData.depthAll (NestedKey.datas xs) = NestedKey.depthAll xs
  | [] => rfl
  | x :: xs => by rw [NestedKey.datas, PyData.depthAll, NestedKey.depthAll, depth_data x, depth_datas xs]
end
theorem depthAll_le {n : Nat} : ∀ {ks : List NestedKey}, (∀ k ∈ ks, k.depth ≤ n) → NestedKey.depthAll ks ≤ n
  | [], _ => by rw [NestedKey.depthAll]; omega
  | k :: ks, h => by
    rw [NestedKey.depthAll]
    have h1 := h k List.mem_cons_self
    have h2 := depthAll_le (ks := ks) fun j hj => h j (List.mem_cons_of_mem _ hj)
    omega
theorem depth_tyK : ∀ t : Ty, wf t → (tyK t).depth ≤ 2 * depth t + 1 := Ty.ind (fun p k _ => by rw [tyK]; simp only [NestedKey.depth, NestedKey.depthAll]; omega) fun l ks ih hw => by
  obtain ⟨h0, h1⟩ := wf_node.mp hw
  have hd : depth (.node l ks) = depths ks := by rw [U.depth]
  have h : NestedKey.depthAll (tyKs ks) ≤ 2 * depth (.node l ks) - 1 := by
    rw [tyKs_eq, hd]
    refine depthAll_le fun k hk => ?_
    obtain ⟨t, ht, rfl⟩ := List.mem_map.mp hk
    have := ih t ht (h1 t ht)
    have := depths_mem ht
    omega
  have pos : ks ≠ [] → 1 ≤ depth (.node l ks) := fun e => by
    cases ks with
    | nil => exact absurd rfl e
    | cons t ts =>
      rw [hd]
      have := depths_mem (t := t) (ts := t :: ts) List.mem_cons_self
      omega
  cases l with
  | tup =>
    have := pos (by rintro rfl; cases h0)
    rw [tyK]; simp only [NestedKey.depth, NestedKey.depthAll]; omega
  | data n =>
    have := pos (by rintro rfl; cases h0)
    rw [tyK]; simp only [NestedKey.depth, NestedKey.depthAll]; omega
  | fn => rw [tyK]; simp only [NestedKey.depth, NestedKey.depthAll]; omega
  | plain p => rw [tyK]; simp only [NestedKey.depth, NestedKey.depthAll]; omega
  | one b => rw [tyK]; simp only [NestedKey.depth, NestedKey.depthAll]; omega
theorem depth_tyD (t : Ty) (h : wf t) : (tyD t).depth ≤ 2 * depth t + 1 := by unfold tyD; rw [depth_data]; exact depth_tyK t h
end UV

/-! Types on the abstract heap: what stays, how they are taken apart and made; == and the dict of types. -/
namespace UV
open PySem PySem.Spec PyProof.Rows L2 U

/-! ### heaps -/
/-- the tuples stay -/
def Tst (H H' : Hp) : Prop := ∀ a xs, Rd H a (.tup xs) → Rd H' a (.tup xs)
theorem Tst.refl (H : Hp) : Tst H H := fun _ _ h => h
theorem Tst.trans {H H1 H2 : Hp} (a : Tst H H1) (b : Tst H1 H2) : Tst H H2 := fun c xs h => b c xs (a c xs h)
theorem tst_same {H H' : Hp} (h : Same H H') : Tst H H' := fun a xs r => by
  rcases r with r | ⟨o, r⟩
  · exact .inl (h _ _ r)
  · exact .inr ⟨o, h _ _ r⟩
/-- all that was tracked, but what stands at d, is as it was -/
def But (d : Addr) (H H' : Hp) : Prop := ∀ b o, b ≠ d → H b = some o → H' b = some o
theorem But.refl (d : Addr) (H : Hp) : But d H H := fun _ _ _ h => h
theorem But.trans {d : Addr} {H H1 H2 : Hp} (a : But d H H1) (b : But d H1 H2) : But d H H2 := fun c o n h => b c o n (a c o n h)
theorem but_same {d : Addr} {H H' : Hp} (h : Same H H') : But d H H' := fun b o _ e => h b o e
theorem but_upd {d : Addr} {H : Hp} (o : HO) : But d H (upd H d o) := fun b u n e => by rw [upd_ne n]; exact e
/-- what may change is no tuple -/
def NoTup (o : Option HO) : Prop := (∀ xs, o ≠ some (.tup xs)) ∧ ∀ u xs, o ≠ some (.frz u (.tup xs))
theorem notup_dK {kvs : List (Key × V)} : NoTup (some (.dK kvs)) := ⟨fun _ h => (nomatch h), fun _ _ h => (nomatch h)⟩
theorem notup_lst {xs : List V} : NoTup (some (.lst xs)) := ⟨fun _ h => (nomatch h), fun _ _ h => (nomatch h)⟩
theorem notup_ext {φ : Heap → Prop} : NoTup (some (.ext φ)) := ⟨fun _ h => (nomatch h), fun _ _ h => (nomatch h)⟩
theorem notup_none : NoTup none := ⟨fun _ h => (nomatch h), fun _ _ h => (nomatch h)⟩
theorem tst_but {d : Addr} {H H' : Hp} (h : But d H H') (n : NoTup (H d)) : Tst H H' := fun a xs r => by
  rcases r with r | ⟨o, r⟩
  · exact .inl (h a _ (fun e => n.1 xs (e ▸ r)) r)
  · exact .inr ⟨o, h a _ (fun e => n.2 o xs (e ▸ r)) r⟩
theorem same_new {H : Hp} {p : Addr} {o : HO} (h : H p = none) : Same H (upd H p o) := fun b u q => by rw [upd_ne (ne_of_none q h)]; exact q
/-- an object that H does not know may change -/
theorem same_mut {H H' : Hp} {p : Addr} {o : HO} (e : Same H H') (h : H p = none) : Same H (upd H' p o) := fun a u ha => by rw [upd_ne (ne_of_none ha h)]; exact e a u ha
theorem same_but {H H' : Hp} {d : Addr} (h : H d = none) (e : But d H H') : Same H H' := fun b o q => e b o (fun z => by rw [z, h] at q; cases q) q

section
variable {K : PySem.W.Frag} {H H' : Hp}
theorem tst_seq {a : Addr} {xs : List V} (e : Tst H H') (h : SqT K H a xs) : SqT K H' a xs := by
  rcases h with h | h
  · exact .inl (e _ _ h)
  · exact .inr h
mutual
/-- data of tuples stays while the tuples stay -/
theorem Dp.key (e : Tst H H') : ∀ (k : NestedKey) (v : V), Dp K H v k.data → Dp K H' v k.data
  | .none, v, h => by cases h; exact .non
  | .num i, v, h => by cases h; exact .int i
  | .text x, v, h => by cases h; exact .str x
  | .tup ks, v, h => by
    rw [NestedKey.data] at h ⊢
    cases h with
    | tup h1 h2 => exact .tup (tst_seq e h1) (Dp.keys e ks _ h2)
theorem Dp.keys (e : Tst H H') : ∀ (ks : List NestedKey) (vs : List V), DpAll K H vs (NestedKey.datas ks) → DpAll K H' vs (NestedKey.datas ks)
  | [], _, h => by cases h; exact .nil
  | k :: ks, _, h => by
    cases h with
    | cons h1 h2 => exact .cons (Dp.key e k _ h1) (Dp.keys e ks _ h2)
end
/-- the value v is the type t -/
abbrev Rep (K : PySem.W.Frag) (H : Hp) (v : V) (t : Ty) : Prop := Dp K H v (tyD t)
abbrev Reps (K : PySem.W.Frag) (H : Hp) (vs : List V) (ts : List Ty) : Prop := DpAll K H vs (ts.map tyD)
theorem Rep.mono {v : V} {t : Ty} (h : Rep K H v t) (e : Tst H H') : Rep K H' v t := Dp.key e (tyK t) v h
theorem Reps.mono (e : Tst H H') : ∀ {vs : List V} {ts : List Ty}, Reps K H vs ts → Reps K H' vs ts
  | _, [], h => by cases h; exact .nil
  | _, t :: ts, h => by
    cases h with
    | cons h1 h2 => exact .cons (Rep.mono h1 e) (Reps.mono e h2)
theorem DpAll.length {vs : List V} {ds : List PyData} (h : DpAll K H vs ds) : vs.length = ds.length := by
  induction ds generalizing vs with
  | nil => cases h; rfl
  | cons d ds ih =>
    cases h with
    | cons h1 h2 => rw [List.length_cons, List.length_cons, ih h2]
theorem Reps.length {vs : List V} {ts : List Ty} (h : Reps K H vs ts) : vs.length = ts.length := by rw [DpAll.length h, List.length_map]
theorem Reps.at : ∀ {vs : List V} {ts : List Ty} {i : Nat} {v : V}, Reps K H vs ts → vs[i]? = some v → ∃ t, ts[i]? = some t ∧ Rep K H v t
  | _, [], i, v, h, e => by cases h; simp at e
  | _, t :: ts, 0, v, h, e => by
    cases h with
    | cons h1 h2 => simp at e; subst e; exact ⟨t, rfl, h1⟩
  | _, t :: ts, i + 1, v, h, e => by
    cases h with
    | cons h1 h2 =>
      obtain ⟨u, e1, e2⟩ := Reps.at (i := i) h2 (by simpa using e)
      exact ⟨u, by simpa using e1, e2⟩
theorem Reps.of : ∀ {vs : List V} {ts : List Ty}, vs.length = ts.length → (∀ (i : Nat) (v : V) (t : Ty), vs[i]? = some v → ts[i]? = some t → Rep K H v t) → Reps K H vs ts
  | [], [], _, _ => .nil
  | v :: vs, t :: ts, hl, h => .cons (h 0 v t rfl rfl) (Reps.of (by simpa using hl) fun i x y e1 e2 => h (i + 1) x y (by simpa using e1) (by simpa using e2))
theorem Reps.append {vs ws : List V} {ts us : List Ty} (h : Reps K H vs ts) (g : Reps K H ws us) : Reps K H (vs ++ ws) (ts ++ us) := by
  refine Reps.of (by rw [List.length_append, List.length_append, h.length, g.length]) fun i v t e1 e2 => ?_
  have hl := h.length
  by_cases q : i < vs.length
  · rw [List.getElem?_append_left q] at e1
    rw [List.getElem?_append_left (by omega)] at e2
    obtain ⟨u, e3, e4⟩ := h.at e1
    rw [e2] at e3; cases e3; exact e4
  · rw [List.getElem?_append_right (by omega)] at e1 e2
    rw [← hl] at e2
    obtain ⟨u, e3, e4⟩ := g.at e1
    rw [e2] at e3; cases e3; exact e4

/-! ### taken apart -/
theorem Rep.tup {v : V} {t : Ty} (h : Rep K H v t) : ∃ a xs, v = .ref a ∧ SqT K H a xs ∧ xs[0]? = some (.str (word t)) := by
  have go : ∀ {x : Str} {ds : List PyData}, Dp K H v (.tuple (.str x :: ds)) → ∃ a xs, v = .ref a ∧ SqT K H a xs ∧ xs[0]? = some (.str x) := fun q => by
    cases q with
    | tup h1 h2 =>
      cases h2 with
      | cons g1 g2 => cases g1; exact ⟨_, _, rfl, h1, rfl⟩
  cases t with
  | var p k => unfold Rep at h; rw [tyD_var] at h; exact go h
  | node l ks =>
    by_cases hf : flatL l = true
    · unfold Rep at h; rw [tyD_flat hf] at h; exact go h
    · cases l with
      | tup => unfold Rep at h; rw [tyD_tup] at h; exact go h
      | data n => unfold Rep at h; rw [tyD_data] at h; exact go h
      | fn => exact absurd rfl hf
      | plain p => exact absurd rfl hf
      | one b => exact absurd rfl hf
theorem Rep.var {v : V} {p : Bool} {k : Nat} (h : Rep K H v (.var p k)) : ∃ a, v = .ref a ∧ SqT K H a [.str (varW p), .int k] := by
  unfold Rep at h
  rw [tyD_var] at h
  cases h with
  | tup h1 h2 =>
    cases h2 with
    | cons g1 g2 =>
      cases g1
      cases g2 with
      | cons f1 f2 => cases f1; cases f2; exact ⟨_, rfl, h1⟩
theorem Rep.flat {v : V} {l : Lab} {ks : List Ty} (hf : flatL l = true) (h : Rep K H v (.node l ks)) : ∃ a vs, v = .ref a ∧ SqT K H a (.str (labW l) :: vs) ∧ Reps K H vs ks := by
  unfold Rep at h
  rw [tyD_flat hf] at h
  cases h with
  | tup h1 h2 =>
    cases h2 with
    | cons g1 g2 => cases g1; exact ⟨_, _, rfl, h1, g2⟩
theorem Rep.tupl {v : V} {ks : List Ty} (h : Rep K H v (.node .tup ks)) : ∃ a b vs, v = .ref a ∧ SqT K H a [.str "tuple", .ref b] ∧ SqT K H b vs ∧ Reps K H vs ks := by
  unfold Rep at h
  rw [tyD_tup] at h
  cases h with
  | tup h1 h2 =>
    cases h2 with
    | cons g1 g2 =>
      cases g1
      cases g2 with
      | cons f1 f2 =>
        cases f2
        cases f1 with
        | tup e1 e2 => exact ⟨_, _, _, rfl, h1, e1, e2⟩
theorem Rep.dat {v : V} {n : Nm} {ks : List Ty} (h : Rep K H v (.node (.data n) ks)) : ∃ a b vs, v = .ref a ∧ SqT K H a [.str "data", .str (nmW n), .ref b] ∧ SqT K H b vs ∧ Reps K H vs ks := by
  unfold Rep at h
  rw [tyD_data] at h
  cases h with
  | tup h1 h2 =>
    cases h2 with
    | cons g1 g2 =>
      cases g1
      cases g2 with
      | cons f1 f2 =>
        cases f1
        cases f2 with
        | cons d1 d2 =>
          cases d2
          cases d1 with
          | tup e1 e2 => exact ⟨_, _, _, rfl, h1, e1, e2⟩
/-! ### made -/
theorem Rep.mkVar {a : Addr} {p : Bool} {k : Nat} (h : SqT K H a [.str (varW p), .int k]) : Rep K H (.ref a) (.var p k) := by
  unfold Rep; rw [tyD_var]; exact .tup h (.cons (.str _) (.cons (.int _) .nil))
theorem Rep.mkFlat {a : Addr} {l : Lab} {ks : List Ty} {vs : List V} (hf : flatL l = true) (h : SqT K H a (.str (labW l) :: vs)) (r : Reps K H vs ks) : Rep K H (.ref a) (.node l ks) := by
  unfold Rep; rw [tyD_flat hf]; exact .tup h (.cons (.str _) r)
theorem Rep.mkTup {a b : Addr} {ks : List Ty} {vs : List V} (h : SqT K H a [.str "tuple", .ref b]) (g : SqT K H b vs) (r : Reps K H vs ks) : Rep K H (.ref a) (.node .tup ks) := by
  unfold Rep; rw [tyD_tup]; exact .tup h (.cons (.str _) (.cons (.tup g r) .nil))
theorem Rep.mkData {a b : Addr} {n : Nm} {ks : List Ty} {vs : List V} (h : SqT K H a [.str "data", .str (nmW n), .ref b]) (g : SqT K H b vs) (r : Reps K H vs ks) : Rep K H (.ref a) (.node (.data n) ks) := by
  unfold Rep; rw [tyD_data]; exact .tup h (.cons (.str _) (.cons (.str _) (.cons (.tup g r) .nil)))
end

/-! ### == and != of data -/
section
variable {X : Cx}
def rEqG (K : PySem.W.Frag) : R2 := fun x y H Q => ∃ d e, Dp K H x d ∧ Dp K H y e ∧ d.canLay0 = true ∧ e.canLay0 = true ∧ d.depth ≤ 190 ∧ Q (.bl (PyData.eqv d e)) H
def rNeG (K : PySem.W.Frag) : R2 := fun x y H Q => ∃ d e, Dp K H x d ∧ Dp K H y e ∧ d.canLay0 = true ∧ e.canLay0 = true ∧ d.depth ≤ 190 ∧ Q (.bl (!PyData.eqv d e)) H
theorem op_eqG (hu : X.A.units + 195 < cLine) : OpR X (compareOp .Eq) (rEqG X.K) := by
  intro pins s σ H x y v u Q I rx ry h
  obtain ⟨d, e, hd, he, l1, l2, hp, q⟩ := h
  obtain ⟨as, r1⟩ := Dp.reads I d x v hd rx
  obtain ⟨bs, r2⟩ := Dp.reads I e y u he ry
  exact SeqAt.compareEq_reads r1 r2 l1 l2 (by have := Nat.min_le_left d.depth e.depth; omega) ⟨.bl _, H, I, rfl, q⟩
theorem op_neG (hu : X.A.units + 195 < cLine) : OpR X (compareOp .NotEq) (rNeG X.K) := by
  intro pins s σ H x y v u Q I rx ry h
  obtain ⟨d, e, hd, he, l1, l2, hp, q⟩ := h
  obtain ⟨as, r1⟩ := Dp.reads I d x v hd rx
  obtain ⟨bs, r2⟩ := Dp.reads I e y u he ry
  exact SeqAt.compareNe_reads r1 r2 l1 l2 (by have := Nat.min_le_left d.depth e.depth; omega) ⟨.bl _, H, I, rfl, q⟩
theorem room_eq {k : Nat} {A : Around} (h : Room k A) : A.units + 195 < cLine := by have := h.un; omega

/-! ### a dict whose keys are types, all told True -/
theorem nested_of {pins : List (Addr × Obj)} {σ : L2.St} {H : Hp} {s : Shared} (I : L2.Inv X pins σ H s) : ∀ (k : NestedKey) (v : V) (u : Value), Dp X.K H v k.data → RelV v u → NestedIs s.heap k u := by
  have both : ∀ n : Nat, (∀ (k : NestedKey), k.depth ≤ n → ∀ (v : V) (u : Value), Dp X.K H v k.data → RelV v u → NestedIs s.heap k u) := by
    intro n
    induction n with
    | zero =>
      intro k hk v u h r
      cases k with
      | none => cases h; cases r; exact .none
      | num i => cases h; obtain ⟨t, rfl⟩ := r; exact .int i t
      | text x => cases h; obtain ⟨t, rfl⟩ := r; exact .text x t
      | tup ks => rw [NestedKey.depth] at hk; omega
    | succ n ih =>
      intro k hk v u h r
      cases k with
      | none => cases h; cases r; exact .none
      | num i => cases h; obtain ⟨t, rfl⟩ := r; exact .int i t
      | text x => cases h; obtain ⟨t, rfl⟩ := r; exact .text x t
      | tup ks =>
        rw [NestedKey.depth] at hk
        rw [NestedKey.data] at h
        cases h with
        | tup h1 h2 =>
          cases r
          obtain ⟨its, rv, ⟨o, ho, hc, m, hd⟩, _⟩ := I.tuple h1
          refine .tup ho hc hd ?_
          have all : ∀ (ks : List NestedKey), NestedKey.depthAll ks ≤ n → ∀ (vs : List V) (us : List Value), DpAll X.K H vs (NestedKey.datas ks) → Vals vs us → NestedAll s.heap ks us := by
            intro ks
            induction ks with
            | nil => intro _ vs us h r; cases h; cases r; exact .nil
            | cons k ks ih2 =>
              intro hk vs us h r
              rw [NestedKey.depthAll] at hk
              cases h with
              | cons h1 h2 =>
                cases r with
                | cons r1 r2 => exact .cons (ih k (by omega) _ _ h1 r1) (ih2 (by omega) _ _ h2 r2)
          exact all ks (by omega) _ _ h2 (by simpa using rv)
  exact fun k v u h r => both k.depth k (Nat.le_refl _) v u h r
abbrev MetL := List (NestedKey × Addr)
def metX (ks : MetL) : List (NestedKey × Addr × Value) := ks.map fun p => (p.1, p.2, Value.bool true)
/-- the dict at d -/
def MetO (P : Program) (w : World) (d : Addr) (ks : MetL) : HO := .ext fun h => ∃ o es ep, h.get? d = some o ∧ o.ExactDict ∧ o.data = .dict es ep ∧ es.toList = (metX ks).map (entryOfKey (nestedKind P w)) ∧ ((metX ks).map (·.1)).Nodup ∧ (d == sysModules) = false
/-- its keys stand -/
def MetK (K : PySem.W.Frag) (H : Hp) (ks : MetL) : Prop := ∀ p ∈ ks, Dp K H (.ref p.2) p.1.data ∧ p.1.depth ≤ 8
theorem metO_new {P : Program} {w : World} {H : Hp} {h : Heap} {d : Addr} {ks : MetL} (m : h.DictOfH (nestedKind P w) d (metX ks)) (hs : (d == sysModules) = false) : ObjOk P w H h d (MetO P w d ks) := by
  obtain ⟨o, es, ep, ho, h1, h2, h3, _, h4⟩ := m
  refine ⟨⟨o, es, ep, ho, h1, h2, h3, h4, hs⟩, ⟨o, ho⟩, fun g1 g2 p k => ?_⟩
  obtain ⟨o, es, ep, ho, r⟩ := p
  exact ⟨o, es, ep, k o ho, r⟩
theorem metO_get {pins : List (Addr × Obj)} {σ : L2.St} {H : Hp} {s : Shared} {d : Addr} {ks : MetL} (I : L2.Inv X pins σ H s) (h : H d = some (MetO X.prog X.w d ks)) (hk : MetK X.K H ks) :
    s.heap.DictOfH (nestedKind X.prog X.w) d (metX ks) ∧ (d == sysModules) = false := by
  obtain ⟨⟨o, es, ep, ho, h1, h2, h3, h4, hs⟩, _, _⟩ := (show ObjOk X.prog X.w H s.heap d (MetO X.prog X.w d ks) from I.hok d _ h)
  refine ⟨⟨o, es, ep, ho, h1, h2, h3, fun x hx => ?_, h4⟩, hs⟩
  obtain ⟨p, hp, rfl⟩ := List.mem_map.mp hx
  obtain ⟨q1, q2⟩ := hk p hp
  exact ⟨nested_of I p.1 _ _ q1 rfl, q2⟩
/-- {} -/
def tMet0 (P : Program) (w : World) : TE := fun _ H Q => ∀ d, H d = none → Q (.ref d) (upd H d (MetO P w d []))
theorem pe_met0 {pos : Pos} : PE X (.Dict [] [] pos) (tMet0 X.prog X.w) := ⟨fun pins s σ H Q I h =>
  wpAny_Dict_empty ⟨.ref s.heap.objs.size, _, I.laid (a := s.heap.objs.size) (o := MetO X.prog X.w s.heap.objs.size []) (t' := s.toks) (fun _ _ q => Heap.get?_push_of_some _ q) (Nat.le_refl _) (metO_new (ks := []) (Heap.DictOfH.new s.heap) (beq_eq_false_iff_ne.mpr (Nat.ne_of_gt I.big))), rfl, h _ (I.hok.fresh (Nat.le_refl _))⟩⟩
theorem atKey_met (k : NestedKey) : ∀ ks : MetL, (atKey (metX ks) k).isSome = decide (k ∈ ks.map (·.1))
  | [] => rfl
  | p :: ks => by
    have ih := atKey_met k ks
    unfold metX atKey at ih ⊢
    rw [List.map_cons, List.find?_cons]
    by_cases e : p.1 = k
    · simp [e]
    · have e' : k ≠ p.1 := fun z => e z.symm
      simp only [e, decide_false]
      rw [ih]
      simp [e']
def rNotInMet (X : Cx) : R2 := fun x y H Q => ∃ (k : NestedKey) (a d : Addr) (ks : MetL), x = .ref a ∧ y = .ref d ∧ Dp X.K H (.ref a) k.data ∧ k.depth ≤ 8 ∧ H d = some (MetO X.prog X.w d ks) ∧ MetK X.K H ks ∧ Q (.bl (!decide (k ∈ ks.map (·.1)))) H
theorem op_notInMet (hu : X.A.units + 195 < cLine) : OpR X (compareOp .NotIn) (rNotInMet X) := by
  intro pins s σ H x y v u Q I rx ry h
  obtain ⟨k, a, d, ks, rfl, rfl, hk, hd, hm, hK, q⟩ := h
  cases rx
  cases ry
  obtain ⟨m, hs⟩ := metO_get I hm hK
  refine notIn_keyed (knd := nestedKind X.prog X.w) (k := k) (kvs := pairsH (metX ks)) (show X.A.in1.units + 8 < cLine by show X.A.units + 1 + 8 < cLine; omega) ⟨nested_of I k _ _ hk rfl, hd⟩ hs ⟨_, m, rfl⟩ ?_
  refine ⟨.bl _, H, I.tok _, ?_, q⟩
  show Value.bool _ = Value.bool _
  rw [valueAt_pairsH, Option.isSome_map, atKey_met]
/-- met[here] = True, a key that is new -/
def rSetMet (X : Cx) : TSet := fun o i v H R => ∃ (k : NestedKey) (a d : Addr) (ks : MetL), o = .ref d ∧ i = .ref a ∧ v = .bl true ∧ Dp X.K H (.ref a) k.data ∧ k.depth ≤ 8 ∧ H d = some (MetO X.prog X.w d ks) ∧ MetK X.K H ks ∧ ks.length ≤ 100000 ∧ k ∉ ks.map (·.1) ∧
  R (upd H d (MetO X.prog X.w d (ks ++ [(k, a)])))
theorem set_met (hu : X.A.units + 195 < cLine) : PSet X (rSetMet X) := by
  intro pins s σ H o i v ov iv u Q I ro ri rv h
  obtain ⟨k, a, d, ks, rfl, rfl, rfl, hk, hd, hm, hK, hl, hn, q⟩ := h
  cases ro
  cases ri
  cases rv
  obtain ⟨m, hs⟩ := metO_get I hm hK
  refine wpAny_setItem_heap (knd := nestedKind X.prog X.w) (k := k) (xs := metX ks) (show X.A.in1.units + 8 < cLine by show X.A.units + 1 + 8 < cLine; omega) ⟨nested_of I k _ _ hk rfl, hd⟩ m (fun h' m' sb => ?_) (by unfold metX; rw [List.length_map, sizeLine_eq]; omega)
  have e : storedH (metX ks) k a (Value.bool true) = metX (ks ++ [(k, a)]) := by
    have n : (atKey (metX ks) k).isSome = false := by rw [atKey_met]; exact decide_eq_false hn
    unfold storedH
    rw [n]
    unfold metX
    rw [if_neg Bool.false_ne_true, List.map_append]
    rfl
  rw [e] at m'
  have he : ∃ q, h'.get? d = some q := let ⟨o, _, _, ho, _⟩ := m'; ⟨o, ho⟩
  exact ⟨_, d_write (t' := s.toks + (nestedKind X.prog X.w).draws k) I (by rw [hm]; trivial) sb he (metO_new m' hs), q⟩
end
end UV

/-! The defs by their places, and what of the top they lean on (printed by gen.py). -/
namespace UD
open PySem PySem.Spec PyProof.Rows L2 U UV
def topS (i : Nat) : Stmt := PySem.Challenge.pw_changedsame_k22_whole_types_made_one.main.body.getD i (.Pass ⟨0, 0, 0, 0⟩)
/-- a def, where it stands and how it is bound -/
structure Df (K : PySem.W.Frag) (mg : Str → Option Value) (x : Str) (st : Stmt) (ps : List Str) where
  a : Addr
  fd : FuncData
  F : Fun K x x st a fd
  m : mg x = some (.ref a)
  b : Binds K fd ps []
/-- a tuple of the top -/
structure TupC (K : PySem.W.Frag) (mg : Str → Option Value) (x : Str) (xs : List V) where
  a : Addr
  m : mg x = some (.ref a)
  t : ∀ H, SqT K H a xs
abbrev s_is_integer : Stmt := topS 6
theorem sc_is_integer : FnScope ["value"] ["value"] (defScope s_is_integer) := ⟨rfl, rfl, rfl, by decide +kernel, rfl, by decide +kernel, by decide +kernel⟩
abbrev s_is_count : Stmt := topS 7
theorem sc_is_count : FnScope ["value"] ["value"] (defScope s_is_count) := ⟨rfl, rfl, rfl, by decide +kernel, rfl, by decide +kernel, by decide +kernel⟩
abbrev s_is_list : Stmt := topS 8
theorem sc_is_list : FnScope ["value"] ["value"] (defScope s_is_list) := ⟨rfl, rfl, rfl, by decide +kernel, rfl, by decide +kernel, by decide +kernel⟩
abbrev s_is_lettered : Stmt := topS 15
theorem sc_is_lettered : FnScope ["value", "firsts", "sign"] ["value", "firsts"] (defScope s_is_lettered) := ⟨rfl, rfl, rfl, by decide +kernel, rfl, by decide +kernel, by decide +kernel⟩
abbrev s_is_name : Stmt := topS 16
theorem sc_is_name : FnScope ["value"] ["value"] (defScope s_is_name) := ⟨rfl, rfl, rfl, by decide +kernel, rfl, by decide +kernel, by decide +kernel⟩
abbrev s_is_big : Stmt := topS 17
theorem sc_is_big : FnScope ["value"] ["value"] (defScope s_is_big) := ⟨rfl, rfl, rfl, by decide +kernel, rfl, by decide +kernel, by decide +kernel⟩
abbrev s_last_of_long : Stmt := topS 18
theorem sc_last_of_long : FnScope ["value", "first"] ["value"] (defScope s_last_of_long) := ⟨rfl, rfl, rfl, by decide +kernel, rfl, by decide +kernel, by decide +kernel⟩
abbrev s_is_long_name : Stmt := topS 19
theorem sc_is_long_name : FnScope ["value"] ["value"] (defScope s_is_long_name) := ⟨rfl, rfl, rfl, by decide +kernel, rfl, by decide +kernel, by decide +kernel⟩
abbrev s_loose_within : Stmt := topS 24
theorem sc_loose_within : FnScope ["one"] ["one"] (defScope s_loose_within) := ⟨rfl, rfl, rfl, by decide +kernel, rfl, by decide +kernel, by decide +kernel⟩
abbrev s_made_with : Stmt := topS 25
theorem sc_made_with : FnScope ["one", "types"] ["one", "types"] (defScope s_made_with) := ⟨rfl, rfl, rfl, by decide +kernel, rfl, by decide +kernel, by decide +kernel⟩
abbrev s_opened : Stmt := topS 26
theorem sc_opened : FnScope ["one", "told", "late"] ["one", "told"] (defScope s_opened) := ⟨rfl, rfl, rfl, by decide +kernel, rfl, by decide +kernel, by decide +kernel⟩
abbrev s_with_unknowns : Stmt := topS 27
theorem sc_with_unknowns : FnScope ["one", "types", "late"] ["one", "types"] (defScope s_with_unknowns) := ⟨rfl, rfl, rfl, by decide +kernel, rfl, by decide +kernel, by decide +kernel⟩
abbrev s_numbers_in : Stmt := topS 28
theorem sc_numbers_in : FnScope ["one", "word", "found", "late", "number"] ["one", "word"] (defScope s_numbers_in) := ⟨rfl, rfl, rfl, by decide +kernel, rfl, by decide +kernel, by decide +kernel⟩
abbrev s_are_loose_within : Stmt := topS 29
theorem sc_are_loose_within : FnScope ["value", "word", "left", "found", "one"] ["value", "word", "left"] (defScope s_are_loose_within) := ⟨rfl, rfl, rfl, by decide +kernel, rfl, by decide +kernel, by decide +kernel⟩
abbrev s_type_parts : Stmt := topS 30
theorem sc_type_parts : FnScope ["value", "word", "left", "wrong"] ["value", "word", "left"] (defScope s_type_parts) := ⟨rfl, rfl, rfl, by decide +kernel, rfl, by decide +kernel, by decide +kernel⟩
abbrev s_is_made_right : Stmt := topS 31
theorem sc_is_made_right : FnScope ["value"] ["value"] (defScope s_is_made_right) := ⟨rfl, rfl, rfl, by decide +kernel, rfl, by decide +kernel, by decide +kernel⟩
abbrev s_is_loose_type : Stmt := topS 32
theorem sc_is_loose_type : FnScope ["value"] ["value"] (defScope s_is_loose_type) := ⟨rfl, rfl, rfl, by decide +kernel, rfl, by decide +kernel, by decide +kernel⟩
abbrev s_is_scheme_of_type : Stmt := topS 33
theorem sc_is_scheme_of_type : FnScope ["value"] ["value"] (defScope s_is_scheme_of_type) := ⟨rfl, rfl, rfl, by decide +kernel, rfl, by decide +kernel, by decide +kernel⟩
abbrev s_want_loose : Stmt := topS 34
theorem sc_want_loose : FnScope ["value"] ["value"] (defScope s_want_loose) := ⟨rfl, rfl, rfl, by decide +kernel, rfl, by decide +kernel, by decide +kernel⟩
abbrev s_want_scheme : Stmt := topS 35
theorem sc_want_scheme : FnScope ["value"] ["value"] (defScope s_want_scheme) := ⟨rfl, rfl, rfl, by decide +kernel, rfl, by decide +kernel, by decide +kernel⟩
abbrev s_general_of : Stmt := topS 36
theorem sc_general_of : FnScope ["loose", "kept", "some", "params", "number", "at"] ["loose", "kept"] (defScope s_general_of) := ⟨rfl, rfl, rfl, by decide +kernel, rfl, by decide +kernel, by decide +kernel⟩
abbrev s_matched : Stmt := topS 37
theorem sc_matched : FnScope ["one", "other", "word", "found", "near", "far"] ["one", "other", "word", "found"] (defScope s_matched) := ⟨rfl, rfl, rfl, by decide +kernel, rfl, by decide +kernel, by decide +kernel⟩
abbrev s_unknowns_of : Stmt := topS 38
theorem sc_unknowns_of : FnScope ["loose"] ["loose"] (defScope s_unknowns_of) := ⟨rfl, rfl, rfl, by decide +kernel, rfl, by decide +kernel, by decide +kernel⟩
abbrev s_general : Stmt := topS 39
theorem sc_general : FnScope ["loose"] ["loose"] (defScope s_general) := ⟨rfl, rfl, rfl, by decide +kernel, rfl, by decide +kernel, by decide +kernel⟩
abbrev s_is_instance : Stmt := topS 40
theorem sc_is_instance : FnScope ["scheme", "loose", "many", "one"] ["scheme", "loose"] (defScope s_is_instance) := ⟨rfl, rfl, rfl, by decide +kernel, rfl, by decide +kernel, by decide +kernel⟩
abbrev s_opened_head : Stmt := topS 43
theorem sc_opened_head : FnScope ["told", "one", "found"] ["told", "one"] (defScope s_opened_head) := ⟨rfl, rfl, rfl, by decide +kernel, rfl, by decide +kernel, by decide +kernel⟩
abbrev s_stands_within : Stmt := topS 44
theorem sc_stands_within : FnScope ["told", "number", "one", "waiting", "met", "here"] ["told", "number", "one"] (defScope s_stands_within) := ⟨rfl, rfl, rfl, by decide +kernel, rfl, by decide +kernel, by decide +kernel⟩
abbrev s_tell_unknown : Stmt := topS 45
theorem sc_tell_unknown : FnScope ["told", "number", "one"] ["told", "number", "one"] (defScope s_tell_unknown) := ⟨rfl, rfl, rfl, by decide +kernel, rfl, by decide +kernel, by decide +kernel⟩
abbrev s_unite : Stmt := topS 46
theorem sc_unite : FnScope ["told", "one", "other", "left", "near", "far", "number", "late"] ["told", "one", "other"] (defScope s_unite) := ⟨rfl, rfl, rfl, by decide +kernel, rfl, by decide +kernel, by decide +kernel⟩
abbrev s_is_replacement : Stmt := topS 47
theorem sc_is_replacement : FnScope ["value", "one", "numbers", "number", "loose"] ["value"] (defScope s_is_replacement) := ⟨rfl, rfl, rfl, by decide +kernel, rfl, by decide +kernel, by decide +kernel⟩
abbrev s_most_general : Stmt := topS 48
theorem sc_most_general : FnScope ["one", "other", "told", "number"] ["one", "other"] (defScope s_most_general) := ⟨rfl, rfl, rfl, by decide +kernel, rfl, by decide +kernel, by decide +kernel⟩
abbrev s_unifies : Stmt := topS 49
theorem sc_unifies : FnScope ["one", "other", "value", "parts"] ["one", "other", "value"] (defScope s_unifies) := ⟨rfl, rfl, rfl, by decide +kernel, rfl, by decide +kernel, by decide +kernel⟩
abbrev s_goes_on_to : Stmt := topS 50
theorem sc_goes_on_to : FnScope ["one", "other", "value", "found", "parts", "late", "numbers", "loose", "told", "number", "unknown"] ["one", "other", "value", "found"] (defScope s_goes_on_to) := ⟨rfl, rfl, rfl, by decide +kernel, rfl, by decide +kernel, by decide +kernel⟩
abbrev s_replaced : Stmt := topS 51
theorem sc_replaced : FnScope ["loose", "parts", "one"] ["loose", "parts"] (defScope s_replaced) := ⟨rfl, rfl, rfl, by decide +kernel, rfl, by decide +kernel, by decide +kernel⟩
abbrev s_unified : Stmt := topS 52
theorem sc_unified : FnScope ["one", "other", "near"] ["one", "other"] (defScope s_unified) := ⟨rfl, rfl, rfl, by decide +kernel, rfl, by decide +kernel, by decide +kernel⟩
abbrev s_is_unifier : Stmt := topS 53
theorem sc_is_unifier : FnScope ["one", "other", "value", "near"] ["one", "other", "value"] (defScope s_is_unifier) := ⟨rfl, rfl, rfl, by decide +kernel, rfl, by decide +kernel, by decide +kernel⟩
abbrev s_is_most_general : Stmt := topS 54
theorem sc_is_most_general : FnScope ["one", "other", "value", "near", "far"] ["one", "other", "value"] (defScope s_is_most_general) := ⟨rfl, rfl, rfl, by decide +kernel, rfl, by decide +kernel, by decide +kernel⟩
abbrev s_law_pot : Stmt := topS 56
theorem sc_law_pot : FnScope ["_law_script", "_law_k", "_law_cell"] ["_law_script", "_law_k"] (defScope s_law_pot) := ⟨rfl, rfl, rfl, by decide +kernel, rfl, by decide +kernel, by decide +kernel⟩
abbrev s_law_draw : Stmt := topS 57
theorem sc_law_draw : FnScope ["_law_pot_here", "_law_many", "_law_digit"] ["_law_pot_here", "_law_many"] (defScope s_law_draw) := ⟨rfl, rfl, rfl, by decide +kernel, rfl, by decide +kernel, by decide +kernel⟩
abbrev s_law_pick : Stmt := topS 58
theorem sc_law_pick : FnScope ["_law_pot_here", "_law_some"] ["_law_pot_here", "_law_some"] (defScope s_law_pick) := ⟨rfl, rfl, rfl, by decide +kernel, rfl, by decide +kernel, by decide +kernel⟩
abbrev s_law_within : Stmt := topS 59
theorem sc_law_within : FnScope ["_law_one"] ["_law_one"] (defScope s_law_within) := ⟨rfl, rfl, rfl, by decide +kernel, rfl, by decide +kernel, by decide +kernel⟩
abbrev s_law_made : Stmt := topS 60
theorem sc_law_made : FnScope ["_law_one", "_law_some"] ["_law_one", "_law_some"] (defScope s_law_made) := ⟨rfl, rfl, rfl, by decide +kernel, rfl, by decide +kernel, by decide +kernel⟩
abbrev s_law_open : Stmt := topS 61
theorem sc_law_open : FnScope ["_law_told", "_law_one", "_law_late"] ["_law_told", "_law_one"] (defScope s_law_open) := ⟨rfl, rfl, rfl, by decide +kernel, rfl, by decide +kernel, by decide +kernel⟩
abbrev s_law_numbers : Stmt := topS 62
theorem sc_law_numbers : FnScope ["_law_one", "_law_found", "_law_late", "_law_number"] ["_law_one"] (defScope s_law_numbers) := ⟨rfl, rfl, rfl, by decide +kernel, rfl, by decide +kernel, by decide +kernel⟩
abbrev s_law_put : Stmt := topS 63
theorem sc_law_put : FnScope ["_law_one", "_law_some", "_law_late"] ["_law_one", "_law_some"] (defScope s_law_put) := ⟨rfl, rfl, rfl, by decide +kernel, rfl, by decide +kernel, by decide +kernel⟩
abbrev s_law_unite : Stmt := topS 64
theorem sc_law_unite : FnScope ["_law_told", "_law_one", "_law_other", "_law_near", "_law_far", "_law_spot", "_law_late", "_law_pairs", "_law_left", "_law_right_here"] ["_law_told", "_law_one", "_law_other"] (defScope s_law_unite) := ⟨rfl, rfl, rfl, by decide +kernel, rfl, by decide +kernel, by decide +kernel⟩
abbrev s_law_loose : Stmt := topS 65
theorem sc_law_loose : FnScope ["_law_pot_here", "_law_deep", "_law_form", "_law_one", "_law_late"] ["_law_pot_here", "_law_deep"] (defScope s_law_loose) := ⟨rfl, rfl, rfl, by decide +kernel, rfl, by decide +kernel, by decide +kernel⟩
abbrev s_law_alike : Stmt := topS 66
theorem sc_law_alike : FnScope ["_law_one", "_law_other", "_law_near", "_law_far", "_law_number"] ["_law_one", "_law_other"] (defScope s_law_alike) := ⟨rfl, rfl, rfl, by decide +kernel, rfl, by decide +kernel, by decide +kernel⟩
abbrev s_law_two : Stmt := topS 67
theorem sc_law_two : FnScope ["_law_pot_here", "_law_one", "_law_form", "_law_some", "_law_number", "_law_near", "_law_more"] ["_law_pot_here"] (defScope s_law_two) := ⟨rfl, rfl, rfl, by decide +kernel, rfl, by decide +kernel, by decide +kernel⟩
abbrev s_law_filled : Stmt := topS 68
theorem sc_law_filled : FnScope ["_law_pot_here", "_law_told", "_law_some", "_law_number", "_law_found", "_law_late"] ["_law_pot_here", "_law_told"] (defScope s_law_filled) := ⟨rfl, rfl, rfl, by decide +kernel, rfl, by decide +kernel, by decide +kernel⟩
abbrev s_law_told_right : Stmt := topS 69
theorem sc_law_told_right : FnScope ["_law_pot_here", "_law_one", "_law_other", "_law_told", "_law_found", "_law_both", "_law_late", "_law_filled_here", "_law_some", "_law_rows", "_law_number", "_law_left"] ["_law_pot_here", "_law_one", "_law_other", "_law_told"] (defScope s_law_told_right) := ⟨rfl, rfl, rfl, by decide +kernel, rfl, by decide +kernel, by decide +kernel⟩
abbrev s_law_matched : Stmt := topS 70
theorem sc_law_matched : FnScope ["_law_near", "_law_far", "_law_some", "_law_one", "_law_late"] ["_law_near", "_law_far", "_law_some"] (defScope s_law_matched) := ⟨rfl, rfl, rfl, by decide +kernel, rfl, by decide +kernel, by decide +kernel⟩
abbrev s_law_size : Stmt := topS 71
theorem sc_law_size : FnScope ["_law_one", "_law_late"] ["_law_one"] (defScope s_law_size) := ⟨rfl, rfl, rfl, by decide +kernel, rfl, by decide +kernel, by decide +kernel⟩
abbrev s_law_general_right : Stmt := topS 72
theorem sc_law_general_right : FnScope ["_law_one", "_law_numbers_here", "_law_some", "_law_scheme", "_law_further", "_law_late", "_law_due", "_law_at", "_law_number"] ["_law_one"] (defScope s_law_general_right) := ⟨rfl, rfl, rfl, by decide +kernel, rfl, by decide +kernel, by decide +kernel⟩
abbrev s_law_right : Stmt := topS 73
theorem sc_law_right : FnScope ["_law_pot_here", "_law_one", "_law_other", "_law_shown", "_law_told", "_law_is_so", "_law_opened", "_law_late", "_law_number"] ["_law_pot_here"] (defScope s_law_right) := ⟨rfl, rfl, rfl, by decide +kernel, rfl, by decide +kernel, by decide +kernel⟩
abbrev s_law : Stmt := topS 74
theorem sc_law : FnScope ["_law_script"] ["_law_script"] (defScope s_law) := ⟨rfl, rfl, rfl, by decide +kernel, rfl, by decide +kernel, by decide +kernel⟩
structure Defs (K : PySem.W.Frag) (mg : Str → Option Value) where
  is_integer : Df K mg "is_integer" s_is_integer ["value"]
  is_count : Df K mg "is_count" s_is_count ["value"]
  is_list : Df K mg "is_list" s_is_list ["value"]
  is_lettered : Df K mg "is_lettered" s_is_lettered ["value", "firsts"]
  is_name : Df K mg "is_name" s_is_name ["value"]
  is_big : Df K mg "is_big" s_is_big ["value"]
  last_of_long : Df K mg "last_of_long" s_last_of_long ["value"]
  is_long_name : Df K mg "is_long_name" s_is_long_name ["value"]
  loose_within : Df K mg "loose_within" s_loose_within ["one"]
  made_with : Df K mg "made_with" s_made_with ["one", "types"]
  opened : Df K mg "opened" s_opened ["one", "told"]
  with_unknowns : Df K mg "with_unknowns" s_with_unknowns ["one", "types"]
  numbers_in : Df K mg "numbers_in" s_numbers_in ["one", "word"]
  are_loose_within : Df K mg "are_loose_within" s_are_loose_within ["value", "word", "left"]
  type_parts : Df K mg "type_parts" s_type_parts ["value", "word", "left"]
  is_made_right : Df K mg "is_made_right" s_is_made_right ["value"]
  is_loose_type : Df K mg "is_loose_type" s_is_loose_type ["value"]
  is_scheme_of_type : Df K mg "is_scheme_of_type" s_is_scheme_of_type ["value"]
  want_loose : Df K mg "want_loose" s_want_loose ["value"]
  want_scheme : Df K mg "want_scheme" s_want_scheme ["value"]
  general_of : Df K mg "general_of" s_general_of ["loose", "kept"]
  matched : Df K mg "matched" s_matched ["one", "other", "word", "found"]
  unknowns_of : Df K mg "unknowns_of" s_unknowns_of ["loose"]
  general : Df K mg "general" s_general ["loose"]
  is_instance : Df K mg "is_instance" s_is_instance ["scheme", "loose"]
  opened_head : Df K mg "opened_head" s_opened_head ["told", "one"]
  stands_within : Df K mg "stands_within" s_stands_within ["told", "number", "one"]
  tell_unknown : Df K mg "tell_unknown" s_tell_unknown ["told", "number", "one"]
  unite : Df K mg "unite" s_unite ["told", "one", "other"]
  is_replacement : Df K mg "is_replacement" s_is_replacement ["value"]
  most_general : Df K mg "most_general" s_most_general ["one", "other"]
  unifies : Df K mg "unifies" s_unifies ["one", "other", "value"]
  goes_on_to : Df K mg "goes_on_to" s_goes_on_to ["one", "other", "value", "found"]
  replaced : Df K mg "replaced" s_replaced ["loose", "parts"]
  unified : Df K mg "unified" s_unified ["one", "other"]
  is_unifier : Df K mg "is_unifier" s_is_unifier ["one", "other", "value"]
  is_most_general : Df K mg "is_most_general" s_is_most_general ["one", "other", "value"]
  law_pot : Df K mg "_law_pot" s_law_pot ["_law_script", "_law_k"]
  law_draw : Df K mg "_law_draw" s_law_draw ["_law_pot_here", "_law_many"]
  law_pick : Df K mg "_law_pick" s_law_pick ["_law_pot_here", "_law_some"]
  law_within : Df K mg "_law_within" s_law_within ["_law_one"]
  law_made : Df K mg "_law_made" s_law_made ["_law_one", "_law_some"]
  law_open : Df K mg "_law_open" s_law_open ["_law_told", "_law_one"]
  law_numbers : Df K mg "_law_numbers" s_law_numbers ["_law_one"]
  law_put : Df K mg "_law_put" s_law_put ["_law_one", "_law_some"]
  law_unite : Df K mg "_law_unite" s_law_unite ["_law_told", "_law_one", "_law_other"]
  law_loose : Df K mg "_law_loose" s_law_loose ["_law_pot_here", "_law_deep"]
  law_alike : Df K mg "_law_alike" s_law_alike ["_law_one", "_law_other"]
  law_two : Df K mg "_law_two" s_law_two ["_law_pot_here"]
  law_filled : Df K mg "_law_filled" s_law_filled ["_law_pot_here", "_law_told"]
  law_told_right : Df K mg "_law_told_right" s_law_told_right ["_law_pot_here", "_law_one", "_law_other", "_law_told"]
  law_matched : Df K mg "_law_matched" s_law_matched ["_law_near", "_law_far", "_law_some"]
  law_size : Df K mg "_law_size" s_law_size ["_law_one"]
  law_general_right : Df K mg "_law_general_right" s_law_general_right ["_law_one"]
  law_right : Df K mg "_law_right" s_law_right ["_law_pot_here"]
  law : Df K mg "law" s_law ["_law_script"]
  z_isinstance : mg "isinstance" = none
  z_len : mg "len" = none
  z_all : mg "all" = none
  z_tuple : mg "tuple" = none
  z_list : mg "list" = none
  z_dict : mg "dict" = none
  z_enumerate : mg "enumerate" = none
  z_zip : mg "zip" = none
  z_sorted : mg "sorted" = none
  z_set : mg "set" = none
  z_range : mg "range" = none
  z_abs : mg "abs" = none
  z_max : mg "max" = none
  z_divmod : mg "divmod" = none
  z_repr : mg "repr" = none
  z_sum : mg "sum" = none
  z_int : mg "int" = none
  z_bool : mg "bool" = none
  z_str : mg "str" = none
  c_MOST_TYPE_PARTS : ∃ t, mg "MOST_TYPE_PARTS" = some (.int 200 t)
  c_MOST_REPLACED : ∃ t, mg "MOST_REPLACED" = some (.int 60 t)
  c_MOST_LETTERS : ∃ t, mg "MOST_LETTERS" = some (.int 20 t)
  c_DIGITS : ∃ t, mg "DIGITS" = some (.str "0123456789" t)
  c_GREAT : ∃ t, mg "GREAT" = some (.str "ABCDEFGHIJKLMNOPQRSTUVWXYZ" t)
  c_SMALL : ∃ t, mg "SMALL" = some (.str "abcdefghijklmnopqrstuvwxyz" t)
  c_KEYWORDS : TupC K mg "KEYWORDS" [.str "and", .str "array", .str "ask", .str "at", .str "bool", .str "do", .str "else", .str "end", .str "exception", .str "exn", .str "false", .str "fn", .str "if", .str "in", .str "int", .str "let", .str "match", .str "mod", .str "module", .str "not", .str "of", .str "place", .str "raise", .str "rec", .str "ref", .str "same", .str "show", .str "size", .str "tell", .str "then", .str "true", .str "try", .str "type", .str "unit", .str "with"]
  c_ONE_KINDS : TupC K mg "ONE_KINDS" [.str "ref", .str "array"]
  c_PLAIN_KINDS : TupC K mg "PLAIN_KINDS" [.str "int", .str "bool", .str "unit", .str "exn"]
section
variable {X : Cx} {k : Nat} {x : Str} {st : Stmt} {ps : List Str} {p pos : Pos}
/-- a call of one of the defs -/
theorem pcall {sp : Sp} {e : Expr} {es : List Expr} {t : TA} (d : Df X.K X.mg x st ps) (G : FnOk X.prog X.w X.K X.mg X.base CX0 k d.a d.fd ps sp) (hr : Room k X.A) (hg : Gl X x) (ha : PA X (e :: es) t)
    (hdb : (x == ("__debug__" : Str)) = false := by decide) (he : starEach (e :: es) X.env = (false, eval e X.env) :: starEach es X.env := by rfl) (hpl : (backTo pos (starEach es X.env)).any (·.1) = false := by rfl) :
    PE X (.Call (.Name x p) (e :: es) [] pos) (tCall sp [] E0 t) := pe_call G hr hg d.m d.F.kp d.b .nil pass0 ha hdb he hpl
theorem pglobI {i : Int} (hg : Gl X x) (h : ∃ t, X.mg x = some (.int i t)) (hd : (x == ("__debug__" : Str)) = false := by decide) : PE X (.Name x pos) (tC (.int i)) := by
  obtain ⟨t, h⟩ := h
  exact pe_glob hg h ⟨t, rfl⟩ hd
theorem pglobS {z : Str} (hg : Gl X x) (h : ∃ t, X.mg x = some (.str z t)) (hd : (x == ("__debug__" : Str)) = false := by decide) : PE X (.Name x pos) (tC (.str z)) := by
  obtain ⟨t, h⟩ := h
  exact pe_glob hg h ⟨t, rfl⟩ hd
theorem pglobT {xs : List V} (hg : Gl X x) (c : TupC X.K X.mg x xs) (hd : (x == ("__debug__" : Str)) = false := by decide) : PE X (.Name x pos) (tC (.ref c.a)) := pe_glob hg c.m rfl hd
end
end UD

/-! Defs that are called where nothing is being shown by repr; calls by keywords alone. -/
namespace UD
open PySem PySem.Spec PyProof.Rows L2 U UV

/-- a def's promise where no repr is under way -/
structure FnG (P : Program) (w : World) (K : PySem.W.Frag) (mg : Str → Option Value) (base : Heap) (k : Nat) (f : Addr) (fd : FuncData) (ps : List Str) (sp : Sp) : Prop where
  len : ∀ vs H Q E, sp vs H Q E → vs.length = ps.length
  run : ∀ (A : Around) (outer : List Env) (s : Shared) (H : Hp) (args : Args) (us : List Value) (vs : List V) (Q : VK), A.guards = some [] → Room k A → Env0 P w K mg base A outer s H → BindsTo s fd args (ps.zip us) → Vals vs us →
    sp vs H Q E0 → codeAny (model P w) A (.call (.ref f) args) (CR CX0 outer P w H s Q E0) s
section
variable {P : Program} {w : World} {K : PySem.W.Frag} {mg : Str → Option Value} {base : Heap}
theorem okG {x qual : Str} {st : Stmt} {f : Addr} {fd : FuncData} {N ps : List Str} {k : Nat} {sp : Sp} (F : Fun K x qual st f fd) (S : FnScope N ps (defScope st)) (len : ∀ vs H Q E, sp vs H Q E → vs.length = ps.length)
    (body : ∀ (cdv : Value) (A : Around) (outer : List Env) (s : Shared) (H : Hp) (vs : List V) (Q : VK), A.guards = some [] → Room k (A.deeper (envOfC qual (defScope st) s.heap.objs.size f cdv)) → sp vs H Q E0 →
      ∃ t, PSs (cxOf CX0 P w K mg base N qual (defScope st) f cdv A outer s H E0).nox (defBody st) t ∧ t { nx := fun _ H' => Q .non H', rt := Q } (start N vs) H) : FnG P w K mg base (k + 1) f fd ps sp := by
  obtain ⟨oc, od, kV, doc, pm, an, cdv, ct, osl, rfl, lk, hcd⟩ := F.ex
  constructor
  · exact len
  intro A outer s H args us vs Q hg room env bind rel hsp
  have stays : ∀ b o, base.get? b = some o → s.heap.get? b = some o := fun b o e => (env.bs b o e).1
  have hK : K.In s.heap := env.mod.kin.keeps stays
  have hL : s.heap.NoLimit := env.mod.nolimit.keeps stays
  have kinds : ∀ y ∈ ps.zip us, (defScope st).names.lookup y.1 = some .local ∨ ((defScope st).names.lookup y.1 = some .cell ∧ ((cellsFrom (s.heap.objs.size + 1) (defScope st).names []).lookup y.1).isSome = true) := by
    rintro ⟨n, v⟩ hy
    have hn := S.par n (List.of_mem_zip hy).1
    exact hn.imp id fun q => ⟨q, PySem.W.cellsFrom_some _ _ _ (.inl q)⟩
  refine codeAny_call_function room.depth (hK _ _ lk) rfl S.co S.gen rfl (PySem.W.codeRec_of hK hcd) (bind _ _ _ _ (wpAny_newFunctionEnv_cells S.kind kinds fun e he s1 x => ?_))
  subst he
  refine ⟨hL.keeps x.toInCall.keep, codeAny_func ?_⟩
  obtain ⟨t, ht, hq⟩ := body cdv A outer s H vs Q hg (room.deeper _) hsp
  have I := inv_start (CX := CX0) (E := E0) S room.hd env (len _ _ _ _ hsp) rel x
  refine wpAny_mono (ht.nox.run [] s1 (start N vs) H _ I hq) (fun fl s' done => ?_) fun e s' bad => bad
  cases fl with
  | ret u =>
    obtain ⟨v, σ', H', J, rv, q⟩ := done
    exact ⟨v, H', J.os, J.bare, J.base, J.hok, rv, q⟩
  | next =>
    obtain ⟨σ', H', J, q⟩ := done
    exact ⟨.non, H', J.os, J.bare, J.base, J.hok, rfl, q⟩
  | brk => obtain ⟨_, _, _, q⟩ := done; cases q
  | cont => obtain ⟨_, _, _, q⟩ := done; cases q
end
section
variable {X : Cx} {k : Nat} {x : Str} {st : Stmt} {ps : List Str} {p pos : Pos}
/-- a call of such a def -/
theorem pcallG (hq : X.A.guards = some []) {sp : Sp} {e : Expr} {es : List Expr} {t : TA} (d : Df X.K X.mg x st ps) (G : FnG X.prog X.w X.K X.mg X.base k d.a d.fd ps sp) (hr : Room k X.A) (hg : Gl X x) (ha : PA X (e :: es) t)
    (hdb : (x == ("__debug__" : Str)) = false := by decide) (he : starEach (e :: es) X.env = (false, eval e X.env) :: starEach es X.env := by rfl) (hpl : (backTo pos (starEach es X.env)).any (·.1) = false := by rfl) :
    PE X (.Call (.Name x p) (e :: es) [] pos) (tCall sp [] E0 t) := by
  constructor
  intro pins s σ H Q I h
  refine wpAny_Call_Name_kw (ld_glob I hg d.m (PySem.W.callWith_K (h₀ := X.base) I.ok.mod.kin d.F.kp (thn (ha.run pos pins s σ H _ I h) fun us s1 ⟨vs, H1, I1, r, q⟩ => ⟨I1.kIn, ?_⟩) he hpl) hdb)
  have r2 : Vals (vs ++ []) (us ++ []) := r.append .nil
  have hl : (us ++ []).length = ps.length := by rw [← r2.length]; exact G.len _ _ _ _ q
  have bnd := d.b s1 us I1.kIn hl
  refine wpAny_call (codeAny_mono (G.run X.A X.stack s1 H1 ⟨us, []⟩ (us ++ []) (vs ++ []) Q hq hr I1.env0 bnd r2 q) fun r s' fin => ?_)
  cases r with
  | error _ => exact False.elim fin
  | ok fl =>
    cases fl with
    | ret _ => exact I1.after fin
    | next => exact False.elim fin
    | brk => exact False.elim fin
    | cont => exact False.elim fin
/-- a call by keywords alone -/
theorem pcallK0 {ks : List Str} {g : List Value → List Value → List Value} {gV : List V → List V → List V} {sp : Sp} {kws : List Keyword} {tk : TA} (d : Df X.K X.mg x st ps) (G : FnOk X.prog X.w X.K X.mg X.base CX0 k d.a d.fd ps sp) (hr : Room k X.A) (hb : KBinds X.K d.fd ps ks g gV) (hg : Gl X x)
    (hkw : PK X kws tk) (hall : (backToKw pos (keywordEach kws X.env)).all (·.1.isSome) = true := by rfl) (hks : (backToKw pos (keywordEach kws X.env)).filterMap (·.1) = ks := by rfl) (hdb : (x == ("__debug__" : Str)) = false := by decide)
    (hpl : ((backTo pos (starEach [] X.env)).any (·.1) || (backToKw pos (keywordEach kws X.env)).any (·.1.isNone)) = false := by rfl) : PE X (.Call (.Name x p) [] kws pos) (tCallK sp gV E0 tNil tk) := by
  constructor
  intro pins s σ H Q I h
  refine wpAny_Call_Name_kw (ld_glob I hg d.m (PySem.W.callWith_KW0 (h₀ := X.base) I.ok.mod.kin d.F.kp hall (thn (hkw.run pos pins s σ H _ I h) fun ws s2 ⟨zs, H2, I2, rz, q2⟩ => ⟨I2.kIn, ?_⟩) hpl) hdb)
  rw [hks]
  exact run_fnk (us := []) (vs := []) G hr hb pass0 I2 .nil rz q2
end
end UD

/-! Short readings that come often. -/
namespace UX
open PySem PySem.Spec PyProof.Rows L2 U UV UD

theorem eqv_str (a b : Str) : PyData.eqv (.str a) (.str b) = decide (a = b) := by rw [PyData.eqv, Bool.beq_eq_decide_eq]
theorem eqv_int (a b : Int) : PyData.eqv (.int a) (.int b) = decide (a = b) := by rw [PyData.eqv, Bool.beq_eq_decide_eq]
theorem lay_strOf {x : Str} (h : PyData.canLay0 (.str x) = true := by decide +kernel) : PyData.canLay0 (.str x) = true := h
def kids : Ty → List Ty
  | .var _ _ => []
  | .node _ ks => ks
theorem cut1 (xs : List V) : cutV xs (some 1) none = xs.drop 1 := by
  unfold cutV
  rw [show HT.sIx xs.length 0 (some 1) = min 1 xs.length from HT.sIx_nat xs.length 0 1, HT.sIx_none]
  cases xs with
  | nil => rfl
  | cons x r =>
    rw [show min 1 (x :: r).length = 1 by rw [List.length_cons]; omega]
    show (List.take ((x :: r).length - 1) r) = r
    rw [List.length_cons, Nat.add_sub_cancel]
    exact List.take_length
section
variable {K : PySem.W.Frag} {σ : L2.St} {H : Hp} {i : Nat} {v : V} {t : Ty}
/-- t[0] -/
theorem q_word {Q : VK} (hσ : σ[i]? = some (some v)) (h : Rep K H v t) (q : Q (.str (word t)) H) : tOp (rIxT K) (tVar i) (tC (.int 0)) σ H Q := by
  obtain ⟨a, xs, rfl, hS, h0⟩ := h.tup
  exact ⟨_, hσ, a, xs, 0, _, rfl, rfl, hS, atI_nat (j := 0) h0, q⟩
/-- t[0] == a text -/
theorem t_word {Q : Bool → Hp → Prop} {s : Str} (hσ : σ[i]? = some (some v)) (h : Rep K H v t) (hs : PyData.canLay0 (.str s) = true) (q : Q (decide (word t = s)) H) : tTest (tOp (rEqG K) (tOp (rIxT K) (tVar i) (tC (.int 0))) (tC (.str s))) σ H Q := by
  refine q_word hσ h ⟨.str _, .str _, .str _, .str _, lay_word t, hs, Nat.zero_le _, _, rfl, ?_⟩
  rw [eqv_str]; exact q
theorem t_wordT {Q : Bool → Hp → Prop} {s : Str} (hσ : σ[i]? = some (some v)) (h : Rep K H v t) (hs : PyData.canLay0 (.str s) = true) (e : word t = s) (q : Q true H) : tTest (tOp (rEqG K) (tOp (rIxT K) (tVar i) (tC (.int 0))) (tC (.str s))) σ H Q :=
  t_word hσ h hs (by rw [decide_eq_true e]; exact q)
theorem t_wordF {Q : Bool → Hp → Prop} {s : Str} (hσ : σ[i]? = some (some v)) (h : Rep K H v t) (hs : PyData.canLay0 (.str s) = true) (e : word t ≠ s) (q : Q false H) : tTest (tOp (rEqG K) (tOp (rIxT K) (tVar i) (tC (.int 0))) (tC (.str s))) σ H Q :=
  t_word hσ h hs (by rw [decide_eq_false e]; exact q)
/-- t[0] in a tuple of texts -/
theorem t_wordIn {Q : Bool → Hp → Prop} {a : Addr} {xs : List V} {tb : TE} (hσ : σ[i]? = some (some v)) (h : Rep K H v t) (hb : ∀ R : VK, R (.ref a) H → tb σ H R) (ht : SqT K H a xs) (hf : xs.all flatV = true) (q : Q (inV (.str (word t)) xs) H) :
    tTest (tOp (rIn K false) (tOp (rIxT K) (tVar i) (tC (.int 0))) tb) σ H Q := by
  refine q_word hσ h (hb _ ⟨a, xs, rfl, .inr ht, rfl, hf, _, rfl, q⟩)
end
end UX

/-! loose_within, made_with and the law's own two. -/
namespace UW
open PySem PySem.Spec PyProof.Rows L2 U UV UD UX
section
variable {P : Program} {w : World} {K : PySem.W.Frag} {mg : Str → Option Value} {base : Heap}

theorem l_fun : PyData.canLay0 (.str "fun") = true := by decide +kernel
theorem l_tuple : PyData.canLay0 (.str "tuple") = true := by decide +kernel
theorem l_data : PyData.canLay0 (.str "data") = true := by decide +kernel
theorem l_unknown : PyData.canLay0 (.str "unknown") = true := by decide +kernel
theorem l_param : PyData.canLay0 (.str "param") = true := by decide +kernel
/-- what is left when neither fun, tuple nor data -/
theorem lastly {t : Ty} (h1 : word t ≠ "fun") (h2 : word t ≠ "tuple") (h3 : word t ≠ "data") (hw : wf t) :
    (inV (.str (word t)) [.str "ref", .str "array"] = true ∧ ∃ b u, t = .node (.one b) [u]) ∨ (inV (.str (word t)) [.str "ref", .str "array"] = false ∧ kids t = [] ∧ (∀ l ks, t = .node l ks → ∃ p, l = .plain p)) := by
  cases t with
  | var p k => exact .inr ⟨(by decide +kernel : ∀ p : Bool, inV (.str (varW p)) [.str "ref", .str "array"] = false) p, rfl, fun _ _ e => nomatch e⟩
  | node l ks =>
    obtain ⟨h0, _⟩ := wf_node.mp hw
    cases l with
    | fn => exact absurd rfl h1
    | tup => exact absurd rfl h2
    | data n => exact absurd rfl h3
    | plain p =>
      refine .inr ⟨by
        show inV (.str (plW p)) _ = false
        cases p <;> decide +kernel, ?_, fun l ks e => ⟨p, by injection e with e; exact e.symm⟩⟩
      cases ks with
      | nil => rfl
      | cons _ _ => cases h0
    | one b =>
      refine .inl ⟨by
        show inV (.str (labW (.one b))) _ = true
        cases b <;> decide +kernel, b, ?_⟩
      cases ks with
      | nil => cases h0
      | cons u r =>
        cases r with
        | nil => exact ⟨u, rfl⟩
        | cons _ _ => cases h0
theorem is_fun {t : Ty} (h : word t = "fun") (hw : wf t) : ∃ u v, t = .node .fn [u, v] := by
  cases t with
  | var p k => exact absurd h fun e => varW_labW (p := p) (l := .fn) e
  | node l ks =>
    obtain ⟨h0, _⟩ := wf_node.mp hw
    rcases labW_inj (m := .fn) h with e | ⟨_, _, _, e⟩
    · subst e
      match ks, h0 with
      | [u, v], _ => exact ⟨u, v, rfl⟩
    · cases e
theorem is_tuple {t : Ty} (h : word t = "tuple") : ∃ ks, t = .node .tup ks := by
  cases t with
  | var p k => exact absurd h fun e => varW_labW (p := p) (l := .tup) e
  | node l ks =>
    rcases labW_inj (m := .tup) h with e | ⟨_, _, _, e⟩
    · subst e; exact ⟨ks, rfl⟩
    · cases e
theorem is_data {t : Ty} (h : word t = "data") : ∃ n ks, t = .node (.data n) ks := by
  cases t with
  | var p k => exact absurd h fun e => varW_labW (p := p) (l := .data .list) e
  | node l ks =>
    rcases labW_inj (m := .data .list) h with e | ⟨n, _, e, _⟩
    · subst e; exact ⟨_, ks, rfl⟩
    · subst e; exact ⟨n, ks, rfl⟩

def spWithin (K : PySem.W.Frag) : Sp := fun vs H Q _ => ∃ v t, vs = [v] ∧ Rep K H v t ∧ wf t ∧ ∀ a xs H', Same H H' → SqT K H' a xs → Reps K H' xs (kids t) → Q (.ref a) H'
theorem ok_loose_within (D : Defs K mg) : FnOk P w K mg base CX0 1 D.loose_within.a D.loose_within.fd ["one"] (spWithin K) := by
  have sc := sc_loose_within
  refine D.loose_within.F.ok sc (fun vs H Q E h => ?_) (fun cdv A outer s H vs Q E hr h => ?_)
  · obtain ⟨v, t, rfl, _⟩ := h
    rfl
  obtain ⟨v, t, rfl, h, hw, q⟩ := h
  refine ⟨_, (pss_cons (ps_if (pt_cmpR (op_eqG (room_eq hr)) (pe_ix ix_tup (pv 0) pe_int (fun _ _ => rfl)) pe_str (nomark _)) (pss_one (ps_ret (pe_slice sl_tup (pv 0) (po_some pe_int) po_none))) pss_nil)
      (pss_cons (ps_if (pt_cmpR (op_eqG (room_eq hr)) (pe_ix ix_tup (pv 0) pe_int (fun _ _ => rfl)) pe_str (nomark _)) (pss_one (ps_ret (pe_ix ix_tup (pv 0) pe_int (fun _ _ => rfl)))) pss_nil)
      (pss_cons (ps_if (pt_cmpR (op_eqG (room_eq hr)) (pe_ix ix_tup (pv 0) pe_int (fun _ _ => rfl)) pe_str (nomark _)) (pss_one (ps_ret (pe_ix ix_tup (pv 0) pe_int (fun _ _ => rfl)))) pss_nil)
      (pss_one (ps_ret (pe_ifExp (pt_cmpR op_in_seq (pe_ix ix_tup (pv 0) pe_int (fun _ _ => rfl)) (pglobT (by rfl) D.c_ONE_KINDS) (by rfl)) (pe_tup (pa_cons (pe_ix ix_tup (pv 0) pe_int (fun _ _ => rfl)) pa_nil)) (pe_tup pa_nil))))))), ?_⟩
  by_cases e1 : word t = "fun"
  · refine t_wordT rfl h l_fun e1 ?_
    refine iteT ?_
    obtain ⟨x, y, rfl⟩ := is_fun e1 hw
    obtain ⟨a, vs, rfl, hS, hR⟩ := h.flat rfl
    have hl := hR.length
    refine ⟨_, rfl, _, rfl, _, _, rfl, hS, ?_, fun p hp => ?_⟩
    · rw [show HT.sIx (V.str (labW Lab.fn) :: vs).length 0 (some 1) = min 1 _ from HT.sIx_nat _ 0 1]
      rw [List.length_cons]; omega
    · rw [cut1]
      exact q p vs _ (same_new hp) (.inl (.inl upd_same)) (hR.mono (tst_same (same_new hp)))
  refine t_wordF rfl h l_fun e1 ?_
  refine iteF ?_
  by_cases e2 : word t = "tuple"
  · refine t_wordT rfl h l_tuple e2 ?_
    refine iteT ?_
    obtain ⟨ks, rfl⟩ := is_tuple e2
    obtain ⟨a, b, vs, rfl, hS, hT, hR⟩ := h.tupl
    exact ⟨_, rfl, _, _, 1, _, rfl, rfl, hS, atI_nat (j := 1) rfl, q b vs H (fun _ _ e => e) hT hR⟩
  refine t_wordF rfl h l_tuple e2 ?_
  refine iteF ?_
  by_cases e3 : word t = "data"
  · refine t_wordT rfl h l_data e3 ?_
    refine iteT ?_
    obtain ⟨n, ks, rfl⟩ := is_data e3
    obtain ⟨a, b, vs, rfl, hS, hT, hR⟩ := h.dat
    exact ⟨_, rfl, _, _, 2, _, rfl, rfl, hS, atI_nat (j := 2) rfl, q b vs H (fun _ _ e => e) hT hR⟩
  refine t_wordF rfl h l_data e3 ?_
  refine iteF ?_
  refine t_wordIn rfl h (fun _ r => r) (D.c_ONE_KINDS.t H) rfl ?_
  rcases lastly e1 e2 e3 hw with ⟨e4, b, u, rfl⟩ | ⟨e4, e5, _⟩
  · rw [e4]
    refine iteT ?_
    obtain ⟨a, vs, rfl, hS, hR⟩ := h.flat rfl
    cases hR with
    | cons h1 h2 =>
      cases h2
      exact ⟨_, rfl, _, _, 1, _, rfl, rfl, hS, atI_nat (j := 1) rfl, Nat.le_of_ble_eq_true rfl, fun p hp => q p _ _ (same_new hp) (.inl (.inl upd_same)) (.cons (Rep.mono h1 (tst_same (same_new hp))) .nil)⟩
  · rw [e4]
    refine iteF ?_
    exact ⟨Nat.zero_le _, fun p hp => q p [] _ (same_new hp) (.inl (.inl upd_same)) (by rw [e5]; exact .nil)⟩

/-- a made type with other parts -/
def made : Ty → List Ty → Ty
  | .var p k, _ => .var p k
  | .node l _, us => .node l us
def spMade (K : PySem.W.Frag) : Sp := fun vs H Q _ => ∃ v t b xs us, vs = [v, .ref b] ∧ Rep K H v t ∧ wf t ∧ SqT K H b xs ∧ Reps K H xs us ∧ us.length = (kids t).length ∧ ∀ a H', Same H H' → Rep K H' (.ref a) (made t us) → Q (.ref a) H'
theorem size5 {n : Nat} (h : n ≤ 6) : n ≤ sizeLine := by rw [sizeLine_eq]; omega
theorem wf_len {l : Lab} {ks : List Ty} (h : wf (.node l ks)) : ks.length ≤ 4 := by
  have := (wf_node.mp h).1
  cases l <;> (simp only [okL, Bool.or_eq_true, beq_iff_eq] at this; omega)
theorem ok_made_with (D : Defs K mg) : FnOk P w K mg base CX0 1 D.made_with.a D.made_with.fd ["one", "types"] (spMade K) := by
  have sc := sc_made_with
  refine D.made_with.F.ok sc (fun vs H Q E h => ?_) (fun cdv A outer s H vs Q E hr h => ?_)
  · obtain ⟨v, t, b, xs, us, rfl, _⟩ := h
    rfl
  obtain ⟨v, t, b, xs, us, rfl, h, hw, hB, hR, hn, q⟩ := h
  have hl := hR.length
  refine ⟨_, (pss_cons (ps_if (pt_cmpR (op_eqG (room_eq hr)) (pe_ix ix_tup (pv 0) pe_int (fun _ _ => rfl)) pe_str (nomark _)) (pss_one (ps_ret (pe_op op_catA (pe_tup (pa_cons pe_str pa_nil)) (pv 1)))) pss_nil)
      (pss_cons (ps_if (pt_cmpR (op_eqG (room_eq hr)) (pe_ix ix_tup (pv 0) pe_int (fun _ _ => rfl)) pe_str (nomark _)) (pss_one (ps_ret (pe_tup (pa_cons pe_str (pa_cons (pv 1) pa_nil))))) pss_nil)
      (pss_cons (ps_if (pt_cmpR (op_eqG (room_eq hr)) (pe_ix ix_tup (pv 0) pe_int (fun _ _ => rfl)) pe_str (nomark _)) (pss_one (ps_ret (pe_tup (pa_cons pe_str (pa_cons (pe_ix ix_tup (pv 0) pe_int (fun _ _ => rfl)) (pa_cons (pv 1) pa_nil)))))) pss_nil)
      (pss_one (ps_ret (pe_ifExp (pt_cmpR op_in_seq (pe_ix ix_tup (pv 0) pe_int (fun _ _ => rfl)) (pglobT (by rfl) D.c_ONE_KINDS) (by rfl)) (pe_tup (pa_cons (pe_ix ix_tup (pv 0) pe_int (fun _ _ => rfl)) (pa_cons (pe_ix ix_tup (pv 1) pe_int (fun _ _ => rfl)) pa_nil))) (pv 0))))))), ?_⟩
  by_cases e1 : word t = "fun"
  · refine t_wordT rfl h l_fun e1 ?_
    refine iteT ?_
    obtain ⟨x, y, rfl⟩ := is_fun e1 hw
    have hn2 : xs.length = 2 := by rw [hl, hn]; rfl
    refine ⟨Nat.le_of_ble_eq_true rfl, fun p hp => ?_⟩
    refine ⟨_, rfl, _, _, [.str "fun"], xs, rfl, rfl, .inl (.inl upd_same), tst_seq (tst_same (same_new hp)) hB, ?_, ?_⟩
    · rw [hn2]; exact size5 (by decide)
    refine ⟨fun z => (nomatch z), fun _ z => ?_, fun _ _ p2 hp2 => ?_⟩
    · rw [z] at hn2; cases hn2
    refine q p2 _ (fun a u ha => same_new hp2 a u (same_new hp a u ha)) (Rep.mkFlat (l := .fn) rfl (.inl (.inl upd_same)) (hR.mono (tst_same fun a u ha => same_new hp2 a u (same_new hp a u ha))))
  refine t_wordF rfl h l_fun e1 ?_
  refine iteF ?_
  by_cases e2 : word t = "tuple"
  · refine t_wordT rfl h l_tuple e2 ?_
    refine iteT ?_
    obtain ⟨ks, rfl⟩ := is_tuple e2
    refine ⟨_, rfl, Nat.le_of_ble_eq_true rfl, fun p hp => ?_⟩
    have S := same_new (H := H) (p := p) (o := .tup [.str "tuple", .ref b]) hp
    exact q p _ S (Rep.mkTup (.inl (.inl upd_same)) (tst_seq (tst_same S) hB) (hR.mono (tst_same S)))
  refine t_wordF rfl h l_tuple e2 ?_
  refine iteF ?_
  by_cases e3 : word t = "data"
  · refine t_wordT rfl h l_data e3 ?_
    refine iteT ?_
    obtain ⟨n, ks, rfl⟩ := is_data e3
    obtain ⟨a, c, vs, rfl, hS, hT, _⟩ := h.dat
    refine ⟨_, rfl, _, _, 1, _, rfl, rfl, hS, atI_nat (j := 1) rfl, _, rfl, Nat.le_of_ble_eq_true rfl, fun p hp => ?_⟩
    have S := same_new (H := H) (p := p) (o := .tup [.str "data", .str (nmW n), .ref b]) hp
    exact q p _ S (Rep.mkData (.inl (.inl upd_same)) (tst_seq (tst_same S) hB) (hR.mono (tst_same S)))
  refine t_wordF rfl h l_data e3 ?_
  refine iteF ?_
  refine t_wordIn rfl h (fun _ r => r) (D.c_ONE_KINDS.t H) rfl ?_
  rcases lastly e1 e2 e3 hw with ⟨e4, b2, u, rfl⟩ | ⟨e4, e5, e6⟩
  · rw [e4]
    refine iteT ?_
    match us, hn, hR with
    | [u2], _, hR =>
      obtain ⟨a, vs, rfl, hS, _⟩ := h.flat rfl
      cases hR with
      | cons h1 h2 =>
        cases h2
        refine ⟨_, rfl, _, _, 0, _, rfl, rfl, hS, atI_nat (j := 0) rfl, _, rfl, _, _, 0, _, rfl, rfl, hB, atI_nat (j := 0) rfl, Nat.le_of_ble_eq_true rfl, fun p hp => ?_⟩
        exact q p _ (same_new hp) (Rep.mkFlat (l := .one b2) rfl (.inl (.inl upd_same)) (.cons (Rep.mono h1 (tst_same (same_new hp))) .nil))
  · rw [e4]
    refine iteF ?_
    obtain ⟨a, vs, rfl, hS, _⟩ := h.tup
    refine ⟨_, rfl, q a H (fun _ _ e => e) ?_⟩
    cases t with
    | var p k => exact h
    | node l ks =>
      have : us = [] := List.eq_nil_of_length_eq_zero (by rw [hn, e5]; rfl)
      obtain ⟨p, rfl⟩ := e6 l ks rfl
      have e7 : ks = [] := e5
      rw [this, show made (.node (.plain p) ks) [] = .node (.plain p) ks by rw [e7]; rfl]
      exact h

/-- two texts that differ -/
theorem beq_no {a b : Str} (h : a ≠ b) : eqV (.str a) (.str b) = false := by
  show (a == b) = false
  exact beq_eq_false_iff_ne.mpr h
/-- t[0] in (a, b): a new tuple -/
theorem t_wordT2 {Q : Bool → Hp → Prop} {σ : L2.St} {H : Hp} {i : Nat} {v : V} {t : Ty} {ta : TA} {xs : List V} (hσ : σ[i]? = some (some v)) (h : Rep K H v t) (ht : ∀ R : List V → Hp → Prop, R xs H → ta σ H R) (hf : xs.all flatV = true) (hl : xs.length ≤ 6)
    (q : ∀ H', Same H H' → Q (inV (.str (word t)) xs) H') : tTest (tOp (rIn K false) (tOp (rIxT K) (tVar i) (tC (.int 0))) (tTup ta)) σ H Q :=
  q_word hσ h (ht _ ⟨size5 hl, fun p hp => ⟨p, xs, rfl, .inr (.inl (.inl upd_same)), rfl, hf, _, rfl, q _ (same_new hp)⟩⟩)
theorem ok_law_within (D : Defs K mg) : FnOk P w K mg base CX0 1 D.law_within.a D.law_within.fd ["_law_one"] (spWithin K) := by
  have sc := sc_law_within
  refine D.law_within.F.ok sc (fun vs H Q E h => ?_) (fun cdv A outer s H vs Q E hr h => ?_)
  · obtain ⟨v, t, rfl, _⟩ := h
    rfl
  obtain ⟨v, t, rfl, h, hw, q⟩ := h
  refine ⟨_, (pss_cons (ps_if (pt_cmpR (op_eqG (room_eq hr)) (pe_ix ix_tup (pv 0) pe_int (fun _ _ => rfl)) pe_str (nomark _)) (pss_one (ps_ret (pe_slice sl_tup (pv 0) (po_some pe_int) po_none))) pss_nil)
      (pss_cons (ps_if (pt_cmpR op_in_seq (pe_ix ix_tup (pv 0) pe_int (fun _ _ => rfl)) (pe_tup (pa_cons pe_str (pa_cons pe_str pa_nil))) (by rfl)) (pss_one (ps_ret (pe_ix ix_tup (pv 0) (pe_un un_neg pe_int) (fun _ _ => rfl)))) pss_nil)
      (pss_one (ps_ret (pe_ifExp (pt_cmpR op_in_seq (pe_ix ix_tup (pv 0) pe_int (fun _ _ => rfl)) (pe_tup (pa_cons pe_str (pa_cons pe_str pa_nil))) (by rfl)) (pe_slice sl_tup (pv 0) (po_some pe_int) po_none) (pe_tup pa_nil)))))), ?_⟩
  by_cases e1 : word t = "fun"
  · refine t_wordT rfl h l_fun e1 ?_
    refine iteT ?_
    obtain ⟨x, y, rfl⟩ := is_fun e1 hw
    obtain ⟨a, vs, rfl, hS, hR⟩ := h.flat rfl
    have hl := hR.length
    refine ⟨_, rfl, _, rfl, _, _, rfl, hS, ?_, fun p hp => ?_⟩
    · rw [show HT.sIx (V.str (labW Lab.fn) :: vs).length 0 (some 1) = min 1 _ from HT.sIx_nat _ 0 1]
      rw [List.length_cons]; omega
    · rw [cut1]
      exact q p vs _ (same_new hp) (.inl (.inl upd_same)) (hR.mono (tst_same (same_new hp)))
  refine t_wordF rfl h l_fun e1 ?_
  refine iteF ?_
  refine t_wordT2 rfl h (fun _ r => r) rfl (Nat.le_of_ble_eq_true rfl) fun H1 S1 => ?_
  have h' := h.mono (tst_same S1)
  have q' : ∀ a xs H', Same H1 H' → SqT K H' a xs → Reps K H' xs (kids t) → Q (.ref a) H' := fun a xs H' s r1 r2 => q a xs H' (fun b o hb => s b o (S1 b o hb)) r1 r2
  by_cases e2 : word t = "tuple"
  · obtain ⟨ks, rfl⟩ := is_tuple e2
    refine iteT ?_
    obtain ⟨a, b, vs, rfl, hS, hT, hR⟩ := h'.tupl
    exact ⟨_, rfl, _, rfl, _, _, _, _, rfl, rfl, hS, rfl, q' b vs H1 (fun _ _ e => e) hT hR⟩
  by_cases e3 : word t = "data"
  · obtain ⟨n, ks, rfl⟩ := is_data e3
    refine iteT ?_
    obtain ⟨a, b, vs, rfl, hS, hT, hR⟩ := h'.dat
    exact ⟨_, rfl, _, rfl, _, _, _, _, rfl, rfl, hS, rfl, q' b vs H1 (fun _ _ e => e) hT hR⟩
  have no : inV (.str (word t)) [.str "tuple", .str "data"] = false := by
    unfold inV
    simp only [List.any_cons, List.any_nil, Bool.or_false, Bool.or_eq_false_iff]
    exact ⟨beq_no fun z => e2 z.symm, beq_no fun z => e3 z.symm⟩
  rw [no]
  refine iteF ?_
  refine t_wordT2 rfl h' (fun _ r => r) rfl (Nat.le_of_ble_eq_true rfl) fun H2 S2 => ?_
  have h2 := h'.mono (tst_same S2)
  have q2 : ∀ a xs H', Same H2 H' → SqT K H' a xs → Reps K H' xs (kids t) → Q (.ref a) H' := fun a xs H' s r1 r2 => q' a xs H' (fun b o hb => s b o (S2 b o hb)) r1 r2
  rcases lastly e1 e2 e3 hw with ⟨e4, b, u, rfl⟩ | ⟨e4, e5, _⟩
  · rw [e4]
    refine iteT ?_
    obtain ⟨a, vs, rfl, hS, hR⟩ := h2.flat rfl
    have hl := hR.length
    refine ⟨_, rfl, _, rfl, _, _, rfl, hS, ?_, fun p hp => ?_⟩
    · rw [show HT.sIx (V.str (labW (Lab.one b)) :: vs).length 0 (some 1) = min 1 _ from HT.sIx_nat _ 0 1]
      rw [List.length_cons]; omega
    · rw [cut1]
      exact q2 p vs _ (same_new hp) (.inl (.inl upd_same)) (hR.mono (tst_same (same_new hp)))
  · rw [e4]
    refine iteF ?_
    exact ⟨Nat.zero_le _, fun p hp => q2 p [] _ (same_new hp) (.inl (.inl upd_same)) (by rw [e5]; exact .nil)⟩
def spMadeL (K : PySem.W.Frag) : Sp := fun vs H Q _ => ∃ v t b xs us, vs = [v, .ref b] ∧ Rep K H v t ∧ wf t ∧ SqL K H b xs ∧ Reps K H xs us ∧ us.length = (kids t).length ∧ ∀ a H', Same H H' → Rep K H' (.ref a) (made t us) → Q (.ref a) H'
theorem sql_same {H H' : Hp} (S : Same H H') {a : Addr} {xs : List V} (h : SqL K H a xs) : SqL K H' a xs := by
  rcases h with (h | ⟨o, h⟩) | h
  · exact .inl (.inl (S _ _ h))
  · exact .inl (.inr ⟨o, S _ _ h⟩)
  · exact .inr h
theorem same_trans {H H1 H2 : Hp} (a : Same H H1) (b : Same H1 H2) : Same H H2 := fun c o h => b c o (a c o h)
theorem ok_law_made (D : Defs K mg) : FnOk P w K mg base CX0 1 D.law_made.a D.law_made.fd ["_law_one", "_law_some"] (spMadeL K) := by
  have sc := sc_law_made
  refine D.law_made.F.ok sc (fun vs H Q E h => ?_) (fun cdv A outer s H vs Q E hr h => ?_)
  · obtain ⟨v, t, b, xs, us, rfl, _⟩ := h
    rfl
  obtain ⟨v, t, b, xs, us, rfl, h, hw, hB, hR, hn, q⟩ := h
  have hl := hR.length
  refine ⟨_, (pss_cons (ps_if (pt_cmpR (op_eqG (room_eq hr)) (pe_ix ix_tup (pv 0) pe_int (fun _ _ => rfl)) pe_str (nomark _)) (pss_one (ps_ret (pe_tup (pa_cons pe_str (pa_cons (pe_callTy call_tuple_of (by rfl) D.z_tuple (by decide +kernel) (pa_cons (pv 1) pa_nil)) pa_nil))))) pss_nil)
      (pss_cons (ps_if (pt_cmpR (op_eqG (room_eq hr)) (pe_ix ix_tup (pv 0) pe_int (fun _ _ => rfl)) pe_str (nomark _)) (pss_one (ps_ret (pe_tup (pa_cons pe_str (pa_cons (pe_ix ix_tup (pv 0) pe_int (fun _ _ => rfl)) (pa_cons (pe_callTy call_tuple_of (by rfl) D.z_tuple (by decide +kernel) (pa_cons (pv 1) pa_nil)) pa_nil)))))) pss_nil)
      (pss_one (ps_ret (pe_ifExp (pt_cmpR op_in_seq (pe_ix ix_tup (pv 0) pe_int (fun _ _ => rfl)) (pe_tup (pa_cons pe_str (pa_cons pe_str (pa_cons pe_str pa_nil)))) (by rfl)) (pe_op op_catA (pe_slice sl_tupA (pv 0) po_none (po_some pe_int)) (pe_callTy call_tuple_of (by rfl) D.z_tuple (by decide +kernel) (pa_cons (pv 1) pa_nil))) (pv 0)))))), ?_⟩
  by_cases e2 : word t = "tuple"
  · refine t_wordT rfl h l_tuple e2 ?_
    refine iteT ?_
    obtain ⟨ks, rfl⟩ := is_tuple e2
    refine ⟨_, rfl, b, xs, rfl, .inl ⟨hB, fun c hc => ?_⟩⟩
    have S1 := same_new (H := H) (p := c) (o := .tup xs) hc
    refine ⟨Nat.le_of_ble_eq_true rfl, fun p hp => ?_⟩
    have S2 := same_new (H := upd H c (.tup xs)) (p := p) (o := .tup [.str "tuple", .ref c]) hp
    exact q p _ (same_trans S1 S2) (Rep.mkTup (.inl (.inl upd_same)) (tst_seq (tst_same S2) (.inl (.inl upd_same))) (hR.mono (tst_same (same_trans S1 S2))))
  refine t_wordF rfl h l_tuple e2 ?_
  refine iteF ?_
  by_cases e3 : word t = "data"
  · refine t_wordT rfl h l_data e3 ?_
    refine iteT ?_
    obtain ⟨n, ks, rfl⟩ := is_data e3
    obtain ⟨a, c, vs, rfl, hS, hT, _⟩ := h.dat
    refine ⟨_, rfl, _, _, 1, _, rfl, rfl, hS, atI_nat (j := 1) rfl, _, rfl, b, xs, rfl, .inl ⟨hB, fun c hc => ?_⟩⟩
    have S1 := same_new (H := H) (p := c) (o := .tup xs) hc
    refine ⟨Nat.le_of_ble_eq_true rfl, fun p hp => ?_⟩
    have S2 := same_new (H := upd H c (.tup xs)) (p := p) (o := .tup [.str "data", .str (nmW n), .ref c]) hp
    exact q p _ (same_trans S1 S2) (Rep.mkData (.inl (.inl upd_same)) (tst_seq (tst_same S2) (.inl (.inl upd_same))) (hR.mono (tst_same (same_trans S1 S2))))
  refine t_wordF rfl h l_data e3 ?_
  refine iteF ?_
  refine t_wordT2 rfl h (fun _ r => r) rfl (Nat.le_of_ble_eq_true rfl) fun H1 S1 => ?_
  have h' := h.mono (tst_same S1)
  -- a word with others behind it
  have flat : ∀ l ks, t = .node l ks → flatL l = true → ks ≠ [] → tOp (rCatA K) (tSl (rSlA K) (tVar 0) tNoPart (tPart (tC (.int 1)))) (tCB (fun xs H Q => ∃ p ys, xs = [.ref p] ∧ ((SqL K H p ys ∧ ∀ l, H l = none → Q (.ref l) (upd H l (.tup ys))) ∨ (SqT K H p ys ∧ Q (.ref p) H))) (tCons (tVar 1) tNil)) (start ["_law_one", "_law_some"] [v, .ref b]) H1 Q := by
    rintro l ks rfl hf hk
    obtain ⟨a, vs, rfl, hS, hV⟩ := h'.flat hf
    have hvl := hV.length
    have kl : 0 < ks.length := List.length_pos_iff.mpr hk
    have hn' : us.length = ks.length := hn
    have c1 : cutV (.str (labW l) :: vs) none (some 1) = [.str (labW l)] := by
      unfold cutV
      rw [show HT.sIx (V.str (labW l) :: vs).length (V.str (labW l) :: vs).length (some 1) = min 1 _ from HT.sIx_nat _ _ 1, HT.sIx_none]
      rw [show min 1 (V.str (labW l) :: vs).length = 1 by rw [List.length_cons]; omega]
      rfl
    have go : ∀ H2 p, Same H1 H2 → SqT K H2 p [.str (labW l)] → ∀ c, H2 c = none → SqL K H2 b xs → rCatA K (.ref p) (.ref c) (upd H2 c (.tup xs)) Q := fun H2 p S2 hp c hc hB2 => by
      have S3 := same_new (H := H2) (p := c) (o := .tup xs) hc
      refine ⟨p, c, [.str (labW l)], xs, rfl, rfl, tst_seq (tst_same S3) hp, .inl (.inl upd_same), ?_, fun z => (nomatch z), fun _ z => ?_, fun _ _ r hr => ?_⟩
      · have := wf_len hw
        rw [hl, hn', List.length_singleton]
        exact size5 (by omega)
      · rw [z] at hl; rw [← hl] at hn'; simp at hn'; omega
      · have S4 := same_new (H := upd H2 c (.tup xs)) (p := r) (o := .tup ([.str (labW l)] ++ xs)) hr
        have S := same_trans S1 (same_trans S2 (same_trans S3 S4))
        exact q r _ S (Rep.mkFlat hf (.inl (.inl upd_same)) (hR.mono (tst_same S)))
    refine ⟨_, rfl, _, rfl, a, _, rfl, hS, fun z => ?_, fun z p hp => ?_⟩
    · exfalso
      have := z.2
      rw [show HT.sIx (V.str (labW l) :: vs).length (V.str (labW l) :: vs).length (some 1) = min 1 _ from HT.sIx_nat _ _ 1, List.length_cons] at this
      omega
    · rw [c1]
      have S2 := same_new (H := H1) (p := p) (o := .tup [.str (labW l)]) hp
      refine ⟨_, rfl, b, xs, rfl, .inl ⟨sql_same S2 (sql_same S1 hB), fun c hc => ?_⟩⟩
      exact go _ p S2 (.inl (.inl upd_same)) c hc (sql_same S2 (sql_same S1 hB))
  by_cases e1 : word t = "fun"
  · obtain ⟨x, y, rfl⟩ := is_fun e1 hw
    refine iteT ?_
    exact flat _ _ rfl rfl (by simp)
  rcases lastly e1 e2 e3 hw with ⟨e4, b2, u, rfl⟩ | ⟨e4, e5, e6⟩
  · have yes : inV (.str (word (.node (.one b2) [u]))) [.str "fun", .str "ref", .str "array"] = true := by
      show inV (.str (labW (.one b2))) _ = true
      cases b2 <;> decide +kernel
    rw [yes]
    refine iteT ?_
    exact flat _ _ rfl rfl (by simp)
  · have no : inV (.str (word t)) [.str "fun", .str "ref", .str "array"] = false := by
      unfold inV at e4 ⊢
      rw [List.any_cons, e4, Bool.or_false]
      exact beq_no fun z => e1 z.symm
    rw [no]
    refine iteF ?_
    obtain ⟨a, vs, rfl, hS, _⟩ := h'.tup
    refine ⟨_, rfl, q a H1 S1 ?_⟩
    cases t with
    | var p k => exact h'
    | node l ks =>
      have : us = [] := List.eq_nil_of_length_eq_zero (by rw [hn, e5]; rfl)
      obtain ⟨p, rfl⟩ := e6 l ks rfl
      have e7 : ks = [] := e5
      rw [this, show made (.node (.plain p) ks) [] = .node (.plain p) ks by rw [e7]; rfl]
      exact h'
end
end UW

/-! Dicts of types; opened and with_unknowns; the law's own. -/
namespace UW
open PySem PySem.Spec PyProof.Rows L2 U UV UD UX
section
variable {P : Program} {w : World} {K : PySem.W.Frag} {mg : Str → Option Value} {base : Heap}

/-- a def that calls itself: each call below its own measure -/
theorem fn_rec {f : Addr} {fd : FuncData} {ps : List Str} {sp : Nat → Sp} {c : Nat} (len : ∀ n vs H Q E, sp n vs H Q E → vs.length = ps.length)
    (step : ∀ n, FnOk P w K mg base CX0 (n + c) f fd ps (fun vs H Q E => ∃ m, m < n ∧ sp m vs H Q E) → FnOk P w K mg base CX0 (n + c + 1) f fd ps (sp n)) : ∀ n, FnOk P w K mg base CX0 (n + c + 1) f fd ps (sp n) := fun n =>
  Nat.strongRecOn n fun n ih => step n ⟨fun vs H Q E ⟨m, _, h⟩ => len m vs H Q E h, fun A outer s H args us vs Q E hr he hb hv ⟨m, hm, h⟩ => (ih m hm).run A outer s H args us vs Q E (hr.mono (by omega)) he hb hv h⟩

/-! ### a dict from numbers to types -/
abbrev kN (k : Nat) : Key := .inl (k : Int)
def DictIs (K : PySem.W.Frag) (H : Hp) (kvs : List (Key × V)) (r : Told) : Prop := kvs.map (·.1) = r.map (fun p => kN p.1) ∧ Reps K H (kvs.map (·.2)) (r.map (·.2))
def TolD (K : PySem.W.Frag) (H : Hp) (d : Addr) (r : Told) : Prop := ∃ kvs, H d = some (.dK kvs) ∧ DictIs K H kvs r
theorem DictIs.mono {H H' : Hp} {kvs : List (Key × V)} {r : Told} (h : DictIs K H kvs r) (e : Tst H H') : DictIs K H' kvs r := ⟨h.1, Reps.mono e h.2⟩
theorem DictIs.nil {H : Hp} : DictIs K H [] [] := ⟨rfl, .nil⟩
theorem DictIs.length {H : Hp} {kvs : List (Key × V)} {r : Told} (h : DictIs K H kvs r) : kvs.length = r.length := by
  have := congrArg List.length h.1
  rwa [List.length_map, List.length_map] at this
theorem kN_inj {a b : Nat} (h : kN a = kN b) : a = b := by
  have : (a : Int) = b := Sum.inl.inj h
  omega
theorem DictIs.none {H : Hp} : ∀ {kvs : List (Key × V)} {r : Told} {k : Nat}, DictIs K H kvs r → r.lookup k = none → valV kvs (kN k) = none
  | [], _, _, _, _ => rfl
  | p :: kvs, [], _, h, _ => by cases h.1
  | p :: kvs, (x, t) :: r, k, h, e => by
    obtain ⟨h1, h2⟩ := h
    rw [List.map_cons, List.map_cons] at h1 h2
    injection h1 with h1 h3
    cases h2 with
    | cons g1 g2 =>
      rw [List.lookup_cons] at e
      have hk : k ≠ x := fun z => by subst z; simp at e
      rw [show (k == x) = false from beq_eq_false_iff_ne.mpr hk] at e
      rw [valV_neg fun z => hk (kN_inj (z.symm.trans h1))]
      exact DictIs.none ⟨h3, g2⟩ e
theorem DictIs.some {H : Hp} : ∀ {kvs : List (Key × V)} {r : Told} {k : Nat} {t : Ty}, DictIs K H kvs r → r.lookup k = some t → ∃ v, valV kvs (kN k) = some v ∧ Rep K H v t
  | [], [], _, _, _, e => by cases e
  | [], p :: r, _, _, h, e => by cases h.1
  | p :: kvs, [], _, _, h, _ => by cases h.1
  | p :: kvs, (x, u) :: r, k, t, h, e => by
    obtain ⟨h1, h2⟩ := h
    rw [List.map_cons, List.map_cons] at h1 h2
    injection h1 with h1 h3
    cases h2 with
    | cons g1 g2 =>
      rw [List.lookup_cons] at e
      by_cases hk : k = x
      · subst hk
        simp at e; subst e
        exact ⟨p.2, valV_pos h1, g1⟩
      · rw [show (k == x) = false from beq_eq_false_iff_ne.mpr hk] at e
        rw [valV_neg fun z => hk (kN_inj (z.symm.trans h1))]
        exact DictIs.some ⟨h3, g2⟩ e
theorem DictIs.snoc {H : Hp} {kvs : List (Key × V)} {r : Told} {k : Nat} {t : Ty} {v : V} (h : DictIs K H kvs r) (hn : r.lookup k = Option.none) (g : Rep K H v t) : DictIs K H (putK kvs (kN k) v) (r ++ [(k, t)]) := by
  have e : putK kvs (kN k) v = kvs ++ [(kN k, v)] := by
    unfold putK
    rw [valV_any, h.none hn]
    rfl
  rw [e]
  refine ⟨by rw [List.map_append, List.map_append, h.1]; rfl, ?_⟩
  rw [List.map_append, List.map_append]
  exact Reps.append h.2 (.cons g .nil)
theorem TolD.same {H H' : Hp} {d : Addr} {r : Told} (h : TolD K H d r) (S : Same H H') : TolD K H' d r := by
  obtain ⟨kvs, e, h⟩ := h
  exact ⟨kvs, S _ _ e, h.mono (tst_same S)⟩
theorem TolD.isD {H : Hp} {d : Addr} {r : Told} (h : TolD K H d r) : IsD H d := by
  obtain ⟨kvs, e, h⟩ := h
  exact .inl ⟨kvs, .inl e⟩
theorem TolD.no {H : Hp} {d : Addr} {r : Told} {k : Nat} (h : TolD K H d r) (e : r.lookup k = none) : DGet H d (.int k) none := by
  obtain ⟨kvs, q, h⟩ := h
  have := DGet.k (k := kN k) q
  rwa [h.none e] at this
theorem TolD.yes {H : Hp} {d : Addr} {r : Told} {k : Nat} {t : Ty} (h : TolD K H d r) (e : r.lookup k = some t) : ∃ v, DGet H d (.int k) (some v) ∧ Rep K H v t := by
  obtain ⟨kvs, q, h⟩ := h
  have := DGet.k (k := kN k) q
  obtain ⟨v, e1, e2⟩ := h.some e
  rw [e1] at this
  exact ⟨v, this, e2⟩
/-- d[k] = v, k new -/
theorem TolD.put {H : Hp} {d : Addr} {r : Told} {k : Nat} {t : Ty} {v : V} (h : TolD K H d r) (hn : r.lookup k = none) (g : Rep K H v t) (hl : r.length ≤ 1000) : ∃ H', DPut H d (.int k) v H' ∧ But d H H' ∧ TolD K H' d (r ++ [(k, t)]) ∧ Tst H H' := by
  obtain ⟨kvs, q, h⟩ := h
  have hb : But d H (upd H d (.dK (putK kvs (kN k) v))) := but_upd _
  have ht : Tst H (upd H d (.dK (putK kvs (kN k) v))) := tst_but hb (by rw [q]; exact notup_dK)
  exact ⟨_, DPut.k (k := kN k) q (by rw [h.length, sizeLine_eq]; omega), hb, ⟨_, upd_same, (h.snoc hn g).mono ht⟩, ht⟩

/-! ### what a comprehension makes of types -/
theorem yes_run {te : TE} {σ : L2.St} {H : Hp} {Q : VK} {N : Hp → Prop} (h : te σ H Q) : tYes σ H (fun b H3 => if b = true then te σ H3 Q else N H3) := iteT (A := te σ H Q) (B := N H) h
theorem lc_reps {a : Addr} {xs : List V} {ts : List Ty} {D : Addr} {σ : L2.St} {vs : List Nat} {j : Nat} {te : TE} {H1 : Hp} {Qd : Hp → Prop} {f : Ty → Ty} (hD : H1 D = none) (hx : SqT K H1 a xs) (hr : Reps K H1 xs ts) (hl : ts.length ≤ 1000)
    (hw : ∀ x, wipe ((wipe σ vs).set j (some x)) vs = wipe σ vs)
    (hs : ∀ (i : Nat) (x : V) (t : Ty) (H : Hp) (Q : VK), xs[i]? = some x → ts[i]? = some t → Same H1 H → Rep K H x t → (∀ y H', Same H H' → Rep K H' y (f t) → Q y H') → te ((wipe σ vs).set j (some x)) H Q)
    (hd : ∀ H' ys, Same H1 H' → H' D = some (.lst ys) → Reps K H' ys (ts.map f) → Qd H') :
    ∃ W : Nat → Nat → Hp → Prop, (∃ m, W 0 m (upd H1 D (.lst []))) ∧ ∀ i m H, W i m H →
      ((Itt K a).stop i H ∧ Qd H) ∨ ((Itt K a).go i H ∧ ∃ Nx : Hp → Prop, (∀ H', Nx H' → ∃ m', m' < m ∧ W (i + 1) m' H') ∧ ∀ x H', (Itt K a).yld i H x H' → gName j x (wipe σ vs) H' fun σ2 H2 => wipe σ2 vs = wipe σ vs ∧ tYes σ2 H2 fun b H3 =>
        if b = true then te σ2 H3 fun y H4 => ∃ acc, H4 D = some (.lst acc) ∧ acc.length < sizeLine ∧ Nx (upd H4 D (.lst (acc ++ [y]))) else Nx H3) := by
  have hxl := hr.length
  refine lc_tup (xs := xs) (fun i H => Same H1 H ∧ ∃ acc, H D = some (.lst acc) ∧ Reps K H acc ((ts.take i).map f)) ⟨same_new hD, [], upd_same, .nil⟩ (fun i H _ h => ?_) (fun i x H e h => ?_) fun H h => ?_
  · exact tst_seq (tst_same h.1) hx
  · obtain ⟨S, acc, hA, hR⟩ := h
    obtain ⟨t, et, ht⟩ := hr.at e
    refine ⟨hw x, yes_run ?_⟩
    refine hs i x t H _ e et S (ht.mono (tst_same S)) fun y H' S' hy => ?_
    have hn : t ∈ ts := List.mem_of_getElem? et
    have acl := hR.length
    rw [List.length_map, List.length_take] at acl
    refine ⟨acc, S' _ _ hA, by rw [acl, sizeLine_eq]; omega, same_mut (same_trans S S') hD, acc ++ [y], upd_same, ?_⟩
    have T : Tst H' (upd H' D (.lst (acc ++ [y]))) := tst_but (but_upd _) (by rw [S' _ _ hA]; exact notup_lst)
    rw [List.take_add_one, et, List.map_append]
    exact Reps.append ((hR.mono (tst_same S')).mono T) (.cons (hy.mono T) .nil)
  · obtain ⟨S, acc, hA, hR⟩ := h
    rw [hxl, List.take_length] at hR
    exact hd H acc S hA hR

/-! ### opened -/
def spOpen (K : PySem.W.Frag) (n : Nat) : Sp := fun vs H Q _ => ∃ v t d G raw tri m, vs = [v, .ref d] ∧ Rep K H v t ∧ wf t ∧ TolD K H d raw ∧ Lnk G raw tri ∧ (∀ t, G t → wf t) ∧ Rk raw m t ∧ depth (ap tri t) + m ≤ n ∧ ∀ u H', Same H H' → Rep K H' u (ap tri t) → Q u H'
theorem made_map {t : Ty} {r : Told} (h : ∀ k, t ≠ .var false k) : made t ((kids t).map (ap r)) = ap r t := by
  cases t with
  | var p k =>
    cases p with
    | false => exact absurd rfl (h k)
    | true => rw [ap_par]; rfl
  | node l ks => rw [ap_node]; rfl
theorem word_var {p : Bool} {k : Nat} : word (.var p k) = varW p := rfl
theorem is_unknown {t : Ty} (h : word t = "unknown") : ∃ k, t = .var false k := by
  cases t with
  | var p k =>
    have : p = false := varW_inj (p := p) (q := false) h
    subst this
    exact ⟨k, rfl⟩
  | node l ks => exact absurd h fun e => varW_labW (p := false) (l := l) e.symm
theorem not_unknown {t : Ty} (h : word t ≠ "unknown") : ∀ k, t ≠ .var false k := fun k e => h (by subst e; rfl)
theorem kids_ok {t u : Ty} (hw : wf t) (hu : u ∈ kids t) : wf u := by
  cases t with
  | var p k => cases hu
  | node l ks => exact (wf_node.mp hw).2 u hu
theorem kids_len {t : Ty} (hw : wf t) : (kids t).length ≤ 4 := by
  cases t with
  | var p k => exact Nat.zero_le _
  | node l ks => exact wf_len hw
theorem kids_rk {raw : Told} {t u : Ty} {m : Nat} (h : Rk raw m t) (hu : u ∈ kids t) : Rk raw m u := by
  cases t with
  | var p k => cases hu
  | node l ks => exact h.kid hu
theorem kids_dep {tri : Told} {t u : Ty} (hu : u ∈ kids t) : depth (ap tri u) < depth (ap tri t) := by
  cases t with
  | var p k => cases hu
  | node l ks => rw [ap_node]; exact depth_kid (List.mem_map_of_mem hu)
theorem ok_opened (D : Defs K mg) : ∀ n, FnOk P w K mg base CX0 (n + 1 + 1) D.opened.a D.opened.fd ["one", "told"] (spOpen K n) := by
  have G_loose_within := ok_loose_within (P := P) (w := w) (base := base) D
  have G_made_with := ok_made_with (P := P) (w := w) (base := base) D
  refine fn_rec (fun n vs H Q E h => ?_) fun n G_opened => ?_
  · obtain ⟨v, t, d, G, raw, tri, m, rfl, _⟩ := h
    rfl
  have sc := sc_opened
  refine D.opened.F.ok sc (fun vs H Q E h => ?_) (fun cdv A outer s H vs Q E hr h => ?_)
  · obtain ⟨v, t, d, G, raw, tri, m, rfl, _⟩ := h
    rfl
  obtain ⟨v, t, d, G, raw, tri, m, rfl, h, hw, hT, L, hG, hm, hn, q⟩ := h
  refine ⟨_, (pss_cons (ps_if (pt_cmpR (op_eqG (room_eq hr)) (pe_ix ix_tup (pv 0) pe_int (fun _ _ => rfl)) pe_str (nomark _)) (pss_one (ps_ret (pe_ifExp (pt_cmp (pc_din (hu_of hr) (pe_ix ix_tup (pv 0) pe_int (fun _ _ => rfl)) (pv 1))) (pcall D.opened G_opened (hr.mono (by omega)) (by rfl) (pa_cons (pe_dget (hu_of hr) (pv 1) (pe_ix ix_tup (pv 0) pe_int (fun _ _ => rfl)) (fun _ _ => rfl)) (pa_cons (pv 1) pa_nil))) (pv 0)))) pss_nil)
      (pss_one (ps_ret (pcall D.made_with G_made_with (hr.mono (by omega)) (by rfl) (pa_cons (pv 0) (pa_cons (pe_callTy call_tuple_of (by rfl) D.z_tuple (by decide +kernel) (pa_cons (pe_lc (own := [("late", 2)]) rfl sc.nd (pi_tup (pcall D.loose_within G_loose_within (hr.mono (by omega)) (by rfl) (pa_cons (pv 0) pa_nil))) (blkOk_by (own := [("late", 2)]) (N := ["one", "told", "late"]) (sc := defScope s_opened) (by decide +kernel)) (fun _ _ _ _ _ => (pg_name (i := 2) sc.nd rfl (Or.inl rfl))) (fun _ _ _ _ _ => pts_nil) (fun _ _ _ _ _ => (pcall D.opened G_opened (hr.mono (by omega)) (by rfl) (pa_cons (pv 2) (pa_cons (pv 1) pa_nil))))) pa_nil)) pa_nil)))))), ?_⟩
  by_cases e1 : word t = "unknown"
  · refine t_wordT rfl h l_unknown e1 ?_
    refine iteT ?_
    obtain ⟨k, rfl⟩ := is_unknown e1
    obtain ⟨a, rfl, hS⟩ := h.var
    cases e : raw.lookup k with
    | none =>
      refine ⟨_, rfl, _, _, 1, _, rfl, rfl, hS, atI_nat (j := 1) rfl, _, rfl, d, none, rfl, hT.no e, _, rfl, iteF ?_⟩
      exact ⟨_, rfl, q _ H (fun _ _ z => z) (by rw [L.look_no e]; exact h)⟩
    | some u =>
      obtain ⟨x, g, hx⟩ := hT.yes e
      refine ⟨_, rfl, _, _, 1, _, rfl, rfl, hS, atI_nat (j := 1) rfl, _, rfl, d, some x, rfl, g, _, rfl, iteT ?_⟩
      obtain ⟨m', rfl, hm'⟩ := hm.next e
      refine ⟨_, rfl, _, rfl, _, _, 1, _, rfl, rfl, hS, atI_nat (j := 1) rfl, d, x, rfl, g, _, rfl, n - 1, by omega, x, u, d, G, raw, tri, m', rfl, hx, hG u (L.old _ (look_mem e)), hT, L, hG, hm', ?_, ?_⟩
      · rw [← L.look e]; omega
      · intro y H' S hy
        exact q y H' S (by rw [L.look e]; exact hy)
  refine t_wordF rfl h l_unknown e1 ?_
  refine iteF ?_
  refine ⟨_, rfl, _, rfl, v, t, rfl, h, hw, fun b ks H1 S1 hS hR => ⟨b, rfl, ⟨ks, hS⟩, fun L1 hL1 => ?_⟩⟩
  refine lc_reps (f := ap tri) hL1 hS hR (by have := kids_len hw; omega) (fun x => rfl) (fun i x u H2 Q2 ex eu S2 hx hy => ?_) fun H2 ys S2 hL hR2 => ?_
  · have hu : u ∈ kids t := List.mem_of_getElem? eu
    refine ⟨_, rfl, _, rfl, n - 1, by have := kids_dep (tri := tri) hu; omega, x, u, d, G, raw, tri, m, rfl, hx, kids_ok hw hu, hT.same (same_trans S1 S2), L, hG, kids_rk hm hu, by have := kids_dep (tri := tri) hu; omega, hy⟩
  · refine ⟨_, ys, rfl, .inl ⟨.inl (.inl hL), fun c hc => ?_⟩⟩
    have S3 := same_new (H := H2) (p := c) (o := .tup ys) hc
    have S := same_trans S1 (same_trans S2 S3)
    refine ⟨v, t, c, ys, _, rfl, h.mono (tst_same S), hw, .inl (.inl upd_same), hR2.mono (tst_same S3), List.length_map _, fun a H4 S4 hy => ?_⟩
    exact q _ H4 (same_trans S S4) (by rw [← made_map (not_unknown e1)]; exact hy)
end
end UW

/-! with_unknowns, the law's open and put. -/
namespace UW
open PySem PySem.Spec PyProof.Rows L2 U UV UD UX
section
variable {P : Program} {w : World} {K : PySem.W.Frag} {mg : Str → Option Value} {base : Heap}

def spPut (K : PySem.W.Frag) (n : Nat) : Sp := fun vs H Q _ => ∃ v t d r, vs = [v, .ref d] ∧ Rep K H v t ∧ wf t ∧ TolD K H d r ∧ depth t ≤ n ∧ ∀ u H', Same H H' → Rep K H' u (put false (lk false r) t) → Q u H'
theorem made_put {t : Ty} {σ : Nat → Ty} (h : ∀ k, t ≠ .var false k) : made t ((kids t).map (put false σ)) = put false σ t := by
  cases t with
  | var p k =>
    cases p with
    | false => exact absurd rfl (h k)
    | true => rw [put_other _ _ (by decide)]; rfl
  | node l ks => rw [put_node]; rfl
theorem kids_depth {t u : Ty} (hu : u ∈ kids t) : depth u < depth t := by
  cases t with
  | var p k => cases hu
  | node l ks => exact depth_kid hu
theorem ok_with_unknowns (D : Defs K mg) : ∀ n, FnOk P w K mg base CX0 (n + 1 + 1) D.with_unknowns.a D.with_unknowns.fd ["one", "types"] (spPut K n) := by
  have G_loose_within := ok_loose_within (P := P) (w := w) (base := base) D
  have G_made_with := ok_made_with (P := P) (w := w) (base := base) D
  refine fn_rec (fun n vs H Q E h => ?_) fun n G_with_unknowns => ?_
  · obtain ⟨v, t, d, r, rfl, _⟩ := h
    rfl
  have sc := sc_with_unknowns
  refine D.with_unknowns.F.ok sc (fun vs H Q E h => ?_) (fun cdv A outer s H vs Q E hr h => ?_)
  · obtain ⟨v, t, d, r, rfl, _⟩ := h
    rfl
  obtain ⟨v, t, d, r, rfl, h, hw, hT, hn, q⟩ := h
  refine ⟨_, (pss_cons (ps_if (pt_cmpR (op_eqG (room_eq hr)) (pe_ix ix_tup (pv 0) pe_int (fun _ _ => rfl)) pe_str (nomark _)) (pss_one (ps_ret (pe_dget2 (hu_of hr) (pv 1) (pe_ix ix_tup (pv 0) pe_int (fun _ _ => rfl)) (pv 0) ⟨rfl, rfl, rfl, rfl⟩))) pss_nil)
      (pss_one (ps_ret (pcall D.made_with G_made_with (hr.mono (by omega)) (by rfl) (pa_cons (pv 0) (pa_cons (pe_callTy call_tuple_of (by rfl) D.z_tuple (by decide +kernel) (pa_cons (pe_lc (own := [("late", 2)]) rfl sc.nd (pi_tup (pcall D.loose_within G_loose_within (hr.mono (by omega)) (by rfl) (pa_cons (pv 0) pa_nil))) (blkOk_by (own := [("late", 2)]) (N := ["one", "types", "late"]) (sc := defScope s_with_unknowns) (by decide +kernel)) (fun _ _ _ _ _ => (pg_name (i := 2) sc.nd rfl (Or.inl rfl))) (fun _ _ _ _ _ => pts_nil) (fun _ _ _ _ _ => (pcall D.with_unknowns G_with_unknowns (hr.mono (by omega)) (by rfl) (pa_cons (pv 2) (pa_cons (pv 1) pa_nil))))) pa_nil)) pa_nil)))))), ?_⟩
  by_cases e1 : word t = "unknown"
  · refine t_wordT rfl h l_unknown e1 ?_
    refine iteT ?_
    obtain ⟨k, rfl⟩ := is_unknown e1
    obtain ⟨a, rfl, hS⟩ := h.var
    rw [put_var] at q
    cases e : r.lookup k with
    | none =>
      refine ⟨_, rfl, d, rfl, hT.isD, _, rfl, _, _, 1, _, rfl, rfl, hS, atI_nat (j := 1) rfl, _, rfl, none, hT.no e, ?_⟩
      exact q _ H (fun _ _ z => z) (by unfold lk; rw [e]; exact h)
    | some u =>
      obtain ⟨x, g, hx⟩ := hT.yes e
      refine ⟨_, rfl, d, rfl, hT.isD, _, rfl, _, _, 1, _, rfl, rfl, hS, atI_nat (j := 1) rfl, _, rfl, some x, g, ?_⟩
      exact q _ H (fun _ _ z => z) (by unfold lk; rw [e]; exact hx)
  refine t_wordF rfl h l_unknown e1 ?_
  refine iteF ?_
  refine ⟨_, rfl, _, rfl, v, t, rfl, h, hw, fun b ks H1 S1 hS hR => ⟨b, rfl, ⟨ks, hS⟩, fun L1 hL1 => ?_⟩⟩
  refine lc_reps (f := put false (lk false r)) hL1 hS hR (by have := kids_len hw; omega) (fun x => rfl) (fun i x u H2 Q2 ex eu S2 hx hy => ?_) fun H2 ys S2 hL hR2 => ?_
  · have hu : u ∈ kids t := List.mem_of_getElem? eu
    refine ⟨_, rfl, _, rfl, n - 1, by have := kids_depth hu; omega, x, u, d, r, rfl, hx, kids_ok hw hu, hT.same (same_trans S1 S2), by have := kids_depth hu; omega, hy⟩
  · refine ⟨_, ys, rfl, .inl ⟨.inl (.inl hL), fun c hc => ?_⟩⟩
    have S3 := same_new (H := H2) (p := c) (o := .tup ys) hc
    have S := same_trans S1 (same_trans S2 S3)
    refine ⟨v, t, c, ys, _, rfl, h.mono (tst_same S), hw, .inl (.inl upd_same), hR2.mono (tst_same S3), List.length_map _, fun a H4 S4 hy => ?_⟩
    exact q _ H4 (same_trans S S4) (by rw [← made_put (not_unknown e1)]; exact hy)
theorem ok_law_put (D : Defs K mg) : ∀ n, FnOk P w K mg base CX0 (n + 1 + 1) D.law_put.a D.law_put.fd ["_law_one", "_law_some"] (spPut K n) := by
  have G_law_within := ok_law_within (P := P) (w := w) (base := base) D
  have G_law_made := ok_law_made (P := P) (w := w) (base := base) D
  refine fn_rec (fun n vs H Q E h => ?_) fun n G_law_put => ?_
  · obtain ⟨v, t, d, r, rfl, _⟩ := h
    rfl
  have sc := sc_law_put
  refine D.law_put.F.ok sc (fun vs H Q E h => ?_) (fun cdv A outer s H vs Q E hr h => ?_)
  · obtain ⟨v, t, d, r, rfl, _⟩ := h
    rfl
  obtain ⟨v, t, d, r, rfl, h, hw, hT, hn, q⟩ := h
  refine ⟨_, (pss_cons (ps_if (pt_cmpR (op_eqG (room_eq hr)) (pe_ix ix_tup (pv 0) pe_int (fun _ _ => rfl)) pe_str (nomark _)) (pss_one (ps_ret (pe_dget2 (hu_of hr) (pv 1) (pe_ix ix_tup (pv 0) pe_int (fun _ _ => rfl)) (pv 0) ⟨rfl, rfl, rfl, rfl⟩))) pss_nil)
      (pss_one (ps_ret (pcall D.law_made G_law_made (hr.mono (by omega)) (by rfl) (pa_cons (pv 0) (pa_cons (pe_lc (own := [("_law_late", 2)]) rfl sc.nd (pi_tup (pcall D.law_within G_law_within (hr.mono (by omega)) (by rfl) (pa_cons (pv 0) pa_nil))) (blkOk_by (own := [("_law_late", 2)]) (N := ["_law_one", "_law_some", "_law_late"]) (sc := defScope s_law_put) (by decide +kernel)) (fun _ _ _ _ _ => (pg_name (i := 2) sc.nd rfl (Or.inl rfl))) (fun _ _ _ _ _ => pts_nil) (fun _ _ _ _ _ => (pcall D.law_put G_law_put (hr.mono (by omega)) (by rfl) (pa_cons (pv 2) (pa_cons (pv 1) pa_nil))))) pa_nil)))))), ?_⟩
  by_cases e1 : word t = "unknown"
  · refine t_wordT rfl h l_unknown e1 ?_
    refine iteT ?_
    obtain ⟨k, rfl⟩ := is_unknown e1
    obtain ⟨a, rfl, hS⟩ := h.var
    rw [put_var] at q
    cases e : r.lookup k with
    | none =>
      refine ⟨_, rfl, d, rfl, hT.isD, _, rfl, _, _, 1, _, rfl, rfl, hS, atI_nat (j := 1) rfl, _, rfl, none, hT.no e, ?_⟩
      exact q _ H (fun _ _ z => z) (by unfold lk; rw [e]; exact h)
    | some u =>
      obtain ⟨x, g, hx⟩ := hT.yes e
      refine ⟨_, rfl, d, rfl, hT.isD, _, rfl, _, _, 1, _, rfl, rfl, hS, atI_nat (j := 1) rfl, _, rfl, some x, g, ?_⟩
      exact q _ H (fun _ _ z => z) (by unfold lk; rw [e]; exact hx)
  refine t_wordF rfl h l_unknown e1 ?_
  refine iteF ?_
  refine ⟨_, rfl, _, rfl, v, t, rfl, h, hw, fun b ks H1 S1 hS hR => ⟨b, rfl, ⟨ks, hS⟩, fun L1 hL1 => ?_⟩⟩
  refine lc_reps (f := put false (lk false r)) hL1 hS hR (by have := kids_len hw; omega) (fun x => rfl) (fun i x u H2 Q2 ex eu S2 hx hy => ?_) fun H2 ys S2 hL hR2 => ?_
  · have hu : u ∈ kids t := List.mem_of_getElem? eu
    refine ⟨_, rfl, _, rfl, n - 1, by have := kids_depth hu; omega, x, u, d, r, rfl, hx, kids_ok hw hu, hT.same (same_trans S1 S2), by have := kids_depth hu; omega, hy⟩
  · have S := same_trans S1 S2
    refine ⟨v, t, _, ys, _, rfl, h.mono (tst_same S), hw, .inl (.inl hL), hR2, List.length_map _, fun a H4 S4 hy => ?_⟩
    exact q _ H4 (same_trans S S4) (by rw [← made_put (not_unknown e1)]; exact hy)
def spLOpen (K : PySem.W.Frag) (n : Nat) : Sp := fun vs H Q _ => ∃ v t d G raw tri m, vs = [.ref d, v] ∧ Rep K H v t ∧ wf t ∧ TolD K H d raw ∧ Lnk G raw tri ∧ (∀ t, G t → wf t) ∧ Rk raw m t ∧ depth (ap tri t) + m ≤ n ∧ ∀ u H', Same H H' → Rep K H' u (ap tri t) → Q u H'
theorem ok_law_open (D : Defs K mg) : ∀ n, FnOk P w K mg base CX0 (n + 1 + 1) D.law_open.a D.law_open.fd ["_law_told", "_law_one"] (spLOpen K n) := by
  have G_law_within := ok_law_within (P := P) (w := w) (base := base) D
  have G_law_made := ok_law_made (P := P) (w := w) (base := base) D
  refine fn_rec (fun n vs H Q E h => ?_) fun n G_law_open => ?_
  · obtain ⟨v, t, d, G, raw, tri, m, rfl, _⟩ := h
    rfl
  have sc := sc_law_open
  refine D.law_open.F.ok sc (fun vs H Q E h => ?_) (fun cdv A outer s H vs Q E hr h => ?_)
  · obtain ⟨v, t, d, G, raw, tri, m, rfl, _⟩ := h
    rfl
  obtain ⟨v, t, d, G, raw, tri, m, rfl, h, hw, hT, L, hG, hm, hn, q⟩ := h
  refine ⟨_, (pss_cons (ps_if (pt_cmpR (op_eqG (room_eq hr)) (pe_ix ix_tup (pv 1) pe_int (fun _ _ => rfl)) pe_str (nomark _)) (pss_one (ps_ret (pe_ifExp (pt_cmp (pc_din (hu_of hr) (pe_ix ix_tup (pv 1) pe_int (fun _ _ => rfl)) (pv 0))) (pcall D.law_open G_law_open (hr.mono (by omega)) (by rfl) (pa_cons (pv 0) (pa_cons (pe_dget (hu_of hr) (pv 0) (pe_ix ix_tup (pv 1) pe_int (fun _ _ => rfl)) (fun _ _ => rfl)) pa_nil))) (pv 1)))) pss_nil)
      (pss_one (ps_ret (pcall D.law_made G_law_made (hr.mono (by omega)) (by rfl) (pa_cons (pv 1) (pa_cons (pe_lc (own := [("_law_late", 2)]) rfl sc.nd (pi_tup (pcall D.law_within G_law_within (hr.mono (by omega)) (by rfl) (pa_cons (pv 1) pa_nil))) (blkOk_by (own := [("_law_late", 2)]) (N := ["_law_told", "_law_one", "_law_late"]) (sc := defScope s_law_open) (by decide +kernel)) (fun _ _ _ _ _ => (pg_name (i := 2) sc.nd rfl (Or.inl rfl))) (fun _ _ _ _ _ => pts_nil) (fun _ _ _ _ _ => (pcall D.law_open G_law_open (hr.mono (by omega)) (by rfl) (pa_cons (pv 0) (pa_cons (pv 2) pa_nil))))) pa_nil)))))), ?_⟩
  by_cases e1 : word t = "unknown"
  · refine t_wordT rfl h l_unknown e1 ?_
    refine iteT ?_
    obtain ⟨k, rfl⟩ := is_unknown e1
    obtain ⟨a, rfl, hS⟩ := h.var
    cases e : raw.lookup k with
    | none =>
      refine ⟨_, rfl, _, _, 1, _, rfl, rfl, hS, atI_nat (j := 1) rfl, _, rfl, d, none, rfl, hT.no e, _, rfl, iteF ?_⟩
      exact ⟨_, rfl, q _ H (fun _ _ z => z) (by rw [L.look_no e]; exact h)⟩
    | some u =>
      obtain ⟨x, g, hx⟩ := hT.yes e
      refine ⟨_, rfl, _, _, 1, _, rfl, rfl, hS, atI_nat (j := 1) rfl, _, rfl, d, some x, rfl, g, _, rfl, iteT ?_⟩
      obtain ⟨m', rfl, hm'⟩ := hm.next e
      refine ⟨_, rfl, _, rfl, _, rfl, _, _, 1, _, rfl, rfl, hS, atI_nat (j := 1) rfl, d, x, rfl, g, n - 1, by omega, x, u, d, G, raw, tri, m', rfl, hx, hG u (L.old _ (look_mem e)), hT, L, hG, hm', ?_, ?_⟩
      · rw [← L.look e]; omega
      · intro y H' S hy
        exact q y H' S (by rw [L.look e]; exact hy)
  refine t_wordF rfl h l_unknown e1 ?_
  refine iteF ?_
  refine ⟨_, rfl, _, rfl, v, t, rfl, h, hw, fun b ks H1 S1 hS hR => ⟨b, rfl, ⟨ks, hS⟩, fun L1 hL1 => ?_⟩⟩
  refine lc_reps (f := ap tri) hL1 hS hR (by have := kids_len hw; omega) (fun x => rfl) (fun i x u H2 Q2 ex eu S2 hx hy => ?_) fun H2 ys S2 hL hR2 => ?_
  · have hu : u ∈ kids t := List.mem_of_getElem? eu
    refine ⟨_, rfl, _, rfl, n - 1, by have := kids_dep (tri := tri) hu; omega, x, u, d, G, raw, tri, m, rfl, hx, kids_ok hw hu, hT.same (same_trans S1 S2), L, hG, kids_rk hm hu, by have := kids_dep (tri := tri) hu; omega, hy⟩
  · have S := same_trans S1 S2
    refine ⟨v, t, _, ys, _, rfl, h.mono (tst_same S), hw, .inl (.inl hL), hR2, List.length_map _, fun a H4 S4 hy => ?_⟩
    exact q _ H4 (same_trans S S4) (by rw [← made_map (not_unknown e1)]; exact hy)
end
end UW

/-! numbers_in and the law's own; sizes. -/
namespace UW
open PySem PySem.Spec PyProof.Rows L2 U UV UD UX
section
variable {P : Program} {w : World} {K : PySem.W.Frag} {mg : Str → Option Value} {base : Heap}

abbrev nV (k : Nat) : V := .int (k : Int)
theorem nV_inj {a b : Nat} (h : nV a = nV b) : a = b := by injection h with h; omega
theorem eqV_nV (a b : Nat) : eqV (nV a) (nV b) = decide (a = b) := by
  by_cases e : a = b
  · subst e; rw [decide_eq_true rfl]; show ((a : Int) == (a : Int)) = true; simp
  · rw [decide_eq_false e]; show ((a : Int) == (b : Int)) = false; simp; omega
theorem inV_nums (k : Nat) : ∀ l : List Nat, inV (nV k) (l.map nV) = l.contains k
  | [] => rfl
  | a :: l => by
    have ih := inV_nums k l
    unfold inV at ih ⊢
    rw [List.map_cons, List.any_cons, ih, eqV_nV, List.contains_cons]
    congr 1
    rw [Bool.beq_eq_decide_eq]
    exact decide_eq_decide.mpr eq_comm
theorem flat_nums (l : List Nat) : (l.map nV).all flatV = true := by
  rw [List.all_eq_true]
  intro x hx
  obtain ⟨k, _, rfl⟩ := List.mem_map.mp hx
  rfl
/-- [n for n in L1 if n not in found] -/
theorem lc_filter {a F : Addr} {ns acc : List Nat} {D : Addr} {σ : L2.St} {vs : List Nat} {j i : Nat} {H1 : Hp} {Qd : Hp → Prop} (hD : H1 D = none) (hx : H1 a = some (.lst (ns.map nV))) (hF : SqL K H1 F (acc.map nV)) (hl : ns.length ≤ 1000)
    (hw : ∀ x, wipe ((wipe σ vs).set j (some x)) vs = wipe σ vs) (hj : ∀ x, ((wipe σ vs).set j (some x))[j]? = some (some x)) (hi : ∀ x, ((wipe σ vs).set j (some x))[i]? = some (some (.ref F)))
    (hd : ∀ H', Same H1 H' → H' D = some (.lst ((ns.filter fun n => !acc.contains n).map nV)) → Qd H') :
    ∃ W : Nat → Nat → Hp → Prop, (∃ m, W 0 m (upd H1 D (.lst []))) ∧ ∀ i' m H, W i' m H →
      ((Itl K a).stop i' H ∧ Qd H) ∨ ((Itl K a).go i' H ∧ ∃ Nx : Hp → Prop, (∀ H', Nx H' → ∃ m', m' < m ∧ W (i' + 1) m' H') ∧ ∀ x H', (Itl K a).yld i' H x H' → gName j x (wipe σ vs) H' fun σ2 H2 => wipe σ2 vs = wipe σ vs ∧ tTest (tOp (rIn K true) (tVar j) (tVar i)) σ2 H2 fun b H3 =>
        if b = true then tVar j σ2 H3 fun y H4 => ∃ acc, H4 D = some (.lst acc) ∧ acc.length < sizeLine ∧ Nx (upd H4 D (.lst (acc ++ [y]))) else Nx H3) := by
  refine lc_list (xs := ns.map nV) (fun i H => Same H1 H ∧ H D = some (.lst (((ns.take i).filter fun n => !acc.contains n).map nV))) ⟨same_new hD, upd_same⟩ (fun i H _ h => ?_) (fun i' x H e h => ?_) fun H h => ?_
  · exact .inl (.inl (h.1 _ _ hx))
  · obtain ⟨S, hA⟩ := h
    rw [List.getElem?_map] at e
    obtain ⟨k, ek, rfl⟩ := Option.map_eq_some_iff.mp e
    refine ⟨hw _, _, hj _, _, hi _, F, _, rfl, .inl (sql_same S hF), rfl, flat_nums acc, _, rfl, ?_⟩
    have tk : (ns.take (i' + 1)).filter (fun n => !acc.contains n) = (ns.take i').filter (fun n => !acc.contains n) ++ if (!acc.contains k) = true then [k] else [] := by
      rw [List.take_add_one, ek, List.filter_append]
      congr 1
      rw [show (some k).toList = [k] from rfl, List.filter_cons, List.filter_nil]
    rw [if_pos rfl, inV_nums]
    cases hc : acc.contains k with
    | true =>
      refine iteF ⟨S, ?_⟩
      rw [tk, hc, hA]
      simp
    | false =>
      refine iteT ⟨_, hj _, _, hA, ?_, ?_⟩
      · rw [List.length_map]
        have h1 := List.length_filter_le (fun n => !acc.contains n) (ns.take i')
        rw [List.length_take] at h1
        rw [sizeLine_eq]; omega
      · refine ⟨same_mut S hD, ?_⟩
        rw [upd_same, tk, hc, List.map_append]
        rfl
  · obtain ⟨S, hA⟩ := h
    rw [List.length_map, List.take_length] at hA
    exact hd H S hA
theorem numsL_snoc (p : Bool) (t : Ty) : ∀ (ts : List Ty) (acc : List Nat), numsL p acc (ts ++ [t]) = numsL p acc ts ++ (nums p t).filter fun n => !(numsL p acc ts).contains n
  | [], acc => by rw [List.nil_append, numsL, numsL, numsL]
  | u :: ts, acc => by rw [List.cons_append, numsL, numsL, numsL_snoc p t ts]
theorem nums_kids {p : Bool} {t : Ty} (h : ∀ k, t ≠ .var p k) : nums p t = numsL p [] (kids t) := by
  cases t with
  | var q k =>
    rw [nums, if_neg (fun e => h k (by rw [e]))]
    show [] = numsL p [] []
    rw [numsL]
  | node l ks => rw [nums]; rfl
/-- numbers below a thousand -/
def Few (p : Bool) (t : Ty) : Prop := ∀ k, occ p k t → k < 1000
theorem Few.len {p : Bool} {t : Ty} (h : Few p t) : (nums p t).length ≤ 1000 := nodup_lt 1000 _ (nodup_nums t) fun x hx => h x ((mem_nums t).mp hx)
theorem occ_kids {p : Bool} {k : Nat} {t u : Ty} (hu : u ∈ kids t) (h : occ p k u) : occ p k t := by
  cases t with
  | var q k => cases hu
  | node l ks => exact occ_node.mpr ⟨u, hu, h⟩
theorem Few.kid {p : Bool} {t u : Ty} (h : Few p t) (hu : u ∈ kids t) : Few p u := fun k hk => h k (occ_kids hu hk)
theorem Few.lenL {p : Bool} {t : Ty} (h : Few p t) (i : Nat) : (numsL p [] ((kids t).take i)).length ≤ 1000 := by
  refine nodup_lt 1000 _ (nodup_numsL _ _ (fun u _ => nodup_nums u) List.nodup_nil) fun x hx => ?_
  rcases (mem_numsL _ _ fun u _ => mem_nums u).mp hx with q | q
  · cases q
  · obtain ⟨u, hu, q⟩ := (occs_iff _ _ _).mp q
    exact h x (occ_kids (List.mem_of_mem_take hu) q)
def spNums (K : PySem.W.Frag) (n : Nat) : Sp := fun vs H Q _ => ∃ v t p, vs = [v, .str (varW p)] ∧ Rep K H v t ∧ wf t ∧ Few p t ∧ depth t ≤ n ∧ ∀ l H', Same H H' → H l = none → H' l = some (.lst ((nums p t).map nV)) → Q (.ref l) H'
theorem l_var (p : Bool) : PyData.canLay0 (.str (varW p)) = true := by cases p <;> decide +kernel
theorem is_var {t : Ty} {p : Bool} (h : word t = varW p) : ∃ k, t = .var p k := by
  cases t with
  | var q k => rw [varW_inj (p := q) (q := p) h]; exact ⟨k, rfl⟩
  | node l ks => exact absurd h fun e => varW_labW (p := p) (l := l) e.symm
theorem ok_numbers_in (D : Defs K mg) : ∀ n, FnOk P w K mg base CX0 (n + 1 + 1) D.numbers_in.a D.numbers_in.fd ["one", "word"] (spNums K n) := by
  have G_loose_within := ok_loose_within (P := P) (w := w) (base := base) D
  refine fn_rec (fun n vs H Q E h => ?_) fun n G_numbers_in => ?_
  · obtain ⟨v, t, p, rfl, _⟩ := h
    rfl
  have sc := sc_numbers_in
  refine D.numbers_in.F.ok sc (fun vs H Q E h => ?_) (fun cdv A outer s H vs Q E hr h => ?_)
  · obtain ⟨v, t, p, rfl, _⟩ := h
    rfl
  obtain ⟨v, t, p, rfl, h, hw, hf, hn, q⟩ := h
  refine ⟨_, (pss_cons (ps_if (pt_cmpR (op_eqG (room_eq hr)) (pe_ix ix_tup (pv 0) pe_int (fun _ _ => rfl)) (pv 1) (nomark _)) (pss_one (ps_ret (pe_lst (pa_cons (pe_ix ix_tup (pv 0) pe_int (fun _ _ => rfl)) pa_nil)))) pss_nil)
      (pss_cons (ps_set (i := 2) sc.nd rfl (Or.inr rfl) (pe_lst pa_nil))
      (pss_cons (ps_for PassesOwn.never rfl (pi_tup (pcall D.loose_within G_loose_within (hr.mono (by omega)) (by rfl) (pa_cons (pv 0) pa_nil))) (pg_name (i := 3) sc.nd rfl (Or.inl rfl)) (pss_one (ps_expr (pe_bm PySem.F.plainAttrs_list PySem.F.slot_list_extend PySem.F.type_list_extend mt_extend (pv 2) (pa_cons (pe_lc (own := [("number", 4)]) rfl sc.nd (pi_list (pcall D.numbers_in G_numbers_in (hr.mono (by omega)) (by rfl) (pa_cons (pv 3) (pa_cons (pv 1) pa_nil)))) (blkOk_by (own := [("number", 4)]) (N := ["one", "word", "found", "late", "number"]) (sc := defScope s_numbers_in) (by decide +kernel)) (fun _ _ _ _ _ => (pg_name (i := 4) sc.nd rfl (Or.inl rfl))) (fun _ _ _ _ _ => (pts_one (pt_cmpR (show OpR _ _ (rIn K true) from op_notIn_seq) (pv 4) (pv 2) (by rfl)))) (fun _ _ _ _ _ => (pv 4))) pa_nil)))))
      (pss_one (ps_ret (pv 2)))))), ?_⟩
  have tst : ∀ Q : Bool → Hp → Prop, Q (decide (word t = varW p)) H → tTest (tOp (rEqG K) (tOp (rIxT K) (tVar 0) (tC (.int 0))) (tVar 1)) (start ["one", "word", "found", "late", "number"] [v, .str (varW p)]) H Q := fun Q q =>
    q_word rfl h ⟨_, rfl, .str _, .str _, .str _, .str _, lay_word t, l_var p, Nat.zero_le _, _, rfl, by rw [eqv_str]; exact q⟩
  refine tst _ ?_
  by_cases e1 : word t = varW p
  · rw [decide_eq_true e1]
    refine iteT ?_
    obtain ⟨k, rfl⟩ := is_var e1
    obtain ⟨a, rfl, hS⟩ := h.var
    refine ⟨_, rfl, _, _, 1, _, rfl, rfl, hS, atI_nat (j := 1) rfl, Nat.le_of_ble_eq_true rfl, fun l hl => ?_⟩
    exact q l _ (same_new hl) hl (by rw [nums, if_pos rfl]; exact upd_same)
  rw [decide_eq_false e1]
  refine iteF ?_
  have hk : ∀ k, t ≠ .var p k := fun k z => e1 (by rw [z]; rfl)
  refine ⟨Nat.zero_le _, fun L hL => ?_⟩
  have S0 := same_new (H := H) (p := L) (o := .lst []) hL
  refine ⟨_, rfl, v, t, rfl, h.mono (tst_same S0), hw, fun b ks H1 S1 hS hR => ⟨b, rfl, ⟨ks, hS⟩, ?_⟩⟩
  have hkl := hR.length
  refine for_tup (xs := ks) (fun i σ H' => (∃ lv, σ = [some v, some (.str (varW p)), some (.ref L), lv, none]) ∧ Same H H' ∧ Tst H1 H' ∧ H' L = some (.lst ((numsL p [] ((kids t).take i)).map nV))) ?_ (fun i σ H' _ h => tst_seq h.2.2.1 hS) (fun i x σ H' e h => ?_) fun σ H' h => ?_
  · exact ⟨⟨none, rfl⟩, same_trans S0 S1, Tst.refl _, S1 _ _ upd_same⟩
  · obtain ⟨⟨lv, rfl⟩, S, T, hA⟩ := h
    obtain ⟨u, eu, hu⟩ := hR.at e
    have hm : u ∈ kids t := List.mem_of_getElem? eu
    refine ⟨_, rfl, .inl ⟨rfl, _, .inl (.inl hA)⟩, _, rfl, _, rfl, n - 1, by have := kids_depth hm; omega, x, u, p, rfl, hu.mono T, kids_ok hw hm, hf.kid hm, by have := kids_depth hm; omega, fun l H2 S2 hl0 hl => ⟨l, rfl, ⟨_, .inl (.inl hl)⟩, fun D2 hD2 => ?_⟩⟩
    refine lc_filter hD2 hl (.inl (.inl (S2 _ _ hA))) (hf.kid hm).len (fun x => rfl) (fun x => rfl) (fun x => rfl) fun H3 S3 h3 => ?_
    have hA3 := S3 _ _ (S2 _ _ hA)
    have tk : numsL p [] ((kids t).take (i + 1)) = numsL p [] ((kids t).take i) ++ (nums p u).filter fun n => !(numsL p [] ((kids t).take i)).contains n := by
      rw [List.take_add_one, eu, show (some u).toList = [u] from rfl, numsL_snoc]
    refine ⟨L, D2, _, _, rfl, rfl, hA3, h3, ?_, ⟨_, rfl⟩, same_mut (same_trans S (same_trans S2 S3)) hL, ?_, ?_⟩
    · rw [← List.length_append, ← List.map_append, ← tk, List.length_map]
      have := hf.lenL (i + 1)
      rw [sizeLine_eq]; omega
    · exact (T.trans (tst_same (same_trans S2 S3))).trans (tst_but (but_upd _) (by rw [hA3]; exact notup_lst))
    · rw [upd_same, tk, List.map_append]
  · obtain ⟨⟨lv, rfl⟩, S, T, hA⟩ := h
    rw [hkl, List.take_length, ← nums_kids hk] at hA
    exact ⟨_, rfl, q L H' S hL hA⟩
def spLNums (K : PySem.W.Frag) (n : Nat) : Sp := fun vs H Q _ => ∃ v t, vs = [v] ∧ Rep K H v t ∧ wf t ∧ Few false t ∧ depth t ≤ n ∧ ∀ l H', Same H H' → H l = none → H' l = some (.lst ((nums false t).map nV)) → Q (.ref l) H'
theorem ok_law_numbers (D : Defs K mg) : ∀ n, FnOk P w K mg base CX0 (n + 1 + 1) D.law_numbers.a D.law_numbers.fd ["_law_one"] (spLNums K n) := by
  have G_law_within := ok_law_within (P := P) (w := w) (base := base) D
  refine fn_rec (fun n vs H Q E h => ?_) fun n G_law_numbers => ?_
  · obtain ⟨v, t, rfl, _⟩ := h
    rfl
  have sc := sc_law_numbers
  refine D.law_numbers.F.ok sc (fun vs H Q E h => ?_) (fun cdv A outer s H vs Q E hr h => ?_)
  · obtain ⟨v, t, rfl, _⟩ := h
    rfl
  obtain ⟨v, t, rfl, h, hw, hf, hn, q⟩ := h
  refine ⟨_, (pss_cons (ps_set (i := 1) sc.nd rfl (Or.inr rfl) (pe_ifExp (pt_cmpR (op_eqG (room_eq hr)) (pe_ix ix_tup (pv 0) pe_int (fun _ _ => rfl)) pe_str (nomark _)) (pe_lst (pa_cons (pe_ix ix_tup (pv 0) pe_int (fun _ _ => rfl)) pa_nil)) (pe_lst pa_nil)))
      (pss_cons (ps_for PassesOwn.never rfl (pi_tup (pcall D.law_within G_law_within (hr.mono (by omega)) (by rfl) (pa_cons (pv 0) pa_nil))) (pg_name (i := 2) sc.nd rfl (Or.inl rfl)) (pss_one (ps_expr (pe_bm PySem.F.plainAttrs_list PySem.F.slot_list_extend PySem.F.type_list_extend mt_extend (pv 1) (pa_cons (pe_lc (own := [("_law_number", 3)]) rfl sc.nd (pi_list (pcall D.law_numbers G_law_numbers (hr.mono (by omega)) (by rfl) (pa_cons (pv 2) pa_nil))) (blkOk_by (own := [("_law_number", 3)]) (N := ["_law_one", "_law_found", "_law_late", "_law_number"]) (sc := defScope s_law_numbers) (by decide +kernel)) (fun _ _ _ _ _ => (pg_name (i := 3) sc.nd rfl (Or.inl rfl))) (fun _ _ _ _ _ => (pts_one (pt_cmpR (show OpR _ _ (rIn K true) from op_notIn_seq) (pv 3) (pv 1) (by rfl)))) (fun _ _ _ _ _ => (pv 3))) pa_nil)))))
      (pss_one (ps_ret (pv 1))))), ?_⟩
  have first : ∀ Qk : VK, (∀ (L : Addr) (pre : List Nat) (H0 : Hp), H L = none → Same H H0 → H0 L = some (.lst (pre.map nV)) → (kids t = [] ∧ pre = nums false t ∨ pre = [] ∧ nums false t = numsL false [] (kids t)) → Qk (.ref L) H0) →
      tIf (tTest (tOp (rEqG K) (tOp (rIxT K) (tVar 0) (tC (.int 0))) (tC (.str "unknown")))) (tLst (tCons (tOp (rIxT K) (tVar 0) (tC (.int 1))) tNil)) (tLst tNil) (start ["_law_one", "_law_found", "_law_late", "_law_number"] [v]) H Qk := by
    intro Qk main
    by_cases e1 : word t = "unknown"
    · refine t_wordT rfl h l_unknown e1 ?_
      refine iteT ?_
      obtain ⟨k, rfl⟩ := is_unknown e1
      obtain ⟨a, rfl, hS⟩ := h.var
      refine ⟨_, rfl, _, _, 1, _, rfl, rfl, hS, atI_nat (j := 1) rfl, Nat.le_of_ble_eq_true rfl, fun l hl => ?_⟩
      exact main l [k] _ hl (same_new hl) upd_same (.inl ⟨rfl, by rw [nums, if_pos rfl]⟩)
    refine t_wordF rfl h l_unknown e1 ?_
    refine iteF ?_
    refine ⟨Nat.zero_le _, fun L hL => ?_⟩
    exact main L [] _ hL (same_new hL) upd_same (.inr ⟨rfl, nums_kids (not_unknown e1)⟩)
  refine first _ fun L pre H0 hL S0 h0 hp => ?_
  refine ⟨_, rfl, v, t, rfl, h.mono (tst_same S0), hw, fun b ks H1 S1 hS hR => ⟨b, rfl, ⟨ks, hS⟩, ?_⟩⟩
  have hkl := hR.length
  refine for_tup (xs := ks) (fun i σ H' => (∃ lv, σ = [some v, some (.ref L), lv, none]) ∧ Same H H' ∧ Tst H1 H' ∧ H' L = some (.lst ((pre ++ numsL false [] ((kids t).take i)).map nV))) ?_ (fun i σ H' _ h => tst_seq h.2.2.1 hS) (fun i x σ H' e h => ?_) fun σ H' h => ?_
  · refine ⟨⟨none, rfl⟩, same_trans S0 S1, Tst.refl _, ?_⟩
    rw [List.take_zero, numsL, List.append_nil]
    exact S1 _ _ h0
  · obtain ⟨⟨lv, rfl⟩, S, T, hA⟩ := h
    obtain ⟨u, eu, hu⟩ := hR.at e
    have hm : u ∈ kids t := List.mem_of_getElem? eu
    rcases hp with ⟨z, _⟩ | ⟨rfl, _⟩
    · rw [z] at hm; cases hm
    refine ⟨_, rfl, .inl ⟨rfl, _, .inl (.inl hA)⟩, _, rfl, n - 1, by have := kids_depth hm; omega, x, u, rfl, hu.mono T, kids_ok hw hm, hf.kid hm, by have := kids_depth hm; omega, fun l H2 S2 hl0 hl => ⟨l, rfl, ⟨_, .inl (.inl hl)⟩, fun D2 hD2 => ?_⟩⟩
    refine lc_filter hD2 hl (.inl (.inl (S2 _ _ hA))) (hf.kid hm).len (fun x => rfl) (fun x => rfl) (fun x => rfl) fun H3 S3 h3 => ?_
    have hA3 := S3 _ _ (S2 _ _ hA)
    have tk : numsL false [] ((kids t).take (i + 1)) = numsL false [] ((kids t).take i) ++ (nums false u).filter fun n => !(numsL false [] ((kids t).take i)).contains n := by
      rw [List.take_add_one, eu, show (some u).toList = [u] from rfl, numsL_snoc]
    refine ⟨L, D2, _, _, rfl, rfl, hA3, h3, ?_, ⟨_, rfl⟩, same_mut (same_trans S (same_trans S2 S3)) hL, ?_, ?_⟩
    · rw [List.nil_append, ← List.length_append, ← List.map_append, ← tk, List.length_map]
      have := hf.lenL (i + 1)
      rw [sizeLine_eq]; omega
    · exact (T.trans (tst_same (same_trans S2 S3))).trans (tst_but (but_upd _) (by rw [hA3]; exact notup_lst))
    · rw [upd_same, tk, List.nil_append, List.nil_append, List.map_append]
  · obtain ⟨⟨lv, rfl⟩, S, T, hA⟩ := h
    rw [hkl, List.take_length] at hA
    refine ⟨_, rfl, q L H' S hL ?_⟩
    rw [hA]
    rcases hp with ⟨z, rfl⟩ | ⟨rfl, z⟩
    · rw [z, numsL, List.append_nil]
    · rw [List.nil_append, z]
end
end UW

/-! Small asks: numbers, lists, names. -/
namespace UW
open PySem PySem.Spec PyProof.Rows L2 U UV UD UX
section
variable {P : Program} {w : World} {K : PySem.W.Frag} {mg : Str → Option Value} {base : Heap}

theorem ty_tup {H : Hp} {a : Addr} {xs : List V} (h : SqT K H a xs) : TyX K H (.ref a) (.type "tuple") := by
  rcases h with (h | ⟨o, h⟩) | ⟨o, its, n, h, c, _⟩
  · exact .base (.tup h)
  · exact .fTuple h
  · exact .kTuple h c
theorem ty_lst {H : Hp} {a : Addr} {xs : List V} (h : SqL K H a xs) : TyX K H (.ref a) (.type "list") := by
  rcases h with (h | ⟨o, h⟩) | ⟨o, its, n, h, c, _⟩
  · exact .base (.lst h)
  · exact .base (.frz h)
  · exact .kList h c
theorem kit_int : kitB "int" "int" = some true := by decide +kernel
theorem kit_intb : kitB "int" "bool" = some false := by decide +kernel
theorem kit_str : kitB "str" "str" = some true := by decide +kernel
theorem kit_tup : kitB "tuple" "tuple" = some true := by decide +kernel
theorem kit_tupl : kitB "tuple" "list" = some false := by decide +kernel
theorem kit_lst : kitB "list" "list" = some true := by decide +kernel
def spInt : Sp := fun vs H Q _ => ∃ i : Int, vs = [.int i] ∧ Q (.bl true) H
theorem ok_is_integer (D : Defs K mg) : FnOk P w K mg base CX0 1 D.is_integer.a D.is_integer.fd ["value"] spInt := by
  have sc := sc_is_integer
  refine D.is_integer.F.ok sc (fun vs H Q E h => ?_) (fun cdv A outer s H vs Q E hr h => ?_)
  · obtain ⟨i, rfl, _⟩ := h
    rfl
  obtain ⟨i, rfl, q⟩ := h
  refine ⟨_, (pss_one (ps_ret (pe_and (pe_callB call_isi (by rfl) D.z_isinstance (by decide +kernel) (pa_cons (pv 0) (pa_cons (pe_bltn (v := .ty "int") (u := .type "int") (by rfl) D.z_int (by decide +kernel) rfl) pa_nil))) (pe_one (pe_not (pe_callB call_isi (by rfl) D.z_isinstance (by decide +kernel) (pa_cons (pv 0) (pa_cons (pe_bltn (v := .ty "bool") (u := .type "bool") (by rfl) D.z_bool (by decide +kernel) rfl) pa_nil)))))))), ?_⟩
  refine ⟨_, rfl, _, _, _, _, true, rfl, .ty "int", .base (.int i), kit_ty kit_int, _, rfl, iteT ?_⟩
  exact ⟨_, rfl, _, _, _, _, false, rfl, .ty "bool", .base (.int i), kit_ty kit_intb, _, rfl, q⟩
def spCount : Sp := fun vs H Q _ => ∃ i : Nat, vs = [nV i] ∧ Q (.bl true) H
theorem ok_is_count (D : Defs K mg) : FnOk P w K mg base CX0 2 D.is_count.a D.is_count.fd ["value"] spCount := by
  have G_is_integer := ok_is_integer (P := P) (w := w) (base := base) D
  have sc := sc_is_count
  refine D.is_count.F.ok sc (fun vs H Q E h => ?_) (fun cdv A outer s H vs Q E hr h => ?_)
  · obtain ⟨i, rfl, _⟩ := h
    rfl
  obtain ⟨i, rfl, q⟩ := h
  refine ⟨_, (pss_one (ps_ret (pe_and (pcall D.is_integer G_is_integer (hr.mono (by omega)) (by rfl) (pa_cons (pv 0) pa_nil)) (pe_one (pe_cmpR op_ge (pv 0) pe_int (nomark _)))))), ?_⟩
  refine ⟨_, rfl, _, rfl, _, rfl, iteT ?_⟩
  refine ⟨_, rfl, _, _, rfl, rfl, ?_⟩
  show Q (.bl (decide ((0 : Int) ≤ (i : Int)))) H
  rw [decide_eq_true (by omega)]
  exact q
def spList (K : PySem.W.Frag) : Sp := fun vs H Q _ => ∃ a xs, vs = [.ref a] ∧ (SqL K H a xs ∨ SqT K H a xs) ∧ ∀ H', Same H H' → Q (.bl true) H'
theorem ok_is_list (D : Defs K mg) : FnOk P w K mg base CX0 1 D.is_list.a D.is_list.fd ["value"] (spList K) := by
  have sc := sc_is_list
  refine D.is_list.F.ok sc (fun vs H Q E h => ?_) (fun cdv A outer s H vs Q E hr h => ?_)
  · obtain ⟨a, xs, rfl, _⟩ := h
    rfl
  obtain ⟨a, xs, rfl, h, q⟩ := h
  refine ⟨_, (pss_one (ps_ret (pe_callB call_isiT (by rfl) D.z_isinstance (by decide +kernel) (pa_cons (pv 0) (pa_cons (pe_tup (pa_cons (pe_bltn (v := .ty "list") (u := .type "list") (by rfl) D.z_list (by decide +kernel) rfl) (pa_cons (pe_bltn (v := .ty "tuple") (u := .type "tuple") (by rfl) D.z_tuple (by decide +kernel) rfl) pa_nil))) pa_nil))))), ?_⟩
  refine ⟨_, rfl, Nat.le_of_ble_eq_true rfl, fun p hp => ?_⟩
  have S := same_new (H := H) (p := p) (o := .tup [.ty "list", .ty "tuple"]) hp
  have kit : ∀ t, (t = "list" ∨ t = "tuple") → PySem.W.kitAny K (.type t) [.type "list", .type "tuple"] = some true := by
    rintro t (rfl | rfl)
    · exact kitAny_cons (kit_ty kit_lst) (fun z => (nomatch z)) (fun _ => rfl)
    · exact kitAny_cons (kit_ty kit_tupl) (fun _ => kitAny_cons (kit_ty kit_tup) (fun z => (nomatch z)) (fun _ => rfl)) (fun z => (nomatch z))
  rcases h with h | h
  · exact ⟨_, p, _, .type "list", _, true, rfl, upd_same, .cons (.ty "list") (.cons (.ty "tuple") .nil), ty_lst (sql_same S h), kit _ (.inl rfl), q _ S⟩
  · exact ⟨_, p, _, .type "tuple", _, true, rfl, upd_same, .cons (.ty "list") (.cons (.ty "tuple") .nil), ty_tup (tst_seq (tst_same S) h), kit _ (.inr rfl), q _ S⟩

theorem iteB1 {b : Bool} {A B : Prop} (e : b = true) (h : A) : if b = true then A else B := by rw [if_pos e]; exact h
theorem iteB0 {b : Bool} {A B : Prop} (e : b = false) (h : B) : if b = true then A else B := by rw [e]; exact iteF h
/-! ### names -/
def inS (c f : Str) : Bool := !(Builtin.Str.occurrences f c 0 f.length 1).isEmpty
def SM : Str := "abcdefghijklmnopqrstuvwxyz"
def GR : Str := "ABCDEFGHIJKLMNOPQRSTUVWXYZ"
def DG : Str := "0123456789"
/-- a text of 1 to 20 good signs that begins with one of f -/
structure GoodS (x f : Str) : Prop where
  l1 : 1 ≤ x.length
  l2 : x.length ≤ 20
  hd : ∃ c, x.cps.toList[0]? = some c ∧ inS ⟨#[c]⟩ f = true
  all : ∀ (i : Nat) (c : Nat), x.cps[i]? = some c → (inS ⟨#[c]⟩ SM || (inS ⟨#[c]⟩ GR || inS ⟨#[c]⟩ DG)) = true
def spLett : Sp := fun vs H Q _ => ∃ x f : Str, vs = [.str x, .str f] ∧ GoodS x f ∧ ∀ H', Same H H' → Q (.bl true) H'
theorem ok_is_lettered (D : Defs K mg) : FnOk P w K mg base CX0 1 D.is_lettered.a D.is_lettered.fd ["value", "firsts"] spLett := by
  have sc := sc_is_lettered
  refine D.is_lettered.F.ok sc (fun vs H Q E h => ?_) (fun cdv A outer s H vs Q E hr h => ?_)
  · obtain ⟨x, f, rfl, _⟩ := h
    rfl
  obtain ⟨x, f, rfl, g, q⟩ := h
  refine ⟨_, (pss_cons (ps_if (PW.pt (pw_or (pt_not (pt_val (pe_callB call_isi (by rfl) D.z_isinstance (by decide +kernel) (pa_cons (pv 0) (pa_cons (pe_bltn (v := .ty "str") (u := .type "str") (by rfl) D.z_str (by decide +kernel) rfl) pa_nil))))) (pw_or (pt_not (pt_chain op_le op_le pe_int (pe_callB call_len_str (by rfl) D.z_len (by decide +kernel) (pa_cons (pv 0) pa_nil)) (pglobI (by rfl) D.c_MOST_LETTERS))) (pw_or1 (pt_cmpR op_notin_str (pe_ix ix_str (pv 0) pe_int (fun _ _ => rfl)) (pv 1) (by rfl)))))) (pss_one (ps_ret pe_bl)) pss_nil)
      (pss_one (ps_ret (pe_callB (cr_all rfl) (by rfl) D.z_all (by decide +kernel) (pa_cons (pe_lc (own := [("sign", 2)]) rfl sc.nd (pi_str (pv 0)) (blkOk_by (own := [("sign", 2)]) (N := ["value", "firsts", "sign"]) (sc := defScope s_is_lettered) (by decide +kernel)) (fun _ _ _ _ _ => (pg_name (i := 2) sc.nd rfl (Or.inl rfl))) (fun _ _ _ _ _ => pts_nil) (fun _ _ _ _ _ => (pe_or (pe_cmpR op_in_str (pv 2) (pglobS (by rfl) D.c_SMALL) (by rfl)) (pe_or (pe_cmpR op_in_str (pv 2) (pglobS (by rfl) D.c_GREAT) (by rfl)) (pe_one (pe_cmpR op_in_str (pv 2) (pglobS (by rfl) D.c_DIGITS) (by rfl))))))) pa_nil))))), ?_⟩
  obtain ⟨c, hc, hcf⟩ := g.hd
  have hz : x.length ≤ sizeLine := by have := g.l2; rw [sizeLine_eq]; omega
  refine ⟨_, rfl, _, _, _, _, true, rfl, .ty "str", .base (.str x), kit_ty kit_str, _, rfl, iteF ?_⟩
  refine ⟨_, rfl, x, rfl, hz, _, _, rfl, rfl, _, rfl, ?_⟩
  rw [decide_eq_true (by have := g.l1; omega : (1 : Int) ≤ (x.length : Int))]
  refine iteT ⟨_, _, rfl, rfl, _, rfl, ?_⟩
  rw [decide_eq_true (by have := g.l2; omega : (x.length : Int) ≤ 20)]
  refine iteF ?_
  refine ⟨_, rfl, x, _, c, rfl, rfl, hz, atI_nat (j := 0) hc, _, rfl, _, _, rfl, rfl, _, rfl, ?_⟩
  unfold inS at hcf
  rw [hcf]
  refine iteF ?_
  refine ⟨_, rfl, x, rfl, fun L hL => ?_⟩
  refine lc_it walk_str (fun i H' => Same H H' ∧ H' L = some (.lst (List.replicate i (.bl true)))) ⟨same_new hL, upd_same⟩ (fun _ _ _ _ => trivial) (fun i x' H1 H2 hi h y => ?_) fun H' h => ?_
  · obtain ⟨rfl, c, ec, rfl⟩ := y
    have all := g.all i c ec
    refine ⟨rfl, yes_run ?_⟩
    have fin : ∃ acc, H2 L = some (.lst acc) ∧ acc.length < sizeLine ∧ Same H (upd H2 L (.lst (acc ++ [.bl true]))) ∧ upd H2 L (.lst (acc ++ [.bl true])) L = some (.lst (List.replicate (i + 1) (.bl true))) :=
      ⟨_, h.2, by rw [List.length_replicate]; have := g.l2; have : i < x.length := hi; rw [sizeLine_eq]; omega, same_mut h.1 hL, by rw [upd_same, List.replicate_succ']⟩
    refine ⟨_, rfl, _, _, rfl, rfl, _, rfl, ?_⟩
    cases e1 : inS ⟨#[c]⟩ SM with
    | true => exact iteB1 e1 fin
    | false =>
      refine iteB0 e1 ⟨_, rfl, _, _, rfl, rfl, _, rfl, ?_⟩
      cases e2 : inS ⟨#[c]⟩ GR with
      | true => exact iteB1 e2 fin
      | false =>
        refine iteB0 e2 ⟨_, rfl, _, _, rfl, rfl, ?_⟩
        rw [e1, e2] at all
        have e3 : (!(Builtin.Str.occurrences ("0123456789" : Str) ⟨#[c]⟩ 0 ("0123456789" : Str).length 1).isEmpty) = true := all
        rw [e3]
        exact fin
  · refine ⟨L, List.replicate x.cps.size true, rfl, .inl (.inl (by rw [List.map_replicate]; exact h.2)), ?_⟩
    rw [show (List.replicate x.cps.size true).all id = true by simp]
    exact q H' h.1
theorem good_of {x f : Str} (h1 : decide (1 ≤ x.length) = true) (h2 : decide (x.length ≤ 20) = true) (h3 : (x.cps.toList.head?.any fun c => inS ⟨#[c]⟩ f) = true) (h4 : (x.cps.toList.all fun c => inS ⟨#[c]⟩ SM || (inS ⟨#[c]⟩ GR || inS ⟨#[c]⟩ DG)) = true) : GoodS x f := by
  refine ⟨of_decide_eq_true h1, of_decide_eq_true h2, ?_, fun i c e => ?_⟩
  · cases e : x.cps.toList with
    | nil => rw [e] at h3; cases h3
    | cons c r => rw [e] at h3; exact ⟨c, rfl, by simpa using h3⟩
  · exact List.all_eq_true.mp h4 c (by
      rw [← Array.getElem?_toList] at e
      exact List.mem_of_getElem? e)
/-- a name that is no key word -/
structure NameOk (x : Str) : Prop where
  good : GoodS x SM
  no : inV (.str x) [.str "and", .str "array", .str "ask", .str "at", .str "bool", .str "do", .str "else", .str "end", .str "exception", .str "exn", .str "false", .str "fn", .str "if", .str "in", .str "int", .str "let", .str "match", .str "mod", .str "module", .str "not", .str "of", .str "place", .str "raise", .str "rec", .str "ref", .str "same", .str "show", .str "size", .str "tell", .str "then", .str "true", .str "try", .str "type", .str "unit", .str "with"] = false
def spName : Sp := fun vs H Q _ => ∃ x : Str, vs = [.str x] ∧ NameOk x ∧ ∀ H', Same H H' → Q (.bl true) H'
theorem ok_is_name (D : Defs K mg) : FnOk P w K mg base CX0 2 D.is_name.a D.is_name.fd ["value"] spName := by
  have G_is_lettered := ok_is_lettered (P := P) (w := w) (base := base) D
  have sc := sc_is_name
  refine D.is_name.F.ok sc (fun vs H Q E h => ?_) (fun cdv A outer s H vs Q E hr h => ?_)
  · obtain ⟨x, rfl, _⟩ := h
    rfl
  obtain ⟨x, rfl, g, q⟩ := h
  refine ⟨_, (pss_one (ps_ret (pe_and (pcall D.is_lettered G_is_lettered (hr.mono (by omega)) (by rfl) (pa_cons (pv 0) (pa_cons (pglobS (by rfl) D.c_SMALL) pa_nil))) (pe_one (pe_cmpR op_notIn_seq (pv 0) (pglobT (by rfl) D.c_KEYWORDS) (by rfl)))))), ?_⟩
  refine ⟨_, rfl, x, SM, rfl, g.good, fun H1 S1 => ⟨_, rfl, iteT ?_⟩⟩
  refine ⟨_, rfl, D.c_KEYWORDS.a, _, rfl, .inr (D.c_KEYWORDS.t H1), rfl, rfl, ?_⟩
  rw [g.no]
  exact q H1 S1
def spBig : Sp := fun vs H Q _ => ∃ x : Str, vs = [.str x] ∧ GoodS x GR ∧ ∀ H', Same H H' → Q (.bl true) H'
theorem ok_is_big (D : Defs K mg) : FnOk P w K mg base CX0 2 D.is_big.a D.is_big.fd ["value"] spBig := by
  have G_is_lettered := ok_is_lettered (P := P) (w := w) (base := base) D
  have sc := sc_is_big
  refine D.is_big.F.ok sc (fun vs H Q E h => ?_) (fun cdv A outer s H vs Q E hr h => ?_)
  · obtain ⟨x, rfl, _⟩ := h
    rfl
  obtain ⟨x, rfl, g, q⟩ := h
  refine ⟨_, (pss_one (ps_ret (pcall D.is_lettered G_is_lettered (hr.mono (by omega)) (by rfl) (pa_cons (pv 0) (pa_cons (pglobS (by rfl) D.c_GREAT) pa_nil))))), ?_⟩
  exact ⟨_, rfl, x, GR, rfl, g, q⟩
def lastW : Nm → Str
  | .list => "list"
  | .option => "option"
  | .mt => "t"
def spLast : Sp := fun vs H Q _ => ∃ n : Nm, vs = [.str (nmW n)] ∧ ∀ H', Same H H' → Q (.str (lastW n)) H'
theorem ok_last_of_long (D : Defs K mg) : FnOk P w K mg base CX0 3 D.last_of_long.a D.last_of_long.fd ["value"] spLast := by
  have G_is_big := ok_is_big (P := P) (w := w) (base := base) D
  have sc := sc_last_of_long
  refine D.last_of_long.F.ok sc (fun vs H Q E h => ?_) (fun cdv A outer s H vs Q E hr h => ?_)
  · obtain ⟨n, rfl, _⟩ := h
    rfl
  obtain ⟨n, rfl, q⟩ := h
  refine ⟨_, (pss_cons (ps_if (PW.pt (pw_or (pt_not (pt_val (pe_callB call_isi (by rfl) D.z_isinstance (by decide +kernel) (pa_cons (pv 0) (pa_cons (pe_bltn (v := .ty "str") (u := .type "str") (by rfl) D.z_str (by decide +kernel) rfl) pa_nil))))) (pw_or1 (pt_cmpR op_notin_str pe_str (pv 0) (by rfl))))) (pss_one (ps_ret (pv 0))) pss_nil)
      (pss_cons (ps_set (i := 1) sc.nd rfl (Or.inl rfl) (pe_slice sl_str (pv 0) po_none (po_some (pe_bm PySem.F.plainAttrs_str PySem.F.slot_str_index PySem.F.type_str_index mt_sindex (pv 0) (pa_cons pe_str pa_nil)))))
      (pss_one (ps_ret (pe_ifExp (pt_val (pcall D.is_big G_is_big (hr.mono (by omega)) (by rfl) (pa_cons (pv 1) pa_nil))) (pe_slice sl_str (pv 0) (po_some (pe_op op_add (pe_callB call_len_str (by rfl) D.z_len (by decide +kernel) (pa_cons (pv 1) pa_nil)) pe_int)) po_none) pe_non))))), ?_⟩
  refine ⟨_, rfl, _, _, _, _, true, rfl, .ty "str", .base (.str _), kit_ty kit_str, _, rfl, iteF ?_⟩
  have dot : ∀ n, (n = Nm.list ∨ n = Nm.option) → (!(!(Builtin.Str.occurrences (nmW n) "." 0 (nmW n).length 1).isEmpty)) = true := by
    rintro n (rfl | rfl) <;> decide +kernel
  refine ⟨_, rfl, _, _, rfl, rfl, _, rfl, ?_⟩
  by_cases hn : n = .list ∨ n = .option
  · rw [dot n hn]
    refine iteT ⟨_, rfl, ?_⟩
    have : nmW n = lastW n := by rcases hn with rfl | rfl <;> rfl
    rw [this]
    exact q H fun _ _ z => z
  · have hn : n = .mt := by
      cases n with
      | list => exact absurd (.inl rfl) hn
      | option => exact absurd (.inr rfl) hn
      | mt => rfl
    subst hn
    rw [show (!(!(Builtin.Str.occurrences (nmW .mt) "." 0 (nmW .mt).length 1).isEmpty)) = false by decide +kernel]
    refine iteF ?_
    have c1 : cutS (nmW .mt) none (some ((1 : Nat) : Int)) = "M" := by decide +kernel
    refine ⟨_, rfl, ⟨_, rfl, rfl, _, _, 1, [], rfl, rfl, by decide +kernel, _, rfl, _, rfl, by rw [sizeLine_eq]; decide +kernel, ?_⟩⟩
    rw [c1]
    refine ⟨_, rfl, "M", rfl, good_of (by decide +kernel) (by decide +kernel) (by decide +kernel) (by decide +kernel), fun H1 S1 => ⟨_, rfl, iteT ?_⟩⟩
    refine ⟨_, rfl, _, rfl, _, rfl, by rw [sizeLine_eq]; decide +kernel, _, _, rfl, rfl, _, rfl, _, rfl, by rw [sizeLine_eq]; decide +kernel, ?_⟩
    have c2 : cutS (nmW .mt) (some ((("M" : Str).length : Int) + 1)) none = "t" := by decide +kernel
    rw [c2]
    exact q H1 S1
def spLong : Sp := fun vs H Q _ => ∃ n : Nm, vs = [.str (nmW n)] ∧ ∀ H', Same H H' → Q (.bl true) H'
theorem ok_is_long_name (D : Defs K mg) : FnOk P w K mg base CX0 4 D.is_long_name.a D.is_long_name.fd ["value"] spLong := by
  have G_last_of_long := ok_last_of_long (P := P) (w := w) (base := base) D
  have G_is_name := ok_is_name (P := P) (w := w) (base := base) D
  have sc := sc_is_long_name
  refine D.is_long_name.F.ok sc (fun vs H Q E h => ?_) (fun cdv A outer s H vs Q E hr h => ?_)
  · obtain ⟨n, rfl, _⟩ := h
    rfl
  obtain ⟨n, rfl, q⟩ := h
  refine ⟨_, (pss_one (ps_ret (pcall D.is_name G_is_name (hr.mono (by omega)) (by rfl) (pa_cons (pcall D.last_of_long G_last_of_long (hr.mono (by omega)) (by rfl) (pa_cons (pv 0) pa_nil)) pa_nil)))), ?_⟩
  refine ⟨_, rfl, n, rfl, fun H1 S1 => ⟨_, rfl, ?_, fun H2 S2 => q H2 (same_trans S1 S2)⟩⟩
  refine ⟨?_, ?_⟩
  · cases n <;> exact good_of (by decide +kernel) (by decide +kernel) (by decide +kernel) (by decide +kernel)
  · cases n <;> decide +kernel
end
end UW

/-! What is a loose type, what a scheme. -/
namespace UW
open PySem PySem.Spec PyProof.Rows L2 U UV UD UX
section
variable {P : Program} {w : World} {K : PySem.W.Frag} {mg : Str → Option Value} {base : Heap}

/-- a def that calls itself by another -/
theorem fn_rec2 {f : Addr} {fd : FuncData} {ps : List Str} {sp : Nat → Sp} {c : Nat} (len : ∀ n vs H Q E, sp n vs H Q E → vs.length = ps.length)
    (step : ∀ n, FnOk P w K mg base CX0 (2 * n + c) f fd ps (fun vs H Q E => ∃ m, m < n ∧ sp m vs H Q E) → FnOk P w K mg base CX0 (2 * n + c + 2) f fd ps (sp n)) : ∀ n, FnOk P w K mg base CX0 (2 * n + c + 2) f fd ps (sp n) := fun n =>
  Nat.strongRecOn n fun n ih => step n ⟨fun vs H Q E ⟨m, _, h⟩ => len m vs H Q E h, fun A outer s H args us vs Q E hr he hb hv ⟨m, hm, h⟩ => (ih m hm).run A outer s H args us vs Q E (hr.mono (by omega)) he hb hv h⟩
theorem notT {p : Prop} [Decidable p] (h : p) : (!decide p) = false := by rw [decide_eq_true h]; rfl
theorem notF {p : Prop} [Decidable p] (h : ¬ p) : (!decide p) = true := by rw [decide_eq_false h]; rfl
theorem vT {Q : VK} {p : Prop} [Decidable p] {H : Hp} (h : p) (q : Q (.bl true) H) : Q (.bl (decide p)) H := by rw [decide_eq_true h]; exact q
def rLenQ (K : PySem.W.Frag) : List V → Hp → VK → Prop := fun xs H Q => ∃ p ys, xs = [.ref p] ∧ (SqL K H p ys ∨ SqT K H p ys) ∧ Q (.int ys.length) H
theorem q_len {σ : L2.St} {H : Hp} {te : TE} {a : Addr} {xs : List V} {Q : VK} (he : ∀ R : VK, R (.ref a) H → te σ H R) (hS : SqT K H a xs) (q : Q (.int xs.length) H) : tCB (rLenQ K) (tCons te tNil) σ H Q := he _ ⟨a, xs, rfl, .inr hS, q⟩
theorem q_lenEq {σ : L2.St} {H : Hp} {te : TE} {a : Addr} {xs : List V} {Q : VK} {n : Int} (he : ∀ R : VK, R (.ref a) H → te σ H R) (hS : SqT K H a xs) (q : Q (.bl (decide ((xs.length : Int) = n))) H) : tOp (rEqG K) (tCB (rLenQ K) (tCons te tNil)) (tC (.int n)) σ H Q :=
  q_len he hS ⟨.int _, .int _, .int _, .int _, rfl, rfl, Nat.zero_le _, by rw [eqv_int]; exact q⟩
theorem t_lenEq {σ : L2.St} {H : Hp} {te : TE} {a : Addr} {xs : List V} {Q : Bool → Hp → Prop} {n : Int} (he : ∀ R : VK, R (.ref a) H → te σ H R) (hS : SqT K H a xs) (q : Q (decide ((xs.length : Int) = n)) H) : tTest (tOp (rEqG K) (tCB (rLenQ K) (tCons te tNil)) (tC (.int n))) σ H Q :=
  q_lenEq he hS ⟨_, rfl, q⟩
theorem t_lenNe {σ : L2.St} {H : Hp} {te : TE} {a : Addr} {xs : List V} {Q : Bool → Hp → Prop} {n : Int} (he : ∀ R : VK, R (.ref a) H → te σ H R) (hS : SqT K H a xs) (q : Q (!decide ((xs.length : Int) = n)) H) : tTest (tOp (rNeG K) (tCB (rLenQ K) (tCons te tNil)) (tC (.int n))) σ H Q :=
  q_len he hS ⟨.int _, .int _, .int _, .int _, rfl, rfl, Nat.zero_le _, _, rfl, by rw [eqv_int]; exact q⟩
theorem t_wordNe {σ : L2.St} {H : Hp} {i : Nat} {v : V} {t : Ty} {Q : Bool → Hp → Prop} {s : Str} (hσ : σ[i]? = some (some v)) (h : Rep K H v t) (hs : PyData.canLay0 (.str s) = true) (q : Q (!decide (word t = s)) H) : tTest (tOp (rNeG K) (tOp (rIxT K) (tVar i) (tC (.int 0))) (tC (.str s))) σ H Q :=
  q_word hσ h ⟨.str _, .str _, .str _, .str _, lay_word t, hs, Nat.zero_le _, _, rfl, by rw [eqv_str]; exact q⟩

/-! ### is_made_right -/
def spRight (K : PySem.W.Frag) : Sp := fun vs H Q _ => ∃ v l ks, vs = [v] ∧ Rep K H v (.node l ks) ∧ wf (.node l ks) ∧ (∀ p, l ≠ .plain p) ∧ ∀ H', Same H H' → Q (.bl true) H'
theorem ok_is_made_right (D : Defs K mg) : FnOk P w K mg base CX0 5 D.is_made_right.a D.is_made_right.fd ["value"] (spRight K) := by
  have G_is_long_name := ok_is_long_name (P := P) (w := w) (base := base) D
  have sc := sc_is_made_right
  refine D.is_made_right.F.ok sc (fun vs H Q E h => ?_) (fun cdv A outer s H vs Q E hr h => ?_)
  · obtain ⟨v, l, ks, rfl, _⟩ := h
    rfl
  obtain ⟨v, l, ks, rfl, h, hw, hp, q⟩ := h
  refine ⟨_, (pss_cons (ps_if (pt_cmpR (op_eqG (room_eq hr)) (pe_ix ix_tup (pv 0) pe_int (fun _ _ => rfl)) pe_str (nomark _)) (pss_one (ps_ret (pe_cmpR (op_eqG (room_eq hr)) (pe_callB call_len_seq (by rfl) D.z_len (by decide +kernel) (pa_cons (pv 0) pa_nil)) pe_int (nomark _)))) pss_nil)
      (pss_cons (ps_if (pt_cmpR op_in_seq (pe_ix ix_tup (pv 0) pe_int (fun _ _ => rfl)) (pglobT (by rfl) D.c_ONE_KINDS) (by rfl)) (pss_one (ps_ret (pe_cmpR (op_eqG (room_eq hr)) (pe_callB call_len_seq (by rfl) D.z_len (by decide +kernel) (pa_cons (pv 0) pa_nil)) pe_int (nomark _)))) pss_nil)
      (pss_cons (ps_if (pt_cmpR (op_eqG (room_eq hr)) (pe_ix ix_tup (pv 0) pe_int (fun _ _ => rfl)) pe_str (nomark _)) (pss_one (ps_ret (pe_and (pe_cmpR (op_eqG (room_eq hr)) (pe_callB call_len_seq (by rfl) D.z_len (by decide +kernel) (pa_cons (pv 0) pa_nil)) pe_int (nomark _)) (pe_and (pe_callB call_isi (by rfl) D.z_isinstance (by decide +kernel) (pa_cons (pe_ix ix_tup (pv 0) pe_int (fun _ _ => rfl)) (pa_cons (pe_bltn (v := .ty "tuple") (u := .type "tuple") (by rfl) D.z_tuple (by decide +kernel) rfl) pa_nil))) (pe_one (pe_chain op_le op_le pe_int (pe_callB call_len_seq (by rfl) D.z_len (by decide +kernel) (pa_cons (pe_ix ix_tup (pv 0) pe_int (fun _ _ => rfl)) pa_nil)) pe_int)))))) pss_nil)
      (pss_cons (ps_if (PW.pt (pw_or (pt_cmpR (op_neG (room_eq hr)) (pe_ix ix_tup (pv 0) pe_int (fun _ _ => rfl)) pe_str (nomark _)) (pw_or (pt_cmpR (op_neG (room_eq hr)) (pe_callB call_len_seq (by rfl) D.z_len (by decide +kernel) (pa_cons (pv 0) pa_nil)) pe_int (nomark _)) (pw_or1 (pt_not (pt_val (pcall D.is_long_name G_is_long_name (hr.mono (by omega)) (by rfl) (pa_cons (pe_ix ix_tup (pv 0) pe_int (fun _ _ => rfl)) pa_nil)))))))) (pss_one (ps_ret pe_bl)) pss_nil)
      (pss_one (ps_ret (pe_and (pe_callB call_isi (by rfl) D.z_isinstance (by decide +kernel) (pa_cons (pe_ix ix_tup (pv 0) pe_int (fun _ _ => rfl)) (pa_cons (pe_bltn (v := .ty "tuple") (u := .type "tuple") (by rfl) D.z_tuple (by decide +kernel) rfl) pa_nil))) (pe_one (pe_cmpR op_le (pe_callB call_len_seq (by rfl) D.z_len (by decide +kernel) (pa_cons (pe_ix ix_tup (pv 0) pe_int (fun _ _ => rfl)) pa_nil)) pe_int (nomark _)))))))))), ?_⟩
  have h0 := (wf_node.mp hw).1
  cases l with
  | fn =>
    refine t_wordT rfl h l_fun rfl ?_
    refine iteT ?_
    obtain ⟨a, vs, rfl, hS, hR⟩ := h.flat rfl
    refine q_lenEq (fun R r => ⟨_, rfl, r⟩) hS ?_
    have : ks.length = 2 := by simpa [okL] using h0
    rw [decide_eq_true (by rw [List.length_cons, hR.length, this]; rfl)]
    exact q H fun _ _ z => z
  | plain p => exact absurd rfl (hp p)
  | one b =>
    refine t_wordF rfl h l_fun (by cases b <;> decide +kernel : labW (.one b) ≠ "fun") ?_
    refine iteF ?_
    refine t_wordIn rfl h (fun _ r => r) (D.c_ONE_KINDS.t H) rfl ?_
    rw [show inV (.str (word (.node (.one b) ks))) [.str "ref", .str "array"] = true by
      show inV (.str (labW (.one b))) _ = true
      cases b <;> decide +kernel]
    refine iteT ?_
    obtain ⟨a, vs, rfl, hS, hR⟩ := h.flat rfl
    refine q_lenEq (fun R r => ⟨_, rfl, r⟩) hS ?_
    have : ks.length = 1 := by simpa [okL] using h0
    rw [decide_eq_true (by rw [List.length_cons, hR.length, this]; rfl)]
    exact q H fun _ _ z => z
  | tup =>
    refine t_wordF rfl h l_fun (by decide +kernel : labW .tup ≠ "fun") ?_
    refine iteF ?_
    refine t_wordIn rfl h (fun _ r => r) (D.c_ONE_KINDS.t H) rfl ?_
    rw [show inV (.str (word (.node .tup ks))) [.str "ref", .str "array"] = false from (by decide +kernel : inV (.str (labW .tup)) [.str "ref", .str "array"] = false)]
    refine iteF ?_
    refine t_wordT rfl h l_tuple rfl ?_
    refine iteT ?_
    obtain ⟨a, b, vs, rfl, hS, hT, hR⟩ := h.tupl
    refine q_lenEq (fun R r => ⟨_, rfl, r⟩) hS ⟨_, rfl, iteT ?_⟩
    refine ⟨_, rfl, _, _, 1, _, rfl, rfl, hS, atI_nat (j := 1) rfl, _, _, .type "tuple", .type "tuple", true, rfl, .ty "tuple", ty_tup hT, kit_ty kit_tup, _, rfl, iteT ?_⟩
    have hl : ks.length = 2 ∨ ks.length = 3 := by simpa [okL] using h0
    have hv := hR.length
    refine ⟨_, rfl, _, _, 1, _, rfl, rfl, hS, atI_nat (j := 1) rfl, b, vs, rfl, .inr hT, _, _, rfl, rfl, _, rfl, ?_⟩
    refine iteB1 (decide_eq_true (by omega)) ⟨_, _, rfl, rfl, ?_⟩
    exact vT (Q := Q) (by omega) (q H fun _ _ z => z)
  | data n =>
    refine t_wordF rfl h l_fun (by decide +kernel : labW (.data .list) ≠ "fun") ?_
    refine iteF ?_
    refine t_wordIn rfl h (fun _ r => r) (D.c_ONE_KINDS.t H) rfl ?_
    rw [show inV (.str (word (.node (.data n) ks))) [.str "ref", .str "array"] = false from (by decide +kernel : inV (.str (labW (.data .list))) [.str "ref", .str "array"] = false)]
    refine iteF ?_
    refine t_wordF rfl h l_tuple (by decide +kernel : labW (.data .list) ≠ "tuple") ?_
    refine iteF ?_
    refine t_wordNe rfl h l_data ?_
    refine iteB0 (notT rfl) ?_
    obtain ⟨a, b, vs, rfl, hS, hT, hR⟩ := h.dat
    refine t_lenNe (fun R r => ⟨_, rfl, r⟩) hS ?_
    refine iteB0 (notT rfl) ?_
    refine ⟨_, rfl, _, _, 1, _, rfl, rfl, hS, atI_nat (j := 1) rfl, n, rfl, fun H1 S1 => ⟨_, rfl, iteF ?_⟩⟩
    have hS' := tst_seq (tst_same S1) hS
    have hT' := tst_seq (tst_same S1) hT
    refine ⟨_, rfl, _, _, 2, _, rfl, rfl, hS', atI_nat (j := 2) rfl, _, _, .type "tuple", .type "tuple", true, rfl, .ty "tuple", ty_tup hT', kit_ty kit_tup, _, rfl, iteT ?_⟩
    refine q_len (fun R r => ⟨_, rfl, _, _, 2, _, rfl, rfl, hS', atI_nat (j := 2) rfl, r⟩) hT' ?_
    have hl : ks.length = 1 := by simpa [okL] using h0
    have hv := hR.length
    exact ⟨_, _, rfl, rfl, vT (Q := Q) (by omega) (q H1 S1)⟩

/-! ### type_parts -/
def Only (p : Bool) (t : Ty) : Prop := ∀ k, ¬ occ (!p) k t
theorem Only.kid {p : Bool} {t u : Ty} (h : Only p t) (hu : u ∈ kids t) : Only p u := fun k hk => h k (occ_kids hu hk)
def spParts (K : PySem.W.Frag) (n : Nat) : Sp := fun vs H Q _ => ∃ v t p left, vs = [v, .str (varW p), .int left] ∧ Rep K H v t ∧ wf t ∧ Only p t ∧ (size t : Int) ≤ left ∧ left ≤ 200 ∧ depth t ≤ n ∧ ∀ H', Same H H' → Q (.int (size t)) H'
def spAre (K : PySem.W.Frag) (n : Nat) : Sp := fun vs H Q _ => ∃ a xs ts p left, vs = [.ref a, .str (varW p), .int left] ∧ SqT K H a xs ∧ Reps K H xs ts ∧ (∀ t ∈ ts, wf t ∧ Only p t ∧ depth t < n) ∧ (sizes ts : Int) ≤ left ∧ left ≤ 200 ∧ ∀ H', Same H H' → Q (.int (sizes ts)) H'
theorem sizes_append : ∀ ts us : List Ty, sizes (ts ++ us) = sizes ts + sizes us
  | [], us => by rw [List.nil_append, sizes]; omega
  | t :: ts, us => by rw [List.cons_append, sizes, sizes, sizes_append ts us]; omega
theorem sizes_take_le : ∀ (ts : List Ty) (i : Nat), sizes (ts.take i) ≤ sizes ts
  | [], i => by rw [List.take_nil]; omega
  | t :: ts, 0 => by rw [List.take_zero, sizes]; omega
  | t :: ts, i + 1 => by rw [List.take_succ_cons, sizes, sizes]; have := sizes_take_le ts i; omega
theorem ok_are (D : Defs K mg) {c n : Nat} (G_type_parts : FnOk P w K mg base CX0 c D.type_parts.a D.type_parts.fd ["value", "word", "left"] (fun vs H Q E => ∃ m, m < n ∧ spParts K m vs H Q E)) :
    FnOk P w K mg base CX0 (c + 1) D.are_loose_within.a D.are_loose_within.fd ["value", "word", "left"] (spAre K n) := by
  have sc := sc_are_loose_within
  refine D.are_loose_within.F.ok sc (fun vs H Q E h => ?_) (fun cdv A outer s H vs Q E hr h => ?_)
  · obtain ⟨a, xs, ts, p, left, rfl, _⟩ := h
    rfl
  obtain ⟨a, xs, ts, p, left, rfl, hS, hR, hg, hz, hl, q⟩ := h
  refine ⟨_, (pss_cons (ps_set (i := 3) sc.nd rfl (Or.inl rfl) pe_int)
      (pss_cons (ps_for PassesOwn.never rfl (pi_tup (pv 0)) (pg_name (i := 4) sc.nd rfl (Or.inl rfl)) (pss_cons (ps_set (i := 3) sc.nd rfl (Or.inl rfl) (pe_op op_add (pv 3) (pcall D.type_parts G_type_parts (hr.mono (by omega)) (by rfl) (pa_cons (pv 4) (pa_cons (pv 1) (pa_cons (pe_op op_sub (pv 2) (pv 3)) pa_nil))))))
      (pss_one (ps_if (pt_cmpR op_gt (pv 3) (pglobI (by rfl) D.c_MOST_TYPE_PARTS) (nomark _)) (pss_one (ps_ret (pv 3))) pss_nil))))
      (pss_one (ps_ret (pv 3))))), ?_⟩
  have hlen := hR.length
  refine ⟨_, rfl, a, rfl, ⟨xs, hS⟩, ?_⟩
  refine for_tup (xs := xs) (fun i σ H' => (∃ lv, σ = [some (.ref a), some (.str (varW p)), some (.int left), some (.int (sizes (ts.take i))), lv]) ∧ Same H H') ⟨⟨none, rfl⟩, fun _ _ z => z⟩ (fun i σ H' _ h => tst_seq (tst_same h.2) hS) (fun i x σ H' e h => ?_) fun σ H' h => ?_
  · obtain ⟨⟨lv, rfl⟩, S⟩ := h
    obtain ⟨t, et, ht⟩ := hR.at e
    obtain ⟨g1, g2, g3⟩ := hg t (List.mem_of_getElem? et)
    have tk : sizes (ts.take (i + 1)) = sizes (ts.take i) + size t := by
      rw [List.take_add_one, et, show (some t).toList = [t] from rfl, sizes_append, sizes, sizes]; rfl
    have le := sizes_take_le ts (i + 1)
    refine ⟨_, rfl, _, rfl, _, rfl, _, rfl, _, rfl, _, _, rfl, rfl, depth t, g3, x, t, p, _, rfl, ht.mono (tst_same S), g1, g2, by omega, by omega, Nat.le_refl _, fun H2 S2 => ⟨_, _, rfl, rfl, ?_⟩⟩
    refine ⟨_, rfl, _, _, rfl, rfl, _, rfl, ?_⟩
    rw [decide_eq_false (by omega : ¬ (200 : Int) < (sizes (ts.take i) : Int) + (size t : Int))]
    refine iteF ⟨⟨some x, ?_⟩, same_trans S S2⟩
    rw [tk]
    rfl
  · obtain ⟨⟨lv, rfl⟩, S⟩ := h
    rw [hlen, List.take_length]
    exact ⟨_, rfl, q H' S⟩
theorem in_plain {t : Ty} : inV (.str (word t)) [.str "int", .str "bool", .str "unit", .str "exn"] = true → ∃ p ks, t = .node (.plain p) ks := by
  cases t with
  | var p k => intro h; exact absurd h ((by decide +kernel : ∀ p : Bool, ¬ inV (.str (varW p)) [.str "int", .str "bool", .str "unit", .str "exn"] = true) p)
  | node l ks =>
    cases l with
    | plain p => intro _; exact ⟨p, ks, rfl⟩
    | fn => intro h; exact absurd h (by decide +kernel : ¬ inV (.str (labW .fn)) [.str "int", .str "bool", .str "unit", .str "exn"] = true)
    | tup => intro h; exact absurd h (by decide +kernel : ¬ inV (.str (labW .tup)) [.str "int", .str "bool", .str "unit", .str "exn"] = true)
    | data n => intro h; exact absurd h (by decide +kernel : ¬ inV (.str (labW (.data .list))) [.str "int", .str "bool", .str "unit", .str "exn"] = true)
    | one b => intro h; exact absurd h ((by decide +kernel : ∀ b : Bool, ¬ inV (.str (labW (.one b))) [.str "int", .str "bool", .str "unit", .str "exn"] = true) b)
theorem plain_in {p : Pl} {ks : List Ty} : inV (.str (word (.node (.plain p) ks))) [.str "int", .str "bool", .str "unit", .str "exn"] = true := by
  show inV (.str (plW p)) _ = true
  cases p <;> decide +kernel
theorem ok_type_parts (D : Defs K mg) : ∀ n, FnOk P w K mg base CX0 (2 * n + 5 + 2) D.type_parts.a D.type_parts.fd ["value", "word", "left"] (spParts K n) := by
  have G_loose_within := ok_loose_within (P := P) (w := w) (base := base) D
  have G_is_count := ok_is_count (P := P) (w := w) (base := base) D
  have G_is_made_right := ok_is_made_right (P := P) (w := w) (base := base) D
  refine fn_rec2 (fun n vs H Q E h => ?_) fun n G_type_parts => ?_
  · obtain ⟨v, t, p, left, rfl, _⟩ := h
    rfl
  have G_are_loose_within := ok_are D G_type_parts
  have sc := sc_type_parts
  refine D.type_parts.F.ok sc (fun vs H Q E h => ?_) (fun cdv A outer s H vs Q E hr h => ?_)
  · obtain ⟨v, t, p, left, rfl, _⟩ := h
    rfl
  obtain ⟨v, t, p, left, rfl, h, hw, ho, hz, hl, hn, q⟩ := h
  refine ⟨_, (pss_cons (ps_set (i := 3) sc.nd rfl (Or.inl rfl) (pe_op op_add (pglobI (by rfl) D.c_MOST_TYPE_PARTS) pe_int))
      (pss_cons (ps_if (PW.pt (pw_or (pt_cmpR op_lt (pv 2) pe_int (nomark _)) (pw_or (pt_not (pt_val (pe_callB call_isi (by rfl) D.z_isinstance (by decide +kernel) (pa_cons (pv 0) (pa_cons (pe_bltn (v := .ty "tuple") (u := .type "tuple") (by rfl) D.z_tuple (by decide +kernel) rfl) pa_nil))))) (pw_or (pt_cmpR (op_eqG (room_eq hr)) (pe_callB call_len_seq (by rfl) D.z_len (by decide +kernel) (pa_cons (pv 0) pa_nil)) pe_int (nomark _)) (pw_or1 (pt_not (pt_val (pe_callB call_isi (by rfl) D.z_isinstance (by decide +kernel) (pa_cons (pe_ix ix_tup (pv 0) pe_int (fun _ _ => rfl)) (pa_cons (pe_bltn (v := .ty "str") (u := .type "str") (by rfl) D.z_str (by decide +kernel) rfl) pa_nil)))))))))) (pss_one (ps_ret (pv 3))) pss_nil)
      (pss_cons (ps_if (PW.pt (pw_and (pt_cmpR op_in_seq (pe_ix ix_tup (pv 0) pe_int (fun _ _ => rfl)) (pglobT (by rfl) D.c_PLAIN_KINDS) (by rfl)) (pw_and1 (pt_cmpR (op_eqG (room_eq hr)) (pe_callB call_len_seq (by rfl) D.z_len (by decide +kernel) (pa_cons (pv 0) pa_nil)) pe_int (nomark _))))) (pss_one (ps_ret pe_int)) pss_nil)
      (pss_cons (ps_if (PW.pt (pw_and (pt_cmpR (op_eqG (room_eq hr)) (pe_ix ix_tup (pv 0) pe_int (fun _ _ => rfl)) (pv 1) (nomark _)) (pw_and1 (pt_cmpR (op_eqG (room_eq hr)) (pe_callB call_len_seq (by rfl) D.z_len (by decide +kernel) (pa_cons (pv 0) pa_nil)) pe_int (nomark _))))) (pss_one (ps_ret (pe_ifExp (pt_val (pcall D.is_count G_is_count (hr.mono (by omega)) (by rfl) (pa_cons (pe_ix ix_tup (pv 0) pe_int (fun _ _ => rfl)) pa_nil))) pe_int (pv 3)))) pss_nil)
      (pss_cons (ps_if (pt_not (pt_val (pcall D.is_made_right G_is_made_right (hr.mono (by omega)) (by rfl) (pa_cons (pv 0) pa_nil)))) (pss_one (ps_ret (pv 3))) pss_nil)
      (pss_one (ps_ret (pe_op op_add pe_int (pcall D.are_loose_within G_are_loose_within (hr.mono (by omega)) (by rfl) (pa_cons (pcall D.loose_within G_loose_within (hr.mono (by omega)) (by rfl) (pa_cons (pv 0) pa_nil)) (pa_cons (pv 1) (pa_cons (pe_op op_sub (pv 2) pe_int) pa_nil)))))))))))), ?_⟩
  obtain ⟨a, xs, rfl, hS, hx0⟩ := h.tup
  have hpos := size_pos t
  have hxl : 0 < xs.length := by
    cases xs with
    | nil => cases hx0
    | cons _ _ => rw [List.length_cons]; omega
  refine ⟨_, _, rfl, rfl, ?_⟩
  refine ⟨_, rfl, _, _, rfl, rfl, _, rfl, ?_⟩
  rw [decide_eq_false (by omega : ¬ left < (1 : Int))]
  refine iteF ⟨_, rfl, _, _, .type "tuple", .type "tuple", true, rfl, .ty "tuple", ty_tup hS, kit_ty kit_tup, _, rfl, iteF ?_⟩
  refine t_lenEq (fun R r => ⟨_, rfl, r⟩) hS ?_
  rw [decide_eq_false (by omega : ¬ (xs.length : Int) = 0)]
  refine iteF ?_
  refine q_word rfl h ⟨_, _, .type "str", .type "str", true, rfl, .ty "str", .base (.str _), kit_ty kit_str, _, rfl, iteF ?_⟩
  refine t_wordIn rfl h (fun _ r => r) (D.c_PLAIN_KINDS.t H) rfl ?_
  by_cases e1 : ∃ p ks, t = .node (.plain p) ks
  · obtain ⟨pl, ks, rfl⟩ := e1
    rw [plain_in]
    refine iteT ?_
    have h0 := (wf_node.mp hw).1
    have hk : ks = [] := by
      cases ks with
      | nil => rfl
      | cons _ _ => cases h0
    subst hk
    obtain ⟨a2, vs, e, hS2, hR⟩ := h.flat rfl
    cases hR
    cases e
    refine t_lenEq (fun R r => ⟨_, rfl, r⟩) hS2 ?_
    refine iteB1 (decide_eq_true rfl) ?_
    have : size (.node (.plain pl) []) = 1 := by rw [size, sizes]
    rw [this] at q
    exact q H fun _ _ z => z
  cases e2 : inV (.str (word t)) [.str "int", .str "bool", .str "unit", .str "exn"] with
  | true => exact absurd (in_plain e2) e1
  | false =>
    refine iteF ?_
    have tst : ∀ Q : Bool → Hp → Prop, Q (decide (word t = varW p)) H → tTest (tOp (rEqG K) (tOp (rIxT K) (tVar 0) (tC (.int 0))) (tVar 1)) (start ["value", "word", "left", "wrong"] [.ref a, .str (varW p), .int left] |>.set 3 (some (.int 201))) H Q := fun Q q =>
      q_word rfl h ⟨_, rfl, .str _, .str _, .str _, .str _, lay_word t, l_var p, Nat.zero_le _, _, rfl, by rw [eqv_str]; exact q⟩
    refine tst _ ?_
    by_cases e3 : word t = varW p
    · rw [decide_eq_true e3]
      refine iteT ?_
      obtain ⟨k, rfl⟩ := is_var e3
      obtain ⟨a2, e, hS2⟩ := h.var
      cases e
      refine t_lenEq (fun R r => ⟨_, rfl, r⟩) hS2 ?_
      refine iteB1 (decide_eq_true rfl) ?_
      refine ⟨_, rfl, _, _, 1, _, rfl, rfl, hS2, atI_nat (j := 1) rfl, k, rfl, _, rfl, iteT ?_⟩
      rw [size] at q
      exact q H fun _ _ z => z
    · rw [decide_eq_false e3]
      refine iteF ?_
      cases t with
      | var p2 k =>
        have : p2 = !p := by
          cases p <;> cases p2 <;> first | rfl | exact absurd rfl e3
        exact absurd (occ_var.mpr ⟨this, rfl⟩) (ho k)
      | node l ks =>
        refine ⟨_, rfl, _, l, ks, rfl, h, hw, fun p z => e1 ⟨p, ks, by rw [z]⟩, fun H1 S1 => ⟨_, rfl, iteF ?_⟩⟩
        refine ⟨_, rfl, _, _, rfl, h.mono (tst_same S1), hw, fun b ys H2 S2 hB hR => ⟨_, rfl, _, rfl, _, _, rfl, rfl, b, ys, ks, p, _, rfl, hB, hR, fun u hu => ⟨(wf_node.mp hw).2 u hu, ho.kid hu, ?_⟩, ?_, by omega, fun H3 S3 => ⟨_, _, rfl, rfl, ?_⟩⟩⟩
        · have := depth_kid (l := l) hu; omega
        · rw [size] at hz; omega
        · have := q H3 (same_trans S1 (same_trans S2 S3))
          rw [size] at this
          have e : ((1 + sizes ks : Nat) : Int) = (1 : Int) + (sizes ks : Int) := by omega
          rw [e] at this
          exact this
end
end UW

/-! Loose types wanted, schemes, general ones; rows. -/
namespace UW
open PySem PySem.Spec PyProof.Rows L2 U UV UD UX
section
variable {P : Program} {w : World} {K : PySem.W.Frag} {mg : Str → Option Value} {base : Heap}

/-- a type that passes as a loose one -/
structure Okt (n : Nat) (t : Ty) : Prop where
  wf : wf t
  only : Only false t
  sz : size t ≤ 200
  dp : depth t ≤ n
def spLoose (K : PySem.W.Frag) (n : Nat) : Sp := fun vs H Q _ => ∃ v t, vs = [v] ∧ Rep K H v t ∧ Okt n t ∧ ∀ H', Same H H' → Q (.bl true) H'
theorem ok_is_loose_type (D : Defs K mg) (n : Nat) : FnOk P w K mg base CX0 (2 * n + 8) D.is_loose_type.a D.is_loose_type.fd ["value"] (spLoose K n) := by
  have G_type_parts := ok_type_parts (P := P) (w := w) (base := base) D n
  have sc := sc_is_loose_type
  refine D.is_loose_type.F.ok sc (fun vs H Q E h => ?_) (fun cdv A outer s H vs Q E hr h => ?_)
  · obtain ⟨v, t, rfl, _⟩ := h
    rfl
  obtain ⟨v, t, rfl, h, g, q⟩ := h
  refine ⟨_, (pss_one (ps_ret (pe_cmpR op_le (pcall D.type_parts G_type_parts (hr.mono (by omega)) (by rfl) (pa_cons (pv 0) (pa_cons pe_str (pa_cons (pglobI (by rfl) D.c_MOST_TYPE_PARTS) pa_nil)))) (pglobI (by rfl) D.c_MOST_TYPE_PARTS) (nomark _)))), ?_⟩
  have hz := g.sz
  refine ⟨_, rfl, v, t, false, _, rfl, h, g.wf, g.only, by omega, by omega, g.dp, fun H1 S1 => ⟨_, _, rfl, rfl, ?_⟩⟩
  exact vT (Q := Q) (by omega) (q H1 S1)
def spWant (K : PySem.W.Frag) (n : Nat) : Sp := fun vs H Q _ => ∃ v t, vs = [v] ∧ Rep K H v t ∧ Okt n t ∧ ∀ H', Same H H' → Q v H'
theorem ok_want_loose (D : Defs K mg) (n : Nat) : FnOk P w K mg base CX0 (2 * n + 9) D.want_loose.a D.want_loose.fd ["value"] (spWant K n) := by
  have G_is_loose_type := ok_is_loose_type (P := P) (w := w) (base := base) D n
  have sc := sc_want_loose
  refine D.want_loose.F.ok sc (fun vs H Q E h => ?_) (fun cdv A outer s H vs Q E hr h => ?_)
  · obtain ⟨v, t, rfl, _⟩ := h
    rfl
  obtain ⟨v, t, rfl, h, g, q⟩ := h
  refine ⟨_, (pss_cons (ps_if (pt_not (pt_val (pcall D.is_loose_type G_is_loose_type (hr.mono (by omega)) (by rfl) (pa_cons (pv 0) pa_nil)))) (pss_one ps_never) pss_nil)
      (pss_one (ps_ret (pv 0)))), ?_⟩
  exact ⟨_, rfl, v, t, rfl, h, g, fun H1 S1 => ⟨_, rfl, iteF ⟨_, rfl, q H1 S1⟩⟩⟩

/-! ### schemes -/
structure Oks (n c : Nat) (t : Ty) : Prop where
  wf : wf t
  only : Only true t
  few : Few true t
  sz : size t ≤ 200
  dp : depth t ≤ n
  nm : nums true t = List.range c
abbrev pI (k : Nat) : PyData := .int (k : Int)
theorem dp_nums {H : Hp} : ∀ l : List Nat, DpAll K H (l.map nV) (l.map pI)
  | [] => .nil
  | a :: l => .cons (.int _) (dp_nums l)
theorem lay_nums (l : List Nat) : PyData.canLay0 (.list (l.map pI)) = true := by
  rw [PyData.canLay0]
  exact lay_all fun d hd => by
    obtain ⟨k, _, rfl⟩ := List.mem_map.mp hd
    rfl
theorem depth_nums (l : List Nat) : PyData.depth (.list (l.map pI)) ≤ 190 := by
  rw [PyData.depth]
  have : PyData.depthAll (l.map pI) ≤ 1 := by
    induction l with
    | nil => rw [List.map_nil, PyData.depthAll]; omega
    | cons a l ih =>
      rw [List.map_cons, PyData.depthAll]
      have : PyData.depth (pI a) ≤ 1 := by rw [PyData.depth]; omega
      omega
  omega
theorem eqv_nums : ∀ a b : List Nat, PyData.eqv (.list (a.map pI)) (.list (b.map pI)) = decide (a = b) := by
  have go : ∀ a b : List Nat, PyData.eqvAll (a.map pI) (b.map pI) = decide (a = b) := by
    intro a
    induction a with
    | nil =>
      intro b
      cases b with
      | nil => rw [List.map_nil, PyData.eqvAll]; rfl
      | cons y b => rw [List.map_nil, List.map_cons, PyData.eqvAll]; simp
    | cons x a ih =>
      intro b
      cases b with
      | nil => rw [List.map_nil, List.map_cons, PyData.eqvAll]; simp
      | cons y b =>
        rw [List.map_cons, List.map_cons, PyData.eqvAll, ih, eqv_int]
        by_cases e : x = y
        · subst e; simp
        · have : ¬ (x : Int) = (y : Int) := by omega
          simp [this, e]
  intro a b
  rw [PyData.eqv, go]
theorem rg_nums (c : Nat) : rgV 0 ((c : Nat) : Int) = (List.range c).map nV := by
  unfold rgV
  rw [show ((c : Int) - 0).toNat = c by omega]
  refine List.map_congr_left fun k _ => ?_
  show V.int (0 + (k : Int)) = V.int (k : Int)
  rw [Int.zero_add]
def spScheme (K : PySem.W.Frag) (n : Nat) : Sp := fun vs H Q _ => ∃ a v c t, vs = [.ref a] ∧ SqT K H a [nV c, v] ∧ Rep K H v t ∧ Oks n c t ∧ ∀ H', Same H H' → Q (.bl true) H'
theorem ok_is_scheme (D : Defs K mg) (n : Nat) : FnOk P w K mg base CX0 (2 * n + 8) D.is_scheme_of_type.a D.is_scheme_of_type.fd ["value"] (spScheme K n) := by
  have G_type_parts := ok_type_parts (P := P) (w := w) (base := base) D n
  have G_is_count := ok_is_count (P := P) (w := w) (base := base) D
  have G_numbers_in := ok_numbers_in (P := P) (w := w) (base := base) D n
  have sc := sc_is_scheme_of_type
  refine D.is_scheme_of_type.F.ok sc (fun vs H Q E h => ?_) (fun cdv A outer s H vs Q E hr h => ?_)
  · obtain ⟨a, v, c, t, rfl, _⟩ := h
    rfl
  obtain ⟨a, v, c, t, rfl, hS, h, g, q⟩ := h
  refine ⟨_, (pss_cons (ps_if (PW.pt (pw_or (pt_not (pt_val (pe_callB call_isi (by rfl) D.z_isinstance (by decide +kernel) (pa_cons (pv 0) (pa_cons (pe_bltn (v := .ty "tuple") (u := .type "tuple") (by rfl) D.z_tuple (by decide +kernel) rfl) pa_nil))))) (pw_or (pt_cmpR (op_neG (room_eq hr)) (pe_callB call_len_seq (by rfl) D.z_len (by decide +kernel) (pa_cons (pv 0) pa_nil)) pe_int (nomark _)) (pw_or1 (pt_not (pt_val (pcall D.is_count G_is_count (hr.mono (by omega)) (by rfl) (pa_cons (pe_ix ix_tup (pv 0) pe_int (fun _ _ => rfl)) pa_nil)))))))) (pss_one (ps_ret pe_bl)) pss_nil)
      (pss_cons (ps_if (pt_cmpR op_gt (pcall D.type_parts G_type_parts (hr.mono (by omega)) (by rfl) (pa_cons (pe_ix ix_tup (pv 0) pe_int (fun _ _ => rfl)) (pa_cons pe_str (pa_cons (pglobI (by rfl) D.c_MOST_TYPE_PARTS) pa_nil)))) (pglobI (by rfl) D.c_MOST_TYPE_PARTS) (nomark _)) (pss_one (ps_ret pe_bl)) pss_nil)
      (pss_one (ps_ret (pe_cmpR (op_eqG (room_eq hr)) (pcall D.numbers_in G_numbers_in (hr.mono (by omega)) (by rfl) (pa_cons (pe_ix ix_tup (pv 0) pe_int (fun _ _ => rfl)) (pa_cons pe_str pa_nil))) (pe_listRg rfl (by rfl) D.z_list (prg_1 (by rfl) D.z_range (pe_ix ix_tup (pv 0) pe_int (fun _ _ => rfl)))) (nomark _)))))), ?_⟩
  have hz := g.sz
  refine ⟨_, rfl, _, _, .type "tuple", .type "tuple", true, rfl, .ty "tuple", ty_tup hS, kit_ty kit_tup, _, rfl, iteF ?_⟩
  refine t_lenNe (fun R r => ⟨_, rfl, r⟩) hS ?_
  refine iteB0 (notT rfl) ?_
  refine ⟨_, rfl, _, _, 0, _, rfl, rfl, hS, atI_nat (j := 0) rfl, c, rfl, _, rfl, iteF ?_⟩
  refine ⟨_, rfl, _, _, 1, _, rfl, rfl, hS, atI_nat (j := 1) rfl, v, t, true, _, rfl, h, g.wf, g.only, by omega, by omega, g.dp, fun H1 S1 => ⟨_, _, rfl, rfl, _, rfl, ?_⟩⟩
  refine iteB0 (decide_eq_false (by omega)) ?_
  have hS1 := tst_seq (tst_same S1) hS
  refine ⟨_, rfl, _, _, 1, _, rfl, rfl, hS1, atI_nat (j := 1) rfl, v, t, true, rfl, h.mono (tst_same S1), g.wf, g.few, g.dp, fun l H2 S2 hl0 hl => ?_⟩
  have hS2 := tst_seq (tst_same S2) hS1
  have hc : c ≤ 1000 := by
    have := g.few.len
    rwa [g.nm, List.length_range] at this
  refine ⟨_, rfl, _, _, 0, _, rfl, rfl, hS2, atI_nat (j := 0) rfl, _, rfl, RgOk.of_le (by omega) (by omega) (by omega) (by omega), fun r hr0 => ?_⟩
  rw [rg_nums]
  have S3 := same_new (H := H2) (p := r) (o := .lst ((List.range c).map nV)) hr0
  refine ⟨.list ((nums true t).map pI), .list ((List.range c).map pI), .lst (.inl (.inl (S3 _ _ hl))) (dp_nums _), .lst (.inl (.inl upd_same)) (dp_nums _), lay_nums _, lay_nums _, depth_nums _, ?_⟩
  rw [eqv_nums]
  exact vT (Q := Q) g.nm (q _ (same_trans S1 (same_trans S2 S3)))
def spWantS (K : PySem.W.Frag) (n : Nat) : Sp := fun vs H Q _ => ∃ a v c t, vs = [.ref a] ∧ SqT K H a [nV c, v] ∧ Rep K H v t ∧ Oks n c t ∧ ∀ H', Same H H' → Q (.ref a) H'
theorem ok_want_scheme (D : Defs K mg) (n : Nat) : FnOk P w K mg base CX0 (2 * n + 9) D.want_scheme.a D.want_scheme.fd ["value"] (spWantS K n) := by
  have G_is_scheme_of_type := ok_is_scheme (P := P) (w := w) (base := base) D n
  have sc := sc_want_scheme
  refine D.want_scheme.F.ok sc (fun vs H Q E h => ?_) (fun cdv A outer s H vs Q E hr h => ?_)
  · obtain ⟨a, v, c, t, rfl, _⟩ := h
    rfl
  obtain ⟨a, v, c, t, rfl, hS, h, g, q⟩ := h
  refine ⟨_, (pss_cons (ps_if (pt_not (pt_val (pcall D.is_scheme_of_type G_is_scheme_of_type (hr.mono (by omega)) (by rfl) (pa_cons (pv 0) pa_nil)))) (pss_one ps_never) pss_nil)
      (pss_one (ps_ret (pv 0)))), ?_⟩
  exact ⟨_, rfl, a, v, c, t, rfl, hS, h, g, fun H1 S1 => ⟨_, rfl, iteF ⟨_, rfl, q H1 S1⟩⟩⟩

/-! ### rows: pairs of a number and a type -/
def RowIs (K : PySem.W.Frag) (H : Hp) (p : Addr) (q : Nat × Ty) : Prop := ∃ v, SqT K H p [nV q.1, v] ∧ Rep K H v q.2
theorem RowIs.mono {H H' : Hp} {p : Addr} {q : Nat × Ty} (e : Tst H H') (h : RowIs K H p q) : RowIs K H' p q := by
  obtain ⟨v, h1, h2⟩ := h
  exact ⟨v, tst_seq e h1, h2.mono e⟩
def RowsAre (K : PySem.W.Frag) (H : Hp) (xs : List V) (r : Told) : Prop := ∃ ps : List Addr, xs = ps.map V.ref ∧ Paired (RowIs K H) ps r
theorem paired_imp {α β : Type} {F G : α → β → Prop} (h : ∀ a b, F a b → G a b) : ∀ {l : List α} {m : List β}, Paired F l m → Paired G l m
  | _, _, .nil => .nil
  | _, _, .cons a b => .cons (h _ _ a) (paired_imp h b)
theorem paired_len {α β : Type} {F : α → β → Prop} : ∀ {l : List α} {m : List β}, Paired F l m → l.length = m.length
  | _, _, .nil => rfl
  | _, _, .cons a b => by rw [List.length_cons, List.length_cons, paired_len b]
theorem paired_at {α β : Type} {F : α → β → Prop} : ∀ {l : List α} {m : List β} {i : Nat} {a : α}, Paired F l m → l[i]? = some a → ∃ b, m[i]? = some b ∧ F a b
  | _, _, i, a, .nil, e => by simp at e
  | _, _, 0, a, .cons h t, e => by simp at e; subst e; exact ⟨_, rfl, h⟩
  | _, _, i + 1, a, .cons h t, e => by
    obtain ⟨b, e1, e2⟩ := paired_at (i := i) t (by simpa using e)
    exact ⟨b, by simpa using e1, e2⟩
theorem RowsAre.mono {H H' : Hp} {xs : List V} {r : Told} (e : Tst H H') (h : RowsAre K H xs r) : RowsAre K H' xs r := by
  obtain ⟨ps, h1, h2⟩ := h
  exact ⟨ps, h1, paired_imp (fun _ _ => RowIs.mono e) h2⟩
theorem RowsAre.len {H : Hp} {xs : List V} {r : Told} (h : RowsAre K H xs r) : xs.length = r.length := by
  obtain ⟨ps, rfl, h2⟩ := h
  rw [List.length_map, paired_len h2]
theorem RowsAre.at {H : Hp} {xs : List V} {r : Told} {i : Nat} {x : V} (h : RowsAre K H xs r) (e : xs[i]? = some x) : ∃ p q, x = .ref p ∧ r[i]? = some q ∧ RowIs K H p q := by
  obtain ⟨ps, rfl, h2⟩ := h
  rw [List.getElem?_map] at e
  obtain ⟨p, ep, rfl⟩ := Option.map_eq_some_iff.mp e
  obtain ⟨q, e1, e2⟩ := paired_at h2 ep
  exact ⟨p, q, rfl, e1, e2⟩
theorem RowsAre.snoc {H : Hp} {xs : List V} {r : Told} {p : Addr} {q : Nat × Ty} (h : RowsAre K H xs r) (g : RowIs K H p q) : RowsAre K H (xs ++ [.ref p]) (r ++ [q]) := by
  obtain ⟨ps, rfl, h2⟩ := h
  exact ⟨ps ++ [p], by rw [List.map_append]; rfl, h2.snoc g⟩
theorem rows_kvs {H : Hp} : ∀ {ps : List Addr} {r : Told}, Paired (RowIs K H) ps r → ∃ kvs : List (Key × V), Paired (fun p kv => SqT K H p [kV kv.1, kv.2]) ps kvs ∧ DictIs K H kvs r
  | _, _, .nil => ⟨[], .nil, DictIs.nil⟩
  | _, (k, t) :: r, .cons ⟨v, h1, h2⟩ b => by
    obtain ⟨kvs, g1, g2, g3⟩ := rows_kvs b
    exact ⟨(kN k, v) :: kvs, .cons h1 g1, by rw [List.map_cons, List.map_cons, g2], .cons h2 g3⟩
theorem merge_nodup : ∀ (more kvs : List (Key × V)), ((kvs ++ more).map (·.1)).Nodup → mergeK kvs more = kvs ++ more
  | [], kvs, _ => by rw [List.append_nil]; rfl
  | p :: more, kvs, h => by
    have hn : valV kvs p.1 = none := by
      rw [List.map_append, List.map_cons, List.nodup_append] at h
      cases e : valV kvs p.1 with
      | none => rfl
      | some x =>
        exfalso
        have : (kvs.any fun kv => decide (kv.1 = p.1)) = true := by rw [valV_any, e]; rfl
        obtain ⟨q, hq, hq2⟩ := List.any_eq_true.mp this
        exact h.2.2 q.1 (List.mem_map_of_mem hq) p.1 List.mem_cons_self (of_decide_eq_true hq2)
    have e : putK kvs p.1 p.2 = kvs ++ [p] := by
      unfold putK
      rw [valV_any, hn]
      rfl
    show mergeK (putK kvs p.1 p.2) more = _
    rw [e, merge_nodup more (kvs ++ [p]) (by rw [List.append_assoc]; exact h), List.append_assoc]
    rfl
theorem keys_kN {H : Hp} {kvs : List (Key × V)} {r : Told} (h : DictIs K H kvs r) (nd : (keys r).Nodup) : (kvs.map (·.1)).Nodup := by
  rw [h.1]
  rw [show r.map (fun p => kN p.1) = (keys r).map kN by unfold keys; rw [List.map_map]; rfl]
  exact List.pairwise_map.mpr (List.Pairwise.imp (fun h e => h (kN_inj e)) nd)
/-- dict(rows) -/
theorem rows_dict {H : Hp} {xs : List V} {r : Told} (h : RowsAre K H xs r) (nd : (keys r).Nodup) : ∃ (ps : List Addr) (kvs : List (Key × V)), xs = ps.map V.ref ∧ Paired (fun p kv => SqT K H p [kV kv.1, kv.2]) ps kvs ∧ ∀ d, H d = none → TolD K (upd H d (.dK (mergeK [] kvs))) d r := by
  obtain ⟨ps, rfl, h2⟩ := h
  obtain ⟨kvs, g1, g2⟩ := rows_kvs h2
  refine ⟨ps, kvs, rfl, g1, fun p hp => ?_⟩
  have e : mergeK [] kvs = kvs := merge_nodup kvs [] (keys_kN g2 nd)
  rw [e]
  exact ⟨kvs, upd_same, g2.mono (tst_same (same_new hp))⟩
/-- a comprehension that lays rows -/
theorem lc_rows {J : It} {n : Nat} {G : Hp → Prop} {Y : Nat → Hp → V → Hp → Prop} (wk : Walk J n G Y) {D : Addr} {σ : L2.St} {vs : List Nat} {g : TG} {te : TE} {H1 : Hp} {Qd : Hp → Prop} {f : Nat → Nat × Ty} (hD : H1 D = none) (hn : n ≤ 1000) (hG : ∀ H, Same H1 H → G H)
    (hs : ∀ (i : Nat) (x : V) (H H' : Hp) (Q : VK) (N : Hp → Prop), i < n → Same H1 H → Y i H x H' → (∀ p H2, Same H H2 → RowIs K H2 p (f i) → Q (.ref p) H2) → g x (wipe σ vs) H' fun σ2 H2 => wipe σ2 vs = wipe σ vs ∧ tYes σ2 H2 fun b H3 => if b = true then te σ2 H3 Q else N H3)
    (hd : ∀ H' xs, Same H1 H' → H' D = some (.lst xs) → RowsAre K H' xs ((List.range n).map f) → Qd H') :
    ∃ W : Nat → Nat → Hp → Prop, (∃ m, W 0 m (upd H1 D (.lst []))) ∧ ∀ i m H, W i m H →
      (J.stop i H ∧ Qd H) ∨ (J.go i H ∧ ∃ Nx : Hp → Prop, (∀ H', Nx H' → ∃ m', m' < m ∧ W (i + 1) m' H') ∧ ∀ x H', J.yld i H x H' → g x (wipe σ vs) H' fun σ2 H2 => wipe σ2 vs = wipe σ vs ∧ tYes σ2 H2 fun b H3 =>
        if b = true then te σ2 H3 fun y H4 => ∃ acc, H4 D = some (.lst acc) ∧ acc.length < sizeLine ∧ Nx (upd H4 D (.lst (acc ++ [y]))) else Nx H3) := by
  refine lc_it wk (fun i H => Same H1 H ∧ ∃ acc, H D = some (.lst acc) ∧ RowsAre K H acc ((List.range i).map f)) ⟨same_new hD, [], upd_same, [], rfl, .nil⟩ (fun i H _ h => hG H h.1) (fun i x H H' hi h y => ?_) fun H h => ?_
  · obtain ⟨S, acc, hA, hR⟩ := h
    refine hs i x H H' _ _ hi S y fun p H2 S2 hp => ?_
    have al := hR.len
    rw [List.length_map, List.length_range] at al
    have T : Tst H2 (upd H2 D (.lst (acc ++ [.ref p]))) := tst_but (but_upd _) (by rw [S2 _ _ hA]; exact notup_lst)
    refine ⟨acc, S2 _ _ hA, by rw [sizeLine_eq]; omega, same_mut (same_trans S S2) hD, acc ++ [.ref p], upd_same, ?_⟩
    rw [List.range_succ, List.map_append]
    exact RowsAre.snoc ((hR.mono (tst_same S2)).mono T) (hp.mono T)
  · obtain ⟨S, acc, hA, hR⟩ := h
    exact hd H acc S hA hR
/-- (number, v): a new row -/
theorem row_new {H : Hp} {p : Addr} {k : Nat} {v : V} {t : Ty} (hp : H p = none) (h : Rep K H v t) : RowIs K (upd H p (.tup [nV k, v])) p (k, t) := ⟨v, .inl (.inl upd_same), h.mono (tst_same (same_new hp))⟩

/-! ### general_of -/
/-- numbers to parameters -/
def parD (ns : List Nat) : Told := (List.range ns.length).map fun i => (ns.getD i 0, .var true i)
theorem parD_keys (ns : List Nat) : keys (parD ns) = ns := by
  unfold keys parD
  rw [List.map_map]
  refine List.ext_getElem? fun i => ?_
  rw [List.getElem?_map]
  by_cases h : i < ns.length
  · rw [List.getElem?_range h, List.getElem?_eq_getElem h]
    simp [h]
  · rw [List.getElem?_eq_none (by rw [List.length_range]; omega), List.getElem?_eq_none (by omega)]
    rfl
def spGenOf (K : PySem.W.Frag) (n : Nat) : Sp := fun vs H Q _ => ∃ v e t, vs = [v, .ref e] ∧ H e = some (.lst []) ∧ Rep K H v t ∧ wf t ∧ Few false t ∧ depth t ≤ n ∧ ∀ a v' H', Same H H' → SqT K H' a [nV (nums false t).length, v'] → Rep K H' v' (put false (lk false (parD (nums false t))) t) → Q (.ref a) H'
theorem ok_general_of (D : Defs K mg) (n : Nat) : FnOk P w K mg base CX0 (n + 3) D.general_of.a D.general_of.fd ["loose", "kept"] (spGenOf K n) := by
  have G_numbers_in := ok_numbers_in (P := P) (w := w) (base := base) D n
  have G_with_unknowns := ok_with_unknowns (P := P) (w := w) (base := base) D n
  have sc := sc_general_of
  refine D.general_of.F.ok sc (fun vs H Q E h => ?_) (fun cdv A outer s H vs Q E hr h => ?_)
  · obtain ⟨v, e, t, rfl, _⟩ := h
    rfl
  obtain ⟨v, e, t, rfl, he, h, hw, hf, hn, q⟩ := h
  refine ⟨_, (pss_cons (ps_setLc (i := 2) (own := [("number", 4)]) rfl sc.nd rfl rfl (sw_true rfl rfl rfl (by decide +kernel)) (pi_list (pcall D.numbers_in G_numbers_in (hr.mono (by omega)) (by rfl) (pa_cons (pv 0) (pa_cons pe_str pa_nil)))) (blkOk_by (own := [("number", 4)]) (N := ["loose", "kept", "some", "params", "number", "at"]) (sc := defScope s_general_of) (by decide +kernel)) (fun _ _ _ _ _ => (pg_name (i := 4) sc.nd rfl (Or.inl rfl))) (fun _ _ _ _ _ => (pts_one (pt_cmpR (show OpR _ _ (rIn K true) from op_notIn_seq) (pv 4) (pv 1) (by rfl)))) (fun _ _ _ _ _ => (pv 4)))
      (pss_cons (ps_set (i := 3) sc.nd rfl (Or.inl rfl) (pe_callTy (call_dictP rfl) (by rfl) D.z_dict (by decide +kernel) (pa_cons (pe_lc (own := [("at", 5), ("number", 4)]) rfl sc.nd (pi_enum (by rfl) D.z_enumerate (pa_cons (pv 2) pa_nil)) (blkOk_by (own := [("at", 5), ("number", 4)]) (N := ["loose", "kept", "some", "params", "number", "at"]) (sc := defScope s_general_of) (by decide +kernel)) (fun _ _ _ _ _ => (show PG _ _ (gTup K 2 (gCons (gName 5) (gCons (gName 4) gNil))) from pg_tup rfl (pgs_cons (pg_name (i := 5) sc.nd rfl (Or.inl rfl)) (pgs_cons (pg_name (i := 4) sc.nd rfl (Or.inl rfl)) pgs_nil)))) (fun _ _ _ _ _ => pts_nil) (fun _ _ _ _ _ => (pe_tup (pa_cons (pv 4) (pa_cons (pe_tup (pa_cons pe_str (pa_cons (pv 5) pa_nil))) pa_nil))))) pa_nil)))
      (pss_one (ps_ret (pe_tup (pa_cons (pe_callB call_len_seq (by rfl) D.z_len (by decide +kernel) (pa_cons (pv 2) pa_nil)) (pa_cons (pcall D.with_unknowns G_with_unknowns (hr.mono (by omega)) (by rfl) (pa_cons (pv 0) (pa_cons (pv 3) pa_nil))) pa_nil))))))), ?_⟩
  refine ⟨_, rfl, v, t, false, rfl, h, hw, hf, hn, fun l H1 S1 hl0 hl => ⟨l, rfl, ⟨_, .inl (.inl hl)⟩, fun D2 hD2 => ?_⟩⟩
  refine lc_filter (acc := []) hD2 hl (.inl (.inl (S1 _ _ he))) hf.len (fun x => rfl) (fun x => rfl) (fun x => rfl) fun H2 S2 h2 => ?_
  have hfl : (nums false t).filter (fun n => !([] : List Nat).contains n) = nums false t := List.filter_eq_self.mpr fun _ _ => rfl
  rw [hfl] at h2
  refine ⟨_, rfl, D2, _, rfl, .inl (.inl h2), fun D3 hD3 => ?_⟩
  refine lc_rows (K := K) (f := fun i => ((nums false t).getD i 0, .var true i)) (walk_enum (xs := (nums false t).map nV)) hD3 (by rw [List.length_map]; exact hf.len) (fun H S => .inl (.inl (S _ _ h2))) (fun i x H' H2' Q2 N hi S y hq => ?_) fun H3 xs S3 h3 hR => ?_
  · obtain ⟨T, x1, y1, rfl, hT, rfl, ex, ey⟩ := y
    have ey : (List.map nV (nums false t))[i]? = some y1 := ey
    rw [List.getElem?_map] at ey
    obtain ⟨k, ek, rfl⟩ := Option.map_eq_some_iff.mp ey
    cases ex
    have ST := same_new (H := H') (p := T) (o := .tup [.int (i : Nat), nV k]) hT
    refine ⟨T, _, rfl, .inl (.inl upd_same), rfl, _, _, rfl, _, _, rfl, rfl, rfl, yes_run ?_⟩
    refine ⟨_, rfl, _, rfl, Nat.le_of_ble_eq_true rfl, fun p hp => ⟨Nat.le_of_ble_eq_true rfl, fun p2 hp2 => ?_⟩⟩
    have Sp := same_new (H := upd H' T (.tup [.int (i : Nat), nV k])) (p := p) (o := .tup [.str "param", nV i]) hp
    have Sp2 := same_new (H := upd (upd H' T (.tup [.int (i : Nat), nV k])) p (.tup [.str "param", nV i])) (p := p2) (o := .tup [nV k, .ref p]) hp2
    refine hq p2 _ (same_trans ST (same_trans Sp Sp2)) ?_
    have : (nums false t).getD i 0 = k := by rw [List.getD_eq_getElem?_getD, ek]; rfl
    rw [this]
    exact row_new hp2 (Rep.mkVar (p := true) (.inl (.inl upd_same)))
  · rw [List.length_map] at hR
    obtain ⟨ps, kvs, rfl, g1, g2⟩ := rows_dict hR (by rw [show (List.range (nums false t).length).map (fun i => ((nums false t).getD i 0, Ty.var true i)) = parD (nums false t) from rfl, parD_keys]; exact nodup_nums t)
    refine ⟨D3, ps, kvs, rfl, .inl (.inl h3), g1, fun d hd0 => ?_⟩
    have hd := g2 d hd0
    have S4 := same_new (H := H3) (p := d) (o := .dK (mergeK [] kvs)) hd0
    have S24 := same_trans S3 S4
    refine ⟨_, rfl, D2, _, rfl, .inl (.inl (.inl (S24 _ _ h2))), ?_⟩
    have S4' := same_trans S1 (same_trans S2 S24)
    refine ⟨_, rfl, _, rfl, v, t, d, _, rfl, h.mono (tst_same S4'), hw, hd, hn, fun u H5 S5 hu => ⟨Nat.le_of_ble_eq_true rfl, fun p hp => ?_⟩⟩
    rw [List.length_map]
    exact q p u _ (same_trans S4' (same_trans S5 (same_new hp))) (.inl (.inl upd_same)) (hu.mono (tst_same (same_new hp)))
def spUnk (K : PySem.W.Frag) (n : Nat) : Sp := fun vs H Q _ => ∃ v t, vs = [v] ∧ Rep K H v t ∧ Okt n t ∧ Few false t ∧ ∀ l H', Same H H' → H l = none → H' l = some (.lst ((nums false t).map nV)) → Q (.ref l) H'
theorem fresh_back {H H' : Hp} (S : Same H H') {l : Addr} (h : H' l = none) : H l = none := by
  cases e : H l with
  | none => rfl
  | some o => rw [S _ _ e] at h; cases h
theorem ok_unknowns_of (D : Defs K mg) (n : Nat) : FnOk P w K mg base CX0 (2 * n + 10) D.unknowns_of.a D.unknowns_of.fd ["loose"] (spUnk K n) := by
  have G_numbers_in := ok_numbers_in (P := P) (w := w) (base := base) D n
  have G_want_loose := ok_want_loose (P := P) (w := w) (base := base) D n
  have sc := sc_unknowns_of
  refine D.unknowns_of.F.ok sc (fun vs H Q E h => ?_) (fun cdv A outer s H vs Q E hr h => ?_)
  · obtain ⟨v, t, rfl, _⟩ := h
    rfl
  obtain ⟨v, t, rfl, h, g, hf, q⟩ := h
  refine ⟨_, (pss_one (ps_ret (pcall D.numbers_in G_numbers_in (hr.mono (by omega)) (by rfl) (pa_cons (pcall D.want_loose G_want_loose (hr.mono (by omega)) (by rfl) (pa_cons (pv 0) pa_nil)) (pa_cons pe_str pa_nil))))), ?_⟩
  exact ⟨_, rfl, v, t, rfl, h, g, fun H1 S1 => ⟨v, t, false, rfl, h.mono (tst_same S1), g.wf, hf, g.dp, fun l H2 S2 hl0 hl => q l H2 (same_trans S1 S2) (fresh_back S1 hl0) hl⟩⟩
def spGen (K : PySem.W.Frag) (n : Nat) : Sp := fun vs H Q _ => ∃ v t, vs = [v] ∧ Rep K H v t ∧ Okt n t ∧ Few false t ∧ ∀ a v' H', Same H H' → SqT K H' a [nV (nums false t).length, v'] → Rep K H' v' (put false (lk false (parD (nums false t))) t) → Q (.ref a) H'
theorem ok_general (D : Defs K mg) (n : Nat) : FnOk P w K mg base CX0 (2 * n + 10) D.general.a D.general.fd ["loose"] (spGen K n) := by
  have G_general_of := ok_general_of (P := P) (w := w) (base := base) D n
  have G_want_loose := ok_want_loose (P := P) (w := w) (base := base) D n
  have sc := sc_general
  refine D.general.F.ok sc (fun vs H Q E h => ?_) (fun cdv A outer s H vs Q E hr h => ?_)
  · obtain ⟨v, t, rfl, _⟩ := h
    rfl
  obtain ⟨v, t, rfl, h, g, hf, q⟩ := h
  refine ⟨_, (pss_one (ps_ret (pcall D.general_of G_general_of (hr.mono (by omega)) (by rfl) (pa_cons (pcall D.want_loose G_want_loose (hr.mono (by omega)) (by rfl) (pa_cons (pv 0) pa_nil)) (pa_cons (pe_lst pa_nil) pa_nil))))), ?_⟩
  refine ⟨_, rfl, v, t, rfl, h, g, fun H1 S1 => ⟨Nat.zero_le _, fun e he => ?_⟩⟩
  have S2 := same_new (H := H1) (p := e) (o := .lst []) he
  exact ⟨v, e, t, rfl, upd_same, h.mono (tst_same (same_trans S1 S2)), g.wf, hf, g.dp, fun a v' H' S' => q a v' H' (same_trans S1 (same_trans S2 S'))⟩
end
end UW

/-! matched, the law's own, is_instance. -/
namespace UW
open PySem PySem.Spec PyProof.Rows L2 U UV UD UX
section
variable {P : Program} {w : World} {K : PySem.W.Frag} {mg : Str → Option Value} {base : Heap}

structure DOk (D : Told) : Prop where
  nd : (keys D).Nodup
  few : ∀ k ∈ keys D, k < 1000
  ok : ∀ q ∈ D, wf q.2 ∧ depth q.2 ≤ 90
theorem DOk.len {D : Told} (h : DOk D) : D.length ≤ 1000 := by
  have := nodup_lt 1000 _ h.nd h.few
  unfold keys at this
  rwa [List.length_map] at this
theorem DOk.nil : DOk [] := ⟨List.nodup_nil, fun _ h => (nomatch h), fun _ h => (nomatch h)⟩
theorem DOk.snoc {D : Told} {k : Nat} {t : Ty} (h : DOk D) (hn : D.lookup k = none) (hk : k < 1000) (hw : wf t) (hd : depth t ≤ 90) : DOk (D ++ [(k, t)]) := by
  refine ⟨?_, fun j hj => ?_, fun q hq => ?_⟩
  · rw [keys_snoc]
    refine List.nodup_append.mpr ⟨h.nd, List.nodup_cons.mpr ⟨by simp, List.nodup_nil⟩, fun a ha b hb => ?_⟩
    rw [List.mem_singleton.mp hb]
    rintro rfl
    exact look_none.mp hn ha
  · rw [keys_snoc] at hj
    rcases List.mem_append.mp hj with hj | hj
    · exact h.few j hj
    · rw [List.mem_singleton.mp hj]; exact hk
  · rcases List.mem_append.mp hq with hq | hq
    · exact h.ok q hq
    · rw [List.mem_singleton.mp hq]; exact ⟨hw, hd⟩
theorem tst_d {H H' : Hp} {d : Addr} {r : Told} (b : But d H H') (h : TolD K H d r) : Tst H H' := by
  obtain ⟨kvs, e, _⟩ := h
  exact tst_but b (by rw [e]; exact notup_dK)
theorem depth_t {t : Ty} (hw : wf t) (hd : depth t ≤ 90) : (tyD t).depth ≤ 190 := by
  have := depth_tyD t hw
  omega
theorem eqv_T (a : Ty) : PyData.eqv (tyD a) (tyD a) = true := by classical rw [eqv_ty, decide_eq_true rfl]
theorem eqv_F {a b : Ty} (h : a ≠ b) : PyData.eqv (tyD a) (tyD b) = false := by classical rw [eqv_ty, decide_eq_false h]
open Classical in
/-- d.setdefault(k, v) == v -/
theorem q_setd {σ : L2.St} {H : Hp} {td ty tx tz : TE} {d : Addr} {D : Told} {k : Nat} {v : V} {t : Ty} {p : Bool} {Q : VK} (h1 : ∀ R : VK, R (.ref d) H → td σ H R) (h2 : ∀ R : VK, R (nV k) H → ty σ H R) (h3 : ∀ (H' : Hp) (R : VK), R v H' → tx σ H' R) (h4 : ∀ (H' : Hp) (R : VK), R v H' → tz σ H' R)
    (hv : Rep K H v t) (hw : wf t) (hd : depth t ≤ 90) (hT : TolD K H d D) (g : DOk D) (hk : k < 1000) (q : ∀ r H' D', But d H H' → TolD K H' d D' → DOk D' → Mt p D [.var p k] [t] r D' → Q (.bl r) H') : tOp (rEqG K) (tDSetd td ty tx) tz σ H Q := by
  obtain ⟨kvs, e, hD⟩ := hT
  refine h1 _ ⟨d, rfl, .inl ⟨kvs, .inl e⟩, h2 _ (h3 _ _ ⟨kvs, kN k, e, rfl, by have := g.len; rw [hD.length, sizeLine_eq]; omega, fun u hu => ?_, fun hn => ?_⟩)⟩
  · cases el : D.lookup k with
    | none => rw [hD.none el] at hu; cases hu
    | some s =>
      obtain ⟨x, e1, e2⟩ := hD.some el
      rw [hu] at e1
      cases e1
      obtain ⟨g1, g2⟩ := g.ok (k, s) (look_mem el)
      refine h4 _ _ ⟨_, _, e2, hv, lay_tyD s, lay_tyD t, depth_t g1 g2, ?_⟩
      rw [eqv_ty]
      exact q _ H D (But.refl _ _) ⟨kvs, e, hD⟩ g (Mt.var_old g.nd el ⟨fun z => of_decide_eq_true z, fun z => decide_eq_true z⟩)
  · cases el : D.lookup k with
    | some s =>
      obtain ⟨x, e1, e2⟩ := hD.some el
      rw [hn] at e1; cases e1
    | none =>
      have B : But d H (upd H d (.dK (putK kvs (kN k) v))) := but_upd _
      have T := tst_d B ⟨kvs, e, hD⟩
      refine h4 _ _ ⟨_, _, hv.mono T, hv.mono T, lay_tyD t, lay_tyD t, depth_t hw hd, ?_⟩
      rw [eqv_ty, decide_eq_true rfl]
      exact q _ _ _ B ⟨_, upd_same, (hD.snoc el hv).mono T⟩ (g.snoc el hk hw hd) (Mt.var_new g.nd el)
/-- the words of two types -/
theorem t_words {σ : L2.St} {H : Hp} {i j : Nat} {v u : V} {a b : Ty} {Q : Bool → Hp → Prop} (hi : σ[i]? = some (some v)) (hj : σ[j]? = some (some u)) (h : Rep K H v a) (g : Rep K H u b) (q : Q (!decide (word a = word b)) H) : tTest (tOp (rNeG K) (tOp (rIxT K) (tVar i) (tC (.int 0))) (tOp (rIxT K) (tVar j) (tC (.int 0)))) σ H Q :=
  q_word hi h (q_word hj g ⟨.str _, .str _, .str _, .str _, lay_word a, lay_word b, Nat.zero_le _, _, rfl, by rw [eqv_str]; exact q⟩)
/-- how many stand within two types -/
theorem t_kids {σ : L2.St} {H : Hp} {i j : Nat} {v u : V} {a b : Ty} {Q : Bool → Hp → Prop} (hi : σ[i]? = some (some v)) (hj : σ[j]? = some (some u)) (h : Rep K H v a) (g : Rep K H u b) (wa : wf a) (wb : wf b) (q : ∀ H', Same H H' → Q (!decide ((kids a).length = (kids b).length)) H') :
    tTest (tOp (rNeG K) (tCB (rLenQ K) (tCons (tCall (spWithin K) [] E0 (tCons (tVar i) tNil)) tNil)) (tCB (rLenQ K) (tCons (tCall (spWithin K) [] E0 (tCons (tVar j) tNil)) tNil))) σ H Q := by
  refine ⟨_, hi, v, a, rfl, h, wa, fun x xs H1 S1 hS hR => ⟨x, xs, rfl, .inr hS, ?_⟩⟩
  refine ⟨_, hj, u, b, rfl, g.mono (tst_same S1), wb, fun y ys H2 S2 hS2 hR2 => ⟨y, ys, rfl, .inr hS2, ?_⟩⟩
  refine ⟨.int _, .int _, .int _, .int _, rfl, rfl, Nat.zero_le _, _, rfl, ?_⟩
  rw [eqv_int]
  have := q H2 (same_trans S1 S2)
  have e : decide ((xs.length : Int) = (ys.length : Int)) = decide ((kids a).length = (kids b).length) := by
    rw [hR.length, hR2.length]
    exact decide_eq_decide.mpr ⟨fun z => by omega, fun z => by omega⟩
  rw [e]
  exact this
/-- t[1] of two data -/
theorem t_names {σ : L2.St} {H : Hp} {i j : Nat} {v u : V} {n m : Nm} {as bs : List Ty} {Q : Bool → Hp → Prop} (hi : σ[i]? = some (some v)) (hj : σ[j]? = some (some u)) (h : Rep K H v (.node (.data n) as)) (g : Rep K H u (.node (.data m) bs)) (q : Q (!decide (n = m)) H) :
    tTest (tOp (rNeG K) (tOp (rIxT K) (tVar i) (tC (.int 1))) (tOp (rIxT K) (tVar j) (tC (.int 1)))) σ H Q := by
  obtain ⟨a, b, vs, rfl, hS, _, _⟩ := h.dat
  obtain ⟨a2, b2, vs2, rfl, hS2, _, _⟩ := g.dat
  refine ⟨_, hi, _, _, 1, _, rfl, rfl, hS, atI_nat (j := 1) rfl, _, hj, _, _, 1, _, rfl, rfl, hS2, atI_nat (j := 1) rfl, .str _, .str _, .str _, .str _, lay_nm n, lay_nm m, Nat.zero_le _, _, rfl, ?_⟩
  rw [eqv_str]
  have e : decide (nmW n = nmW m) = decide (n = m) := decide_eq_decide.mpr ⟨nmW_inj, fun z => by rw [z]⟩
  rw [e]
  exact q
/-- what two types are whose words are one -/
theorem words_eq {a b : Ty} (h : word a = word b) : (∃ p k j, a = .var p k ∧ b = .var p j) ∨ (∃ l as bs, a = .node l as ∧ b = .node l bs ∧ ∀ n, l ≠ .data n) ∨ ∃ n m as bs, a = .node (.data n) as ∧ b = .node (.data m) bs := by
  cases a with
  | var p k =>
    cases b with
    | var q j => have := varW_inj (p := p) (q := q) h; subst this; exact .inl ⟨p, k, j, rfl, rfl⟩
    | node l bs => exact absurd h varW_labW
  | node l as =>
    cases b with
    | var q j => exact absurd h.symm varW_labW
    | node m bs =>
      rcases labW_inj h with e | ⟨n, k, e1, e2⟩
      · subst e
        cases l with
        | data n => exact .inr (.inr ⟨n, n, as, bs, rfl, rfl⟩)
        | fn => exact .inr (.inl ⟨_, as, bs, rfl, rfl, fun n z => nomatch z⟩)
        | tup => exact .inr (.inl ⟨_, as, bs, rfl, rfl, fun n z => nomatch z⟩)
        | plain p => exact .inr (.inl ⟨_, as, bs, rfl, rfl, fun n z => nomatch z⟩)
        | one p => exact .inr (.inl ⟨_, as, bs, rfl, rfl, fun n z => nomatch z⟩)
      · subst e1 e2
        exact .inr (.inr ⟨n, k, as, bs, rfl, rfl⟩)
theorem word_data {a : Ty} (h : word a = "data") : ∃ n as, a = .node (.data n) as := is_data h
theorem but_mut {H H' : Hp} {d p : Addr} {o : HO} (e : But d H H') (h : H p = none) : But d H (upd H' p o) := fun b u n q => by rw [upd_ne (ne_of_none q h)]; exact e b u n q
def spMatch (K : PySem.W.Frag) (n : Nat) : Sp := fun vs H Q _ => ∃ v u a b p d D, vs = [v, u, .str (varW p), .ref d] ∧ Rep K H v a ∧ Rep K H u b ∧ wf a ∧ wf b ∧ Few p a ∧ depth a ≤ n ∧ depth b ≤ 90 ∧ depth a ≤ 90 ∧ TolD K H d D ∧ DOk D ∧ ∀ r H' D', But d H H' → TolD K H' d D' → DOk D' → Mt p D [a] [b] r D' → Q (.bl r) H'
theorem ok_matched (D : Defs K mg) : ∀ n, FnOk P w K mg base CX0 (n + 1 + 1) D.matched.a D.matched.fd ["one", "other", "word", "found"] (spMatch K n) := by
  have G_loose_within := ok_loose_within (P := P) (w := w) (base := base) D
  refine fn_rec (fun n vs H Q E h => ?_) fun n G_matched => ?_
  · obtain ⟨v, u, a, b, p, d, D, rfl, _⟩ := h
    rfl
  have sc := sc_matched
  refine D.matched.F.ok sc (fun vs H Q E h => ?_) (fun cdv A outer s H vs Q E hr h => ?_)
  · obtain ⟨v, u, a, b, p, d, D, rfl, _⟩ := h
    rfl
  obtain ⟨v, u, a, b, p, d, DD, rfl, h, g, wa, wb, hf, hn, hb, ha, hT, hD, q⟩ := h
  refine ⟨_, (pss_cons (ps_if (pt_cmpR (op_eqG (room_eq hr)) (pe_ix ix_tup (pv 0) pe_int (fun _ _ => rfl)) (pv 2) (nomark _)) (pss_one (ps_ret (pe_cmpR (op_eqG (room_eq hr)) (pe_dsetd (pv 3) (pe_ix ix_tup (pv 0) pe_int (fun _ _ => rfl)) (pv 1) ⟨rfl, rfl, rfl, rfl⟩) (pv 1) (nomark _)))) pss_nil)
      (pss_cons (ps_if (PW.pt (pw_or (pt_cmpR (op_neG (room_eq hr)) (pe_ix ix_tup (pv 0) pe_int (fun _ _ => rfl)) (pe_ix ix_tup (pv 1) pe_int (fun _ _ => rfl)) (nomark _)) (pw_or1 (pt_cmpR (op_neG (room_eq hr)) (pe_callB call_len_seq (by rfl) D.z_len (by decide +kernel) (pa_cons (pcall D.loose_within G_loose_within (hr.mono (by omega)) (by rfl) (pa_cons (pv 0) pa_nil)) pa_nil)) (pe_callB call_len_seq (by rfl) D.z_len (by decide +kernel) (pa_cons (pcall D.loose_within G_loose_within (hr.mono (by omega)) (by rfl) (pa_cons (pv 1) pa_nil)) pa_nil)) (nomark _))))) (pss_one (ps_ret pe_bl)) pss_nil)
      (pss_cons (ps_if (PW.pt (pw_or (PW.pt (pw_and (pt_cmpR (op_eqG (room_eq hr)) (pe_ix ix_tup (pv 0) pe_int (fun _ _ => rfl)) pe_str (nomark _)) (pw_and1 (pt_cmpR (op_neG (room_eq hr)) (pe_ix ix_tup (pv 0) pe_int (fun _ _ => rfl)) (pe_ix ix_tup (pv 1) pe_int (fun _ _ => rfl)) (nomark _))))) (pw_or1 (PW.pt (pw_and (pt_cmpR op_in_seq (pe_ix ix_tup (pv 0) pe_int (fun _ _ => rfl)) (pe_tup (pa_cons pe_str (pa_cons pe_str pa_nil))) (by rfl)) (pw_and1 (pt_cmpR (op_neG (room_eq hr)) (pv 0) (pv 1) (nomark _)))))))) (pss_one (ps_ret pe_bl)) pss_nil)
      (pss_one (ps_ret (pe_callB (cr_all rfl) (by rfl) D.z_all (by decide +kernel) (pa_cons (pe_lc (own := [("near", 4), ("far", 5)]) rfl sc.nd (RZ.pi_zipA (by rfl) D.z_zip (pa_cons (pcall D.loose_within G_loose_within (hr.mono (by omega)) (by rfl) (pa_cons (pv 0) pa_nil)) (pa_cons (pcall D.loose_within G_loose_within (hr.mono (by omega)) (by rfl) (pa_cons (pv 1) pa_nil)) pa_nil))) (blkOk_by (own := [("near", 4), ("far", 5)]) (N := ["one", "other", "word", "found", "near", "far"]) (sc := defScope s_matched) (by decide +kernel)) (fun _ _ _ _ _ => (show PG _ _ (gTup K 2 (gCons (gName 4) (gCons (gName 5) gNil))) from pg_tup rfl (pgs_cons (pg_name (i := 4) sc.nd rfl (Or.inl rfl)) (pgs_cons (pg_name (i := 5) sc.nd rfl (Or.inl rfl)) pgs_nil)))) (fun _ _ _ _ _ => pts_nil) (fun _ _ _ _ _ => (pcall D.matched G_matched (hr.mono (by omega)) (by rfl) (pa_cons (pv 4) (pa_cons (pv 5) (pa_cons (pv 2) (pa_cons (pv 3) pa_nil))))))) pa_nil))))))), ?_⟩
  have tst : ∀ Q : Bool → Hp → Prop, Q (decide (word a = varW p)) H → tTest (tOp (rEqG K) (tOp (rIxT K) (tVar 0) (tC (.int 0))) (tVar 2)) (start ["one", "other", "word", "found", "near", "far"] [v, u, .str (varW p), .ref d]) H Q := fun Q q =>
    q_word rfl h ⟨_, rfl, .str _, .str _, .str _, .str _, lay_word a, l_var p, Nat.zero_le _, _, rfl, by rw [eqv_str]; exact q⟩
  refine tst _ ?_
  by_cases e1 : word a = varW p
  · refine iteB1 (decide_eq_true e1) ?_
    obtain ⟨k, rfl⟩ := is_var e1
    obtain ⟨a2, rfl, hS⟩ := h.var
    exact q_setd (fun R r => ⟨_, rfl, r⟩) (fun R r => ⟨_, rfl, _, _, 1, _, rfl, rfl, hS, atI_nat (j := 1) rfl, r⟩) (fun H' R r => ⟨_, rfl, r⟩) (fun H' R r => ⟨_, rfl, r⟩) g wb hb hT hD (hf k (occ_var.mpr ⟨rfl, rfl⟩)) q
  refine iteB0 (decide_eq_false e1) ?_
  refine t_words rfl rfl h g ?_
  have np : ∀ p2 k, a = .var p2 k → p2 ≠ p := fun p2 k z z2 => e1 (by rw [z, z2]; rfl)
  by_cases e2 : word a = word b
  · refine iteB0 (notT e2) ?_
    refine t_kids rfl rfl h g wa wb fun H1 S1 => ?_
    have h1 := h.mono (tst_same S1)
    have g1 := g.mono (tst_same S1)
    have B1 := but_same (d := d) S1
    by_cases e3 : (kids a).length = (kids b).length
    · refine iteB0 (notT e3) ?_
      have third : ∀ Qt : Bool → Hp → Prop, (∀ H2, Same H1 H2 → (∀ r D2, Mt p DD (kids a) (kids b) r D2 → Mt p DD [a] [b] r D2) → Qt false H2) → (∀ H2, Same H1 H2 → Mt p DD [a] [b] false DD → Qt true H2) →
          tOr (tAnd (tTest (tOp (rEqG K) (tOp (rIxT K) (tVar 0) (tC (.int 0))) (tC (.str "data")))) (tTest (tOp (rNeG K) (tOp (rIxT K) (tVar 0) (tC (.int 1))) (tOp (rIxT K) (tVar 1) (tC (.int 1))))))
            (tAnd (tTest (tOp (rIn K false) (tOp (rIxT K) (tVar 0) (tC (.int 0))) (tTup (tCons (tC (.str "unknown")) (tCons (tC (.str "param")) tNil))))) (tTest (tOp (rNeG K) (tVar 0) (tVar 1)))) (start ["one", "other", "word", "found", "near", "far"] [v, u, .str (varW p), .ref d]) H1 Qt := by
        intro Qt qF qT
        rcases words_eq e2 with ⟨p2, k, j, rfl, rfl⟩ | ⟨l, as, bs, rfl, rfl, hl⟩ | ⟨n1, m1, as, bs, rfl, rfl⟩
        · refine t_wordF rfl h1 l_data ((by decide +kernel : ∀ p : Bool, varW p ≠ "data") p2) ?_
          refine iteF (iteF ?_)
          refine t_wordT2 rfl h1 (fun _ r => r) rfl (Nat.le_of_ble_eq_true rfl) fun H2 S2 => ?_
          refine iteB1 ((by decide +kernel : ∀ p : Bool, inV (.str (varW p)) [.str "unknown", .str "param"] = true) p2) ?_
          refine ⟨_, rfl, _, rfl, _, _, h1.mono (tst_same S2), g1.mono (tst_same S2), lay_tyD _, lay_tyD _, depth_t wa ha, _, rfl, ?_⟩
          by_cases ek : k = j
          · subst ek
            rw [eqv_T]
            refine qF H2 S2 fun r D2 m => ?_
            have e : put p (fun _ => Ty.var false 0) (.var p2 k) = .var p2 k := put_other _ _ (np p2 k rfl)
            refine ⟨m.nd, fun er ρ => ?_, fun er ρ z => absurd rfl (m.no er ρ z)⟩
            rw [m.yes er ρ]
            refine and_congr_right fun _ => ⟨fun _ => ?_, fun _ => rfl⟩
            rw [List.map_cons, List.map_nil, put_other _ _ (np p2 k rfl)]
          · rw [eqv_F fun z => ek (by injection z)]
            exact qT H2 S2 (Mt.other hD.nd (np p2 k rfl) ⟨fun z => (nomatch z), fun z => absurd (by injection z) ek⟩)
        · have nd : word (.node l as) ≠ "data" := fun z => by
            obtain ⟨n2, as2, z⟩ := is_data z
            injection z with z _
            exact hl n2 z
          refine t_wordF rfl h1 l_data nd ?_
          refine iteF (iteF ?_)
          refine t_wordT2 rfl h1 (fun _ r => r) rfl (Nat.le_of_ble_eq_true rfl) fun H2 S2 => ?_
          have no : inV (.str (word (.node l as))) [.str "unknown", .str "param"] = false := by
            unfold inV
            simp only [List.any_cons, List.any_nil, Bool.or_false, Bool.or_eq_false_iff]
            exact ⟨beq_no (varW_labW (p := false)), beq_no (varW_labW (p := true))⟩
          rw [no]
          exact iteF (qF H2 S2 fun r D2 m => Mt.node m)
        · refine t_wordT rfl h1 l_data rfl ?_
          refine iteT ?_
          refine t_names rfl rfl h1 g1 ?_
          by_cases en : n1 = m1
          · subst en
            refine iteB0 (notT rfl) ?_
            refine t_wordT2 rfl h1 (fun _ r => r) rfl (Nat.le_of_ble_eq_true rfl) fun H2 S2 => ?_
            rw [show inV (.str (word (.node (.data n1) as))) [.str "unknown", .str "param"] = false from (by decide +kernel : inV (.str (labW (.data .list))) [.str "unknown", .str "param"] = false)]
            exact iteF (qF H2 S2 fun r D2 m => Mt.node m)
          · refine iteB1 (notF en) ?_
            exact qT H1 (fun _ _ z => z) (Mt.node_no hD.nd fun bs' hl z => by injection z with z _; injection z with z; exact en z.symm)
      refine third _ (fun H2 S2 up => ?_) fun H2 S2 no => ?_
      · refine iteF ?_
        have S02 := same_trans S1 S2
        refine ⟨_, rfl, v, a, rfl, h.mono (tst_same S02), wa, fun x xs H3 S3 hx hR => ⟨_, rfl, u, b, rfl, g.mono (tst_same (same_trans S02 S3)), wb, fun y ys H4 S4 hy hR2 => ⟨x, y, xs, ys, rfl, .inr ⟨tst_seq (tst_same S4) hx, hy, fun D2 hD2 => ?_⟩⟩⟩⟩
        have S04 := same_trans S02 (same_trans S3 S4)
        have hx4 := tst_seq (tst_same S4) hx
        have hR4 := hR.mono (tst_same S4)
        have len1 := hR.length
        have len2 := hR2.length
        have T4 := hT.same S04
        refine lc_it (UR.walk_zipT len1 (by rw [len2, e3])) (fun i H' => But d H4 H' ∧ ∃ rs Di, H' D2 = some (.lst (rs.map V.bl)) ∧ rs.length = i ∧ TolD K H' d Di ∧ DOk Di ∧ Mt p DD ((kids a).take i) ((kids b).take i) (rs.all id) Di) ⟨but_same (same_new hD2), [], DD, upd_same, rfl, T4.same (same_new hD2), hD, Mt.nil hD.nd⟩ (fun i H' _ hh => ?_) (fun i z H' H'' hi hh y2 => ?_) fun H' hh => ?_
        · have T := tst_d hh.1 T4
          exact ⟨tst_seq T hx4, tst_seq T hy⟩
        · obtain ⟨B, rs, Di, hL, hlen, hTi, hDi, m⟩ := hh
          obtain ⟨T, x1, y1, rfl, hT0, rfl, ex, ey⟩ := y2
          have TT := tst_d B T4
          obtain ⟨ka, eka, hka⟩ := hR4.at ex
          obtain ⟨kb, ekb, hkb⟩ := hR2.at ey
          have ST := same_new (H := H') (p := T) (o := .tup [x1, y1]) hT0
          have ma : ka ∈ kids a := List.mem_of_getElem? eka
          have mb : kb ∈ kids b := List.mem_of_getElem? ekb
          refine ⟨T, _, rfl, .inl (.inl upd_same), rfl, _, _, rfl, _, _, rfl, rfl, rfl, yes_run ?_⟩
          refine ⟨_, rfl, _, rfl, _, rfl, _, rfl, n - 1, by have := kids_depth ma; omega, x1, y1, ka, kb, p, d, Di, rfl, (hka.mono TT).mono (tst_same ST), (hkb.mono TT).mono (tst_same ST), kids_ok wa ma, kids_ok wb mb, hf.kid ma, by have := kids_depth ma; omega, by have := kids_depth mb; omega, by have := kids_depth ma; omega, hTi.same ST, hDi, fun r H5 D5 B5 hT5 hD5 m5 => ?_⟩
          have ne : D2 ≠ d := fun z => by
            obtain ⟨kvs, e, _⟩ := T4
            rw [z, e] at hD2; cases hD2
          have hL5 : H5 D2 = some (.lst (rs.map V.bl)) := B5 _ _ ne (ST _ _ hL)
          refine ⟨_, hL5, ?_, but_mut ((B.trans (but_same ST)).trans B5) hD2, rs ++ [r], D5, by rw [upd_same, List.map_append]; rfl, by rw [List.length_append, hlen]; rfl, ?_, hD5, ?_⟩
          · have := kids_len wa
            rw [List.length_map, hlen, sizeLine_eq]; omega
          · obtain ⟨kvs, e5, h5⟩ := hT5
            exact ⟨kvs, by rw [upd_ne (Ne.symm ne)]; exact e5, h5.mono (tst_but (but_upd _) (by rw [hL5]; exact notup_lst))⟩
          · have tk1 : (kids a).take (i + 1) = (kids a).take i ++ [ka] := by rw [List.take_add_one, eka]; rfl
            have tk2 : (kids b).take (i + 1) = (kids b).take i ++ [kb] := by rw [List.take_add_one, ekb]; rfl
            rw [tk1, tk2, List.all_append]
            have := Mt.snoc m m5 (by rw [List.length_take, List.length_take, e3])
            simpa using this
        · obtain ⟨B, rs, Di, hL, hlen, hTi, hDi, m⟩ := hh
          refine ⟨D2, rs, rfl, .inl (.inl hL), ?_⟩
          rw [List.take_length, show (kids b).take (kids a).length = kids b by rw [e3, List.take_length]] at m
          exact q _ H' Di ((but_same S04).trans B) hTi hDi (up _ _ m)
      · refine iteT ?_
        exact q false H2 DD (but_same (same_trans S1 S2)) (hT.same (same_trans S1 S2)) hD no
    · refine iteB1 (notF e3) ?_
      refine q false H1 DD B1 (hT.same S1) hD ?_
      rcases words_eq e2 with ⟨p2, k, j, rfl, rfl⟩ | ⟨l, as, bs, rfl, rfl, _⟩ | ⟨n, m, as, bs, rfl, rfl⟩
      · exact absurd rfl e3
      · exact Mt.node_no hD.nd fun bs' hl z => by injection z with _ z; subst z; exact e3 hl.symm
      · exact Mt.node_no hD.nd fun bs' hl z => by injection z with _ z; subst z; exact e3 hl.symm
  · refine iteB1 (notF e2) ?_
    refine q false H DD (But.refl _ _) hT hD ?_
    cases a with
    | var p2 k => exact Mt.other hD.nd (np p2 k rfl) ⟨fun z => (nomatch z), fun z => absurd (by rw [z]) e2⟩
    | node l as => exact Mt.node_no hD.nd fun bs _ z => e2 (by rw [z]; rfl)
end
end UW

/-! The law's own matching; is_instance. -/
namespace UW
open PySem PySem.Spec PyProof.Rows L2 U UV UD UX
section
variable {P : Program} {w : World} {K : PySem.W.Frag} {mg : Str → Option Value} {base : Heap}

def spLMatch (K : PySem.W.Frag) (n : Nat) : Sp := fun vs H Q _ => ∃ v u a b d D, vs = [v, u, .ref d] ∧ Rep K H v a ∧ Rep K H u b ∧ wf a ∧ wf b ∧ Only true a ∧ Few true a ∧ depth a ≤ n ∧ depth b ≤ 90 ∧ depth a ≤ 90 ∧ TolD K H d D ∧ DOk D ∧ ∀ r H' D', But d H H' → TolD K H' d D' → DOk D' → Mt true D [a] [b] r D' → Q (.bl r) H'
theorem ok_law_matched (D : Defs K mg) : ∀ n, FnOk P w K mg base CX0 (n + 1 + 1) D.law_matched.a D.law_matched.fd ["_law_near", "_law_far", "_law_some"] (spLMatch K n) := by
  have G_law_within := ok_law_within (P := P) (w := w) (base := base) D
  refine fn_rec (fun n vs H Q E h => ?_) fun n G_law_matched => ?_
  · obtain ⟨v, u, a, b, d, D, rfl, _⟩ := h
    rfl
  have sc := sc_law_matched
  refine D.law_matched.F.ok sc (fun vs H Q E h => ?_) (fun cdv A outer s H vs Q E hr h => ?_)
  · obtain ⟨v, u, a, b, d, D, rfl, _⟩ := h
    rfl
  obtain ⟨v, u, a, b, d, DD, rfl, h, g, wa, wb, ho, hf, hn, hb, ha, hT, hD, q⟩ := h
  refine ⟨_, (pss_cons (ps_if (pt_cmpR (op_eqG (room_eq hr)) (pe_ix ix_tup (pv 0) pe_int (fun _ _ => rfl)) pe_str (nomark _)) (pss_one (ps_ret (pe_cmpR (op_eqG (room_eq hr)) (pe_dsetd (pv 2) (pe_ix ix_tup (pv 0) pe_int (fun _ _ => rfl)) (pv 1) ⟨rfl, rfl, rfl, rfl⟩) (pv 1) (nomark _)))) pss_nil)
      (pss_cons (ps_if (PW.pt (pw_or (pt_cmpR (op_neG (room_eq hr)) (pe_ix ix_tup (pv 0) pe_int (fun _ _ => rfl)) (pe_ix ix_tup (pv 1) pe_int (fun _ _ => rfl)) (nomark _)) (pw_or1 (pt_cmpR (op_neG (room_eq hr)) (pe_callB call_len_seq (by rfl) D.z_len (by decide +kernel) (pa_cons (pcall D.law_within G_law_within (hr.mono (by omega)) (by rfl) (pa_cons (pv 0) pa_nil)) pa_nil)) (pe_callB call_len_seq (by rfl) D.z_len (by decide +kernel) (pa_cons (pcall D.law_within G_law_within (hr.mono (by omega)) (by rfl) (pa_cons (pv 1) pa_nil)) pa_nil)) (nomark _))))) (pss_one (ps_ret pe_bl)) pss_nil)
      (pss_cons (ps_if (PW.pt (pw_and (pt_cmpR (op_eqG (room_eq hr)) (pe_ix ix_tup (pv 0) pe_int (fun _ _ => rfl)) pe_str (nomark _)) (pw_and1 (pt_cmpR (op_neG (room_eq hr)) (pe_ix ix_tup (pv 0) pe_int (fun _ _ => rfl)) (pe_ix ix_tup (pv 1) pe_int (fun _ _ => rfl)) (nomark _))))) (pss_one (ps_ret pe_bl)) pss_nil)
      (pss_one (ps_ret (pe_callB (cr_all rfl) (by rfl) D.z_all (by decide +kernel) (pa_cons (pe_lc (own := [("_law_one", 3), ("_law_late", 4)]) rfl sc.nd (RZ.pi_zipA (by rfl) D.z_zip (pa_cons (pcall D.law_within G_law_within (hr.mono (by omega)) (by rfl) (pa_cons (pv 0) pa_nil)) (pa_cons (pcall D.law_within G_law_within (hr.mono (by omega)) (by rfl) (pa_cons (pv 1) pa_nil)) pa_nil))) (blkOk_by (own := [("_law_one", 3), ("_law_late", 4)]) (N := ["_law_near", "_law_far", "_law_some", "_law_one", "_law_late"]) (sc := defScope s_law_matched) (by decide +kernel)) (fun _ _ _ _ _ => (show PG _ _ (gTup K 2 (gCons (gName 3) (gCons (gName 4) gNil))) from pg_tup rfl (pgs_cons (pg_name (i := 3) sc.nd rfl (Or.inl rfl)) (pgs_cons (pg_name (i := 4) sc.nd rfl (Or.inl rfl)) pgs_nil)))) (fun _ _ _ _ _ => pts_nil) (fun _ _ _ _ _ => (pcall D.law_matched G_law_matched (hr.mono (by omega)) (by rfl) (pa_cons (pv 3) (pa_cons (pv 4) (pa_cons (pv 2) pa_nil)))))) pa_nil))))))), ?_⟩
  by_cases e1 : word a = "param"
  · refine t_wordT rfl h l_param e1 ?_
    refine iteT ?_
    obtain ⟨k, rfl⟩ := is_var (p := true) e1
    obtain ⟨a2, rfl, hS⟩ := h.var
    exact q_setd (fun R r => ⟨_, rfl, r⟩) (fun R r => ⟨_, rfl, _, _, 1, _, rfl, rfl, hS, atI_nat (j := 1) rfl, r⟩) (fun H' R r => ⟨_, rfl, r⟩) (fun H' R r => ⟨_, rfl, r⟩) g wb hb hT hD (hf k (occ_var.mpr ⟨rfl, rfl⟩)) q
  refine t_wordF rfl h l_param e1 ?_
  refine iteF ?_
  refine t_words rfl rfl h g ?_
  have nv : ∀ p2 k, a ≠ .var p2 k := fun p2 k z => by
    subst z
    cases p2 with
    | true => exact e1 rfl
    | false => exact ho k (occ_var.mpr ⟨rfl, rfl⟩)
  by_cases e2 : word a = word b
  · refine iteB0 (notT e2) ?_
    refine t_kids rfl rfl h g wa wb fun H1 S1 => ?_
    have h1 := h.mono (tst_same S1)
    have g1 := g.mono (tst_same S1)
    by_cases e3 : (kids a).length = (kids b).length
    · refine iteB0 (notT e3) ?_
      have third : ∀ Qt : Bool → Hp → Prop, ((∀ r D2, Mt true DD (kids a) (kids b) r D2 → Mt true DD [a] [b] r D2) → Qt false H1) → (Mt true DD [a] [b] false DD → Qt true H1) →
          tAnd (tTest (tOp (rEqG K) (tOp (rIxT K) (tVar 0) (tC (.int 0))) (tC (.str "data")))) (tTest (tOp (rNeG K) (tOp (rIxT K) (tVar 0) (tC (.int 1))) (tOp (rIxT K) (tVar 1) (tC (.int 1))))) (start ["_law_near", "_law_far", "_law_some", "_law_one", "_law_late"] [v, u, .ref d]) H1 Qt := by
        intro Qt qF qT
        rcases words_eq e2 with ⟨p2, k, j, rfl, rfl⟩ | ⟨l, as, bs, rfl, rfl, hl⟩ | ⟨n1, m1, as, bs, rfl, rfl⟩
        · exact absurd rfl (nv p2 k)
        · have nd : word (.node l as) ≠ "data" := fun z => by
            obtain ⟨n2, as2, z⟩ := is_data z
            injection z with z _
            exact hl n2 z
          refine t_wordF rfl h1 l_data nd ?_
          exact iteF (qF fun r D2 m => Mt.node m)
        · refine t_wordT rfl h1 l_data rfl ?_
          refine iteT ?_
          refine t_names rfl rfl h1 g1 ?_
          by_cases en : n1 = m1
          · subst en
            rw [notT rfl]
            exact qF fun r D2 m => Mt.node m
          · rw [notF en]
            exact qT (Mt.node_no hD.nd fun bs' hl z => by injection z with z _; injection z with z; exact en z.symm)
      refine third _ (fun up => ?_) fun no => ?_
      · refine iteF ?_
        refine ⟨_, rfl, v, a, rfl, h1, wa, fun x xs H3 S3 hx hR => ⟨_, rfl, u, b, rfl, g1.mono (tst_same S3), wb, fun y ys H4 S4 hy hR2 => ⟨x, y, xs, ys, rfl, .inr ⟨tst_seq (tst_same S4) hx, hy, fun D2 hD2 => ?_⟩⟩⟩⟩
        have S04 := same_trans S1 (same_trans S3 S4)
        have hx4 := tst_seq (tst_same S4) hx
        have hR4 := hR.mono (tst_same S4)
        have len1 := hR.length
        have len2 := hR2.length
        have T4 := hT.same S04
        refine lc_it (UR.walk_zipT len1 (by rw [len2, e3])) (fun i H' => But d H4 H' ∧ ∃ rs Di, H' D2 = some (.lst (rs.map V.bl)) ∧ rs.length = i ∧ TolD K H' d Di ∧ DOk Di ∧ Mt true DD ((kids a).take i) ((kids b).take i) (rs.all id) Di) ⟨but_same (same_new hD2), [], DD, upd_same, rfl, T4.same (same_new hD2), hD, Mt.nil hD.nd⟩ (fun i H' _ hh => ?_) (fun i z H' H'' hi hh y2 => ?_) fun H' hh => ?_
        · have T := tst_d hh.1 T4
          exact ⟨tst_seq T hx4, tst_seq T hy⟩
        · obtain ⟨B, rs, Di, hL, hlen, hTi, hDi, m⟩ := hh
          obtain ⟨T, x1, y1, rfl, hT0, rfl, ex, ey⟩ := y2
          have TT := tst_d B T4
          obtain ⟨ka, eka, hka⟩ := hR4.at ex
          obtain ⟨kb, ekb, hkb⟩ := hR2.at ey
          have ST := same_new (H := H') (p := T) (o := .tup [x1, y1]) hT0
          have ma : ka ∈ kids a := List.mem_of_getElem? eka
          have mb : kb ∈ kids b := List.mem_of_getElem? ekb
          refine ⟨T, _, rfl, .inl (.inl upd_same), rfl, _, _, rfl, _, _, rfl, rfl, rfl, yes_run ?_⟩
          refine ⟨_, rfl, _, rfl, _, rfl, n - 1, by have := kids_depth ma; omega, x1, y1, ka, kb, d, Di, rfl, (hka.mono TT).mono (tst_same ST), (hkb.mono TT).mono (tst_same ST), kids_ok wa ma, kids_ok wb mb, ho.kid ma, hf.kid ma, by have := kids_depth ma; omega, by have := kids_depth mb; omega, by have := kids_depth ma; omega, hTi.same ST, hDi, fun r H5 D5 B5 hT5 hD5 m5 => ?_⟩
          have ne : D2 ≠ d := fun z => by
            obtain ⟨kvs, e, _⟩ := T4
            rw [z, e] at hD2; cases hD2
          have hL5 : H5 D2 = some (.lst (rs.map V.bl)) := B5 _ _ ne (ST _ _ hL)
          refine ⟨_, hL5, ?_, but_mut ((B.trans (but_same ST)).trans B5) hD2, rs ++ [r], D5, by rw [upd_same, List.map_append]; rfl, by rw [List.length_append, hlen]; rfl, ?_, hD5, ?_⟩
          · have := kids_len wa
            rw [List.length_map, hlen, sizeLine_eq]; omega
          · obtain ⟨kvs, e5, h5⟩ := hT5
            exact ⟨kvs, by rw [upd_ne (Ne.symm ne)]; exact e5, h5.mono (tst_but (but_upd _) (by rw [hL5]; exact notup_lst))⟩
          · have tk1 : (kids a).take (i + 1) = (kids a).take i ++ [ka] := by rw [List.take_add_one, eka]; rfl
            have tk2 : (kids b).take (i + 1) = (kids b).take i ++ [kb] := by rw [List.take_add_one, ekb]; rfl
            rw [tk1, tk2, List.all_append]
            have := Mt.snoc m m5 (by rw [List.length_take, List.length_take, e3])
            simpa using this
        · obtain ⟨B, rs, Di, hL, hlen, hTi, hDi, m⟩ := hh
          refine ⟨D2, rs, rfl, .inl (.inl hL), ?_⟩
          rw [List.take_length, show (kids b).take (kids a).length = kids b by rw [e3, List.take_length]] at m
          exact q _ H' Di ((but_same S04).trans B) hTi hDi (up _ _ m)
      · refine iteT ?_
        exact q false H1 DD (but_same S1) (hT.same S1) hD no
    · refine iteB1 (notF e3) ?_
      refine q false H1 DD (but_same S1) (hT.same S1) hD ?_
      rcases words_eq e2 with ⟨p2, k, j, rfl, rfl⟩ | ⟨l, as, bs, rfl, rfl, _⟩ | ⟨n, m, as, bs, rfl, rfl⟩
      · exact absurd rfl e3
      · exact Mt.node_no hD.nd fun bs' hl z => by injection z with _ z; subst z; exact e3 hl.symm
      · exact Mt.node_no hD.nd fun bs' hl z => by injection z with _ z; subst z; exact e3 hl.symm
  · refine iteB1 (notF e2) ?_
    refine q false H DD (But.refl _ _) hT hD ?_
    cases a with
    | var p2 k => exact absurd rfl (nv p2 k)
    | node l as => exact Mt.node_no hD.nd fun bs _ z => e2 (by rw [z]; rfl)

/-! ### is_instance -/
def spInst (K : PySem.W.Frag) (n : Nat) : Sp := fun vs H Q _ => ∃ a v c t u b, vs = [.ref a, u] ∧ SqT K H a [nV c, v] ∧ Rep K H v t ∧ Oks n c t ∧ Rep K H u b ∧ Okt n b ∧ ∀ r H', Same H H' → (r = true ↔ ∃ ρ, put true ρ t = b) → Q (.bl r) H'
theorem ok_is_instance (D : Defs K mg) (n : Nat) (hn : n ≤ 90) : FnOk P w K mg base CX0 (2 * n + 10) D.is_instance.a D.is_instance.fd ["scheme", "loose"] (spInst K n) := by
  have G_want_scheme := ok_want_scheme (P := P) (w := w) (base := base) D n
  have G_want_loose := ok_want_loose (P := P) (w := w) (base := base) D n
  have G_matched := ok_matched (P := P) (w := w) (base := base) D n
  have sc := sc_is_instance
  refine D.is_instance.F.ok sc (fun vs H Q E h => ?_) (fun cdv A outer s H vs Q E hr h => ?_)
  · obtain ⟨a, v, c, t, u, b, rfl, _⟩ := h
    rfl
  obtain ⟨a, v, c, t, u, b, rfl, hS, h, g, hu, gb, q⟩ := h
  refine ⟨_, (pss_cons (ps_asg (pcall D.want_scheme G_want_scheme (hr.mono (by omega)) (by rfl) (pa_cons (pv 0) pa_nil)) (pg_tup rfl (pgs_cons (pg_name (i := 2) sc.nd rfl (Or.inl rfl)) (pgs_cons (pg_name (i := 3) sc.nd rfl (Or.inl rfl)) pgs_nil))))
      (pss_one (ps_ret (pcall D.matched G_matched (hr.mono (by omega)) (by rfl) (pa_cons (pv 3) (pa_cons (pcall D.want_loose G_want_loose (hr.mono (by omega)) (by rfl) (pa_cons (pv 1) pa_nil)) (pa_cons pe_str (pa_cons pe_dnewK pa_nil)))))))), ?_⟩
  refine ⟨_, rfl, a, v, c, t, rfl, hS, h, g, fun H1 S1 => ?_⟩
  refine ⟨a, _, rfl, tst_seq (tst_same S1) hS, rfl, _, _, rfl, _, _, rfl, rfl, ?_⟩
  refine ⟨_, rfl, _, rfl, u, b, rfl, hu.mono (tst_same S1), gb, fun H2 S2 d hd => ?_⟩
  have S3 := same_new (H := H2) (p := d) (o := .dK []) hd
  have S := same_trans S1 (same_trans S2 S3)
  refine ⟨v, u, t, b, true, d, [], rfl, h.mono (tst_same S), hu.mono (tst_same S), g.wf, gb.wf, g.few, g.dp, by have := gb.dp; omega, by have := g.dp; omega, ⟨[], upd_same, DictIs.nil⟩, DOk.nil, fun r H4 D4 B4 hT4 hD4 m => ?_⟩
  refine q r H4 (same_but (fresh_back (same_trans S1 S2) hd) ((but_same S).trans B4)) ?_
  rw [m.iff]
  constructor
  · rintro ⟨ρ, e⟩; exact ⟨ρ, by injection e⟩
  · rintro ⟨ρ, e⟩; exact ⟨ρ, by rw [← e]; rfl⟩
end
end UW

/-! opened_head, stands_within, tell_unknown. -/
namespace UW
open PySem PySem.Spec PyProof.Rows L2 U UV UD UX
section
variable {P : Program} {w : World} {K : PySem.W.Frag} {mg : Str → Option Value} {base : Heap}

def spHead (K : PySem.W.Frag) : Sp := fun vs H Q _ => ∃ d v t raw n, vs = [.ref d, v] ∧ Rep K H v t ∧ TolD K H d raw ∧ Rk raw n t ∧ ∀ v' t', Hd raw t t' → Rep K H v' t' → Q v' H
theorem hd_self {raw : Told} {t : Ty} (h : ∀ k, t = .var false k → raw.lookup k = none) : Hd raw t t := by
  cases t with
  | var p k =>
    cases p with
    | true => exact .par k
    | false => exact .free k (h k rfl)
  | node l ks => exact .node l ks
theorem ok_opened_head (D : Defs K mg) : FnOk P w K mg base CX0 1 D.opened_head.a D.opened_head.fd ["told", "one"] (spHead K) := by
  have sc := sc_opened_head
  refine D.opened_head.F.ok sc (fun vs H Q E h => ?_) (fun cdv A outer s H vs Q E hr h => ?_)
  · obtain ⟨d, v, t, raw, n, rfl, _⟩ := h
    rfl
  obtain ⟨d, v, t, raw, n, rfl, h, hT, hn, q⟩ := h
  refine ⟨_, (pss_cons (ps_set (i := 2) sc.nd rfl (Or.inl rfl) (pv 1))
      (pss_cons (ps_while PassesOwn.never (PW.pt (pw_and (pt_cmpR (op_eqG (room_eq hr)) (pe_ix ix_tup (pv 2) pe_int (fun _ _ => rfl)) pe_str (nomark _)) (pw_and1 (pt_cmp (pc_din (hu_of hr) (pe_ix ix_tup (pv 2) pe_int (fun _ _ => rfl)) (pv 0)))))) (pss_one (ps_set (i := 2) sc.nd rfl (Or.inl rfl) (pe_dget (hu_of hr) (pv 0) (pe_ix ix_tup (pv 2) pe_int (fun _ _ => rfl)) (fun _ _ => rfl)))))
      (pss_one (ps_ret (pv 2))))), ?_⟩
  refine ⟨_, rfl, fun m σ H' => ∃ v' t', σ = [some (.ref d), some v, some v'] ∧ H' = H ∧ Rep K H v' t' ∧ Rk raw m t' ∧ ∀ t'', Hd raw t' t'' → Hd raw t t'', ⟨n, v, t, rfl, rfl, h, hn, fun _ z => z⟩, ?_⟩
  rintro m σ H' ⟨v', t', rfl, rfl, h', hm, up⟩
  by_cases e1 : word t' = "unknown"
  · refine t_wordT rfl h' l_unknown e1 ?_
    refine iteT ?_
    obtain ⟨k, rfl⟩ := is_unknown e1
    obtain ⟨a, rfl, hS⟩ := h'.var
    cases e : raw.lookup k with
    | none =>
      refine ⟨_, rfl, _, _, 1, _, rfl, rfl, hS, atI_nat (j := 1) rfl, _, rfl, d, none, rfl, hT.no e, _, rfl, iteF ?_⟩
      exact ⟨_, rfl, q _ _ (up _ (.free k e)) h'⟩
    | some u =>
      obtain ⟨x, g, hx⟩ := hT.yes e
      obtain ⟨m', rfl, hm'⟩ := hm.next e
      refine ⟨_, rfl, _, _, 1, _, rfl, rfl, hS, atI_nat (j := 1) rfl, _, rfl, d, some x, rfl, g, _, rfl, iteT ?_⟩
      refine ⟨fun σ' H2 => ∃ m'', m'' < m' + 1 ∧ ∃ v' t', σ' = [some (.ref d), some v, some v'] ∧ H2 = H' ∧ Rep K H' v' t' ∧ Rk raw m'' t' ∧ ∀ t'', Hd raw t' t'' → Hd raw t t'', fun σ' H' z => z, ?_⟩
      exact ⟨_, rfl, _, rfl, _, _, 1, _, rfl, rfl, hS, atI_nat (j := 1) rfl, d, x, rfl, g, m', by omega, x, u, rfl, rfl, hx, hm', fun t'' z => up t'' (.step e z)⟩
  · refine t_wordF rfl h' l_unknown e1 ?_
    refine iteF (iteF ?_)
    exact ⟨_, rfl, q _ _ (up _ (hd_self fun k z => absurd (by rw [z]; rfl) e1)) h'⟩

/-! ### stands_within -/
theorem dp_tys {H : Hp} {a : Addr} {vs : List V} {ts : List Ty} (h : SqL K H a vs) (r : Reps K H vs ts) : Dp K H (.ref a) (.list (ts.map tyD)) := .lst h r
theorem lay_tys (ts : List Ty) : PyData.canLay0 (.list (ts.map tyD)) = true := by
  rw [PyData.canLay0]
  exact lay_all fun d hd => by
    obtain ⟨t, _, rfl⟩ := List.mem_map.mp hd
    exact lay_tyD t
theorem depthAll_pd {n : Nat} : ∀ {ds : List PyData}, (∀ d ∈ ds, d.depth ≤ n) → PyData.depthAll ds ≤ n
  | [], _ => by rw [PyData.depthAll]; omega
  | d :: ds, h => by
    rw [PyData.depthAll]
    have := h d List.mem_cons_self
    have := depthAll_pd (ds := ds) fun e he => h e (List.mem_cons_of_mem _ he)
    omega
theorem depth_tys {ts : List Ty} {n : Nat} (h : ∀ t ∈ ts, wf t ∧ depth t ≤ n) : PyData.depth (.list (ts.map tyD)) ≤ 2 * n + 2 := by
  rw [PyData.depth]
  have := depthAll_pd (n := 2 * n + 1) (ds := ts.map tyD) fun d hd => by
    obtain ⟨t, ht, rfl⟩ := List.mem_map.mp hd
    obtain ⟨h1, h2⟩ := h t ht
    have := depth_tyD t h1
    omega
  omega
theorem eqv_nil (ds : List PyData) : PyData.eqv (.list ds) (.list []) = ds.isEmpty := by
  cases ds with
  | nil => rfl
  | cons d ds => rw [PyData.eqv, PyData.eqvAll]; rfl
theorem lay_nil : PyData.canLay0 (.list []) = true := by decide +kernel
/-- waiting != [] -/
theorem t_more {σ : L2.St} {H : Hp} {i : Nat} {L : Addr} {ds : List PyData} {Q : Bool → Hp → Prop} (hi : σ[i]? = some (some (.ref L))) (h : ∀ H', Same H H' → Dp K H' (.ref L) (.list ds)) (hl : PyData.canLay0 (.list ds) = true) (hd : PyData.depth (.list ds) ≤ 190)
    (q : ∀ H', Same H H' → Q (!ds.isEmpty) H') : tTest (tOp (rNeG K) (tVar i) (tLst tNil)) σ H Q := by
  refine ⟨_, hi, Nat.zero_le _, fun p hp => ?_⟩
  have S := same_new (H := H) (p := p) (o := .lst []) hp
  refine ⟨_, _, h _ S, .lst (.inl (.inl upd_same)) .nil, hl, lay_nil, hd, _, rfl, ?_⟩
  rw [eqv_nil]
  exact q _ S
theorem same_mut2 {H H' : Hp} {p : Addr} {o : HO} (e : Same H H') (h : H p = none) : Same H (upd H' p o) := same_mut e h
/-- data of keys stay while the tuples stay -/
theorem metK_mono {H H' : Hp} {ks : MetL} (e : Tst H H') (h : MetK K H ks) : MetK K H' ks := fun p hp => ⟨Dp.key e p.1 _ (h p hp).1, (h p hp).2⟩
theorem key_in {h : Ty} {ks : MetL} {M : List Ty} (e : ks.map (·.1) = M.map tyK) : tyK h ∈ ks.map (·.1) ↔ h ∈ M := by
  rw [e]
  constructor
  · intro q
    obtain ⟨t, ht, z⟩ := List.mem_map.mp q
    rw [← tyK_inj _ _ z]; exact ht
  · intro q; exact List.mem_map_of_mem q
theorem reps_last {H : Hp} {vs : List V} {ts : List Ty} (h : Reps K H vs ts) (hn : ts ≠ []) : ∃ v vs' t ts', vs = vs' ++ [v] ∧ ts = ts' ++ [t] ∧ Rep K H v t ∧ Reps K H vs' ts' := by
  have hl := h.length
  obtain ⟨t, ts', e1⟩ : ∃ t ts', ts = ts' ++ [t] := ⟨ts.getLast hn, ts.dropLast, (List.dropLast_concat_getLast hn).symm⟩
  have hv : vs ≠ [] := by rintro rfl; subst e1; simp at hl
  obtain ⟨v, vs', e2⟩ : ∃ v vs', vs = vs' ++ [v] := ⟨vs.getLast hv, vs.dropLast, (List.dropLast_concat_getLast hv).symm⟩
  subst e1 e2
  have hl' : vs'.length = ts'.length := by simpa using hl
  refine ⟨v, vs', t, ts', rfl, rfl, ?_, ?_⟩
  · obtain ⟨u, e, hu⟩ := h.at (i := vs'.length) (v := v) (by simp)
    rw [hl'] at e
    simp at e
    rw [e]; exact hu
  · refine Reps.of hl' fun i x y e1 e2 => ?_
    have hi : i < vs'.length := by
      rcases Nat.lt_or_ge i vs'.length with q | q
      · exact q
      · rw [List.getElem?_eq_none q] at e1; cases e1
    obtain ⟨u, e, hu⟩ := h.at (i := i) (v := x) (by rw [List.getElem?_append_left hi]; exact e1)
    rw [List.getElem?_append_left (by omega)] at e
    rw [e2] at e; cases e; exact hu
theorem kidsU_eq (t : Ty) : kidsU t = kids t := by cases t <;> rfl
theorem kids_len3 {t : Ty} (hw : wf t) : (kids t).length ≤ 3 := by
  cases t with
  | var p k => exact Nat.zero_le _
  | node l ks =>
    have := (wf_node.mp hw).1
    show ks.length ≤ 3
    cases l <;> (simp only [okL, Bool.or_eq_true, beq_iff_eq] at this; omega)
def spStands (K : PySem.W.Frag) : Sp := fun vs H Q _ => ∃ d v t raw tri x, vs = [.ref d, nV x, v] ∧ Rep K H v t ∧ TolD K H d raw ∧ Lnk (Gd 3) raw tri ∧ Gd 3 t ∧ raw.lookup x = none ∧ (∀ H', Same H H' → occ false x (ap tri t) → Q (.bl true) H') ∧ (∀ H', Same H H' → ¬ occ false x (ap tri t) → Q (.bl false) H')
theorem ok_stands_within (D : Defs K mg) : FnOk P w K mg base CX0 2 D.stands_within.a D.stands_within.fd ["told", "number", "one"] (spStands K) := by
  have G_opened_head := ok_opened_head (P := P) (w := w) (base := base) D
  have G_loose_within := ok_loose_within (P := P) (w := w) (base := base) D
  have sc := sc_stands_within
  refine D.stands_within.F.ok sc (fun vs H Q E h => ?_) (fun cdv A outer s H vs Q E hr h => ?_)
  · obtain ⟨d, v, t, raw, tri, x, rfl, _⟩ := h
    rfl
  obtain ⟨d, v, t, raw, tri, x, rfl, h, hT, L, hg, hx, qT, qF⟩ := h
  refine ⟨_, (pss_cons (ps_par (i := 3) (j := 4) rfl sc.nd rfl rfl (by decide) rfl rfl (pa_cons (pe_lst (pa_cons (pv 2) pa_nil)) (pa_cons pe_met0 pa_nil)) (by rfl))
      (pss_cons (ps_while PassesOwn.never (pt_cmpR (op_neG (room_eq hr)) (pv 3) (pe_lst pa_nil) (nomark _)) (pss_cons (ps_set (i := 5) sc.nd rfl (Or.inl rfl) (pcall D.opened_head G_opened_head (hr.mono (by omega)) (by rfl) (pa_cons (pv 0) (pa_cons (pe_bm0 PySem.F.plainAttrs_list PySem.F.slot_list_pop PySem.F.type_list_pop mt_pop (pv 3)) pa_nil))))
      (pss_cons (ps_if (pt_cmpR (op_eqG (room_eq hr)) (pv 5) (pe_tup (pa_cons pe_str (pa_cons (pv 1) pa_nil))) (nomark _)) (pss_one (ps_ret pe_bl)) pss_nil)
      (pss_one (ps_if (pt_cmpR (op_notInMet (room_eq hr)) (pv 5) (pv 4) (by rfl)) (pss_cons (ps_asg pe_bl (pg_sub (pv 4) (pv 5) (set_met (room_eq hr))))
      (pss_one (ps_expr (pe_bm PySem.F.plainAttrs_list PySem.F.slot_list_extend PySem.F.type_list_extend mt_extend (pv 3) (pa_cons (pe_callTy call_list_of (by rfl) D.z_list (by decide +kernel) (pa_cons (pcall D.loose_within G_loose_within (hr.mono (by omega)) (by rfl) (pa_cons (pv 5) pa_nil)) pa_nil)) pa_nil))))) pss_nil)))))
      (pss_one (ps_ret pe_bl)))), ?_⟩
  refine ⟨_, rfl, Nat.le_of_ble_eq_true rfl, fun L1 hL1 p hp => ⟨_, _, rfl, ?_⟩⟩
  have hp0 := fresh_back (same_new (H := H) (p := L1) (o := .lst [v]) hL1) hp
  have neL : L1 ≠ p := fun z => by rw [← z, upd_same] at hp; cases hp
  refine ⟨fun m σ H' => ∃ (ov : Option V) (ws : List V × List Ty) (M : List Ty) (ks : MetL), σ = [some (.ref d), some (nV x), some v, some (.ref L1), some (.ref p), ov] ∧ Same H H' ∧ H' L1 = some (.lst ws.1) ∧ Reps K H' ws.1 ws.2 ∧ H' p = some (MetO P w p ks) ∧ MetK K H' ks ∧ ks.map (·.1) = M.map tyK ∧ SI raw tri t x ws.2 M ∧ m = measS ws.2 M, ⟨_, none, ([v], [t]), [], [], rfl, ?_, ?_, ?_, upd_same, fun _ z => (nomatch z), rfl, SI.start, rfl⟩, ?_⟩
  · exact same_mut (same_new hL1) hp0
  · rw [upd_ne neL]; exact upd_same
  · exact .cons (h.mono (tst_same (same_mut (same_new hL1) hp0))) .nil
  rintro m σ H1 ⟨ov, ⟨vs, ws⟩, M, ks, rfl, S, hL, hR, hM, hK, hk, si, rfl⟩
  have hL : H1 L1 = some (.lst vs) := hL
  have hR : Reps K H1 vs ws := hR
  have gws : ∀ u ∈ ws, Gd 3 u := fun u hu => subsT_dep L.old hg (si.subw u hu)
  refine t_more (ds := ws.map tyD) rfl (fun H' S' => dp_tys (.inl (.inl (S' _ _ hL))) (hR.mono (tst_same S'))) (lay_tys ws) (Nat.le_trans (depth_tys (n := 3) fun u hu => ⟨(gws u hu).wf, (gws u hu).dp⟩) (by decide)) fun H2 S2 => ?_
  by_cases ew : ws = []
  · subst ew
    refine iteF ?_
    exact qF H2 (same_trans S S2) (si.none L)
  refine iteB1 (by cases ws with
    | nil => exact absurd rfl ew
    | cons _ _ => rfl) ?_
  obtain ⟨y, vs', t1, ws', rfl, rfl, hy, hR'⟩ := reps_last hR ew
  refine ⟨fun σ' H' => ∃ m', m' < measS (ws' ++ [t1]) M ∧ ∃ (ov : Option V) (ws : List V × List Ty) (M : List Ty) (ks : MetL), σ' = [some (.ref d), some (nV x), some v, some (.ref L1), some (.ref p), ov] ∧ Same H H' ∧ H' L1 = some (.lst ws.1) ∧ Reps K H' ws.1 ws.2 ∧ H' p = some (MetO P w p ks) ∧ MetK K H' ks ∧ ks.map (·.1) = M.map tyK ∧ SI raw tri t x ws.2 M ∧ m' = measS ws.2 M, fun σ' H' z => z, ?_⟩
  have hL2 := S2 _ _ hL
  have hT1 := hT.same (same_trans S S2)
  have nd : L1 ≠ d := fun z => by obtain ⟨kvs, e, _⟩ := hT; rw [← z, hL1] at e; cases e
  -- the list is one shorter
  have S3 : Same H (upd H2 L1 (.lst (vs' ++ [y]).dropLast)) := same_mut (same_trans S S2) hL1
  have T3 : Tst H2 (upd H2 L1 (.lst (vs' ++ [y]).dropLast)) := tst_but (but_upd _) (by rw [hL2]; exact notup_lst)
  have T13 := (tst_same S2).trans T3
  have e3 : upd H2 L1 (.lst (vs' ++ [y]).dropLast) L1 = some (.lst vs') := by rw [upd_same, List.dropLast_concat]
  have eM : upd H2 L1 (.lst (vs' ++ [y]).dropLast) p = some (MetO P w p ks) := by rw [upd_ne (Ne.symm neL)]; exact S2 _ _ hM
  refine ⟨_, rfl, _, rfl, .inl ⟨rfl, _, .inl (.inl hL2)⟩, L1, _, y, rfl, rfl, hL2, by simp, d, y, t1, raw, 6, rfl, (hy.mono T13), hT.same S3, L.rank t1, fun v1 h1 hd rv1 => ?_⟩
  generalize hH3 : upd H2 L1 (HO.lst (vs' ++ [y]).dropLast) = H3 at *
  have gt1 := gws t1 (List.mem_append_right _ (List.mem_singleton.mpr rfl))
  have gh : Gd 3 h1 := subsT_dep L.old hg (subsT_hd (si.subw t1 (List.mem_append_right _ (List.mem_singleton.mpr rfl))) hd)
  -- here == ('unknown', number)
  refine ⟨_, rfl, _, rfl, Nat.le_of_ble_eq_true rfl, fun r hr0 => ?_⟩
  have S4 := same_new (H := H3) (p := r) (o := .tup [.str "unknown", nV x]) hr0
  refine ⟨_, _, rv1.mono (tst_same S4), Rep.mkVar (p := false) (k := x) (.inl (.inl upd_same)), lay_tyD _, lay_tyD _, depth_t gh.wf (by have := gh.dp; omega), _, rfl, ?_⟩
  by_cases e5 : h1 = .var false x
  · subst e5
    refine iteB1 (eqv_T _) ?_
    exact qT _ (same_trans S3 S4) (si.found L hd)
  refine iteB0 (eqv_F e5) ?_
  obtain ⟨a1, xs1, rfl, hS1, _⟩ := rv1.tup
  have T34 := tst_same S4
  have hKm := metK_mono (T13.trans T34) hK
  have k8 : (tyK h1).depth ≤ 8 := by have := depth_tyK h1 gh.wf; have := gh.dp; omega
  refine ⟨_, rfl, _, rfl, tyK h1, a1, p, ks, rfl, rfl, rv1.mono T34, k8, S4 _ _ eM, hKm, _, rfl, ?_⟩
  by_cases e6 : h1 ∈ M
  · refine iteB0 (notT ((key_in hk).mpr e6)) ?_
    refine ⟨measS ws' M, by unfold measS; rw [List.length_append, List.length_singleton]; omega, _, (vs', ws'), M, ks, rfl, same_trans S3 S4, S4 _ _ e3, hR'.mono (T13.trans T34), S4 _ _ eM, hKm, hk, si.old hd e6, rfl⟩
  refine iteB1 (notF fun z => e6 ((key_in hk).mp z)) ?_
  have ml := si.mlen L L.old hg
  have kl : ks.length = M.length := by have := congrArg List.length hk; rwa [List.length_map, List.length_map] at this
  refine ⟨_, rfl, _, rfl, tyK h1, a1, p, ks, rfl, rfl, rfl, rv1.mono T34, k8, S4 _ _ eM, hKm, by omega, fun z => e6 ((key_in hk).mp z), ?_⟩
  -- met is told
  have S5 : Same H (upd (upd H3 r (.tup [.str "unknown", nV x])) p (MetO P w p (ks ++ [(tyK h1, a1)]))) := same_mut (same_trans S3 S4) hp0
  have T5 : Tst (upd H3 r (.tup [.str "unknown", nV x])) (upd (upd H3 r (.tup [.str "unknown", nV x])) p (MetO P w p (ks ++ [(tyK h1, a1)]))) := tst_but (but_upd _) (by rw [S4 _ _ eM]; exact notup_ext)
  have e7 : upd (upd H3 r (.tup [.str "unknown", nV x])) p (MetO P w p (ks ++ [(tyK h1, a1)])) L1 = some (.lst vs') := by rw [upd_ne neL]; exact S4 _ _ e3
  have T35 := T34.trans T5
  refine ⟨_, rfl, .inl ⟨rfl, _, .inl (.inl e7)⟩, _, rfl, .ref a1, h1, rfl, rv1.mono T35, gh.wf, fun b ys H6 S6 hb hR6 => ⟨b, ys, rfl, .inr hb, fun l hl => ?_⟩⟩
  have S7 := same_new (H := H6) (p := l) (o := .lst ys) hl
  have S57 := same_trans S6 S7
  have eL7 := S57 _ _ e7
  have yl := hR6.length
  have k3 := kids_len3 gh.wf
  have si2 := si.new L hd e6 e5 (by rw [kidsU_eq]; exact k3)
  rw [kidsU_eq] at si2
  have vl := hR'.length
  refine ⟨L1, l, vs', ys, rfl, rfl, eL7, upd_same, ?_, ?_⟩
  · have := si2.len
    have := si2.mlen L L.old hg
    rw [List.length_append] at this
    rw [List.length_append, List.length_append, List.length_singleton] at *
    rw [sizeLine_eq]; omega
  have T8 : Tst (upd H6 l (.lst ys)) (upd (upd H6 l (.lst ys)) L1 (.lst (vs' ++ ys))) := tst_but (but_upd _) (by rw [eL7]; exact notup_lst)
  have T58 := (tst_same S57).trans T8
  refine ⟨measS (ws' ++ kids h1) (M ++ [h1]), ?_, some (.ref a1), (vs' ++ ys, ws' ++ kids h1), M ++ [h1], ks ++ [(tyK h1, a1)], rfl, same_mut (same_trans S5 S57) hL1, upd_same, ?_, ?_, fun z hz => ?_, ?_, si2, rfl⟩
  · unfold measS
    have := si2.mlen L L.old hg
    rw [List.length_append, List.length_append, List.length_append, List.length_singleton, List.length_singleton] at *
    omega
  · exact Reps.append (hR'.mono ((T13.trans T35).trans T58)) ((hR6.mono (tst_same S7)).mono T8)
  · rw [upd_ne (Ne.symm neL)]
    exact S57 _ _ upd_same
  · rcases List.mem_append.mp hz with hz | hz
    · exact (metK_mono (T5.trans T58) hKm) z hz
    · rw [List.mem_singleton.mp hz]
      exact ⟨rv1.mono (T35.trans T58), k8⟩
  · rw [List.map_append, List.map_append, hk]
    rfl
end
end UW

/-! tell_unknown, unite. -/
namespace UW
open PySem PySem.Spec PyProof.Rows L2 U UV UD UX
section
variable {P : Program} {w : World} {K : PySem.W.Frag} {mg : Str → Option Value} {base : Heap}

def spTell (K : PySem.W.Frag) : Sp := fun vs H Q _ => ∃ d v t raw tri x, vs = [.ref d, nV x, v] ∧ Rep K H v t ∧ TolD K H d raw ∧ Lnk (Gd 3) raw tri ∧ Gd 3 t ∧ raw.lookup x = none ∧ (∀ H', Same H H' → occ false x (ap tri t) → Q (.bl false) H') ∧ (∀ H', But d H H' → ¬ occ false x (ap tri t) → TolD K H' d (raw ++ [(x, t)]) → Q (.bl true) H')
theorem ok_tell_unknown (D : Defs K mg) : FnOk P w K mg base CX0 3 D.tell_unknown.a D.tell_unknown.fd ["told", "number", "one"] (spTell K) := by
  have G_stands_within := ok_stands_within (P := P) (w := w) (base := base) D
  have sc := sc_tell_unknown
  refine D.tell_unknown.F.ok sc (fun vs H Q E h => ?_) (fun cdv A outer s H vs Q E hr h => ?_)
  · obtain ⟨d, v, t, raw, tri, x, rfl, _⟩ := h
    rfl
  obtain ⟨d, v, t, raw, tri, x, rfl, h, hT, L, hg, hx, qF, qT⟩ := h
  refine ⟨_, (pss_cons (ps_if (pt_val (pcall D.stands_within G_stands_within (hr.mono (by omega)) (by rfl) (pa_cons (pv 0) (pa_cons (pv 1) (pa_cons (pv 2) pa_nil))))) (pss_one (ps_ret pe_bl)) pss_nil)
      (pss_cons (ps_dput (hu_of hr) (pv 0) (pv 1) (pv 2) rfl)
      (pss_one (ps_ret pe_bl)))), ?_⟩
  refine ⟨_, rfl, _, rfl, _, rfl, d, v, t, raw, tri, x, rfl, h, hT, L, hg, hx, fun H1 S1 ho => ⟨_, rfl, iteT (qF H1 S1 ho)⟩, fun H1 S1 ho => ⟨_, rfl, iteF ?_⟩⟩
  have hT1 := hT.same S1
  obtain ⟨H2, pt, B, hT2, _⟩ := hT1.put hx (h.mono (tst_same S1)) (by have := L.len; have := L.len_raw; omega)
  exact ⟨_, rfl, _, rfl, _, rfl, d, H2, rfl, pt, qT H2 ((but_same S1).trans B) ho hT2⟩

/-! ### unite -/
abbrev Pairs := List (Ty × Ty)
def PrIs (K : PySem.W.Frag) (H : Hp) (x : V) (q : Ty × Ty) : Prop := ∃ p v u, x = .ref p ∧ SqT K H p [v, u] ∧ Rep K H v q.1 ∧ Rep K H u q.2
theorem PrIs.mono {H H' : Hp} {x : V} {q : Ty × Ty} (e : Tst H H') (h : PrIs K H x q) : PrIs K H' x q := by
  obtain ⟨p, v, u, h0, h1, h2, h3⟩ := h
  exact ⟨p, v, u, h0, tst_seq e h1, h2.mono e, h3.mono e⟩
def pD (q : Ty × Ty) : PyData := .tuple [tyD q.1, tyD q.2]
theorem PrIs.dp {H : Hp} {x : V} {q : Ty × Ty} (h : PrIs K H x q) : Dp K H x (pD q) := by
  obtain ⟨p, v, u, rfl, h1, h2, h3⟩ := h
  exact .tup h1 (.cons h2 (.cons h3 .nil))
theorem dpAll_pairs {H : Hp} : ∀ {xs : List V} {ps : Pairs}, Paired (PrIs K H) xs ps → DpAll K H xs (ps.map pD)
  | _, _, .nil => .nil
  | _, _, .cons a b => .cons a.dp (dpAll_pairs b)
theorem lay_pD (q : Ty × Ty) : (pD q).canLay0 = true := by
  unfold pD
  rw [PyData.canLay0]
  exact lay_all fun d hd => by
    rcases List.mem_cons.mp hd with e | hd
    · rw [e]; exact lay_tyD _
    · rw [List.mem_singleton.mp hd]; exact lay_tyD _
theorem lay_pairs (ps : Pairs) : PyData.canLay0 (.list (ps.map pD)) = true := by
  rw [PyData.canLay0]
  exact lay_all fun d hd => by
    obtain ⟨t, _, rfl⟩ := List.mem_map.mp hd
    exact lay_pD t
theorem depth_pairs {ps : Pairs} (h : ∀ q ∈ ps, POk q.1 q.2) : PyData.depth (.list (ps.map pD)) ≤ 190 := by
  rw [PyData.depth]
  have := depthAll_pd (n := 20) (ds := ps.map pD) fun d hd => by
    obtain ⟨q, hq, rfl⟩ := List.mem_map.mp hd
    have g := h q hq
    unfold pD
    rw [PyData.depth]
    have := depthAll_pd (n := 10) (ds := [tyD q.1, tyD q.2]) fun d hd => by
      have h1 := depth_tyD q.1 g.wa.wf
      have h2 := depth_tyD q.2 g.wb.wf
      have h3 : depth q.1 ≤ 4 ∧ depth q.2 ≤ 4 := by
        rcases g.dp with ⟨a, b⟩ | ⟨a, b, _⟩ <;> omega
      rcases List.mem_cons.mp hd with e | hd
      · rw [e]; omega
      · rw [List.mem_singleton.mp hd]; omega
    omega
  omega
theorem paired_last {α β : Type} {F : α → β → Prop} : ∀ {xs : List α} {ps : List β}, Paired F xs ps → ps ≠ [] → ∃ x xs' p ps', xs = xs' ++ [x] ∧ ps = ps' ++ [p] ∧ F x p ∧ Paired F xs' ps'
  | _, _, .nil, h => absurd rfl h
  | _, _, .cons (a := a) (b := b) h .nil, _ => ⟨a, [], b, [], rfl, rfl, h, .nil⟩
  | _, _, .cons (a := a) (b := b) h (.cons h2 t2), _ => by
    obtain ⟨x, xs', p, ps', e1, e2, h3, h4⟩ := paired_last (.cons h2 t2) (by simp)
    exact ⟨x, a :: xs', p, b :: ps', by rw [e1]; rfl, by rw [e2]; rfl, h3, .cons h h4⟩
theorem paired_append {α β : Type} {F : α → β → Prop} {xs ys : List α} {ps qs : List β} (h : Paired F xs ps) (g : Paired F ys qs) : Paired F (xs ++ ys) (ps ++ qs) := by
  induction h with
  | nil => exact g
  | cons a b ih => exact .cons a ih
theorem paired_of {α β : Type} {F : α → β → Prop} : ∀ {xs : List α} {ps : List β}, xs.length = ps.length → (∀ (i : Nat) (x : α) (p : β), xs[i]? = some x → ps[i]? = some p → F x p) → Paired F xs ps
  | [], [], _, _ => .nil
  | x :: xs, p :: ps, hl, h => .cons (h 0 x p rfl rfl) (paired_of (by simpa using hl) fun i y q e1 e2 => h (i + 1) y q (by simpa using e1) (by simpa using e2))
theorem isEmpty_pairs {ps : Pairs} : (ps.map pD).isEmpty = ps.isEmpty := by cases ps <;> rfl
def spUnite (K : PySem.W.Frag) : Sp := fun vs H Q _ => ∃ d v u a b, vs = [.ref d, v, u] ∧ Rep K H v a ∧ Rep K H u b ∧ TolD K H d [] ∧ POk a b ∧ (∀ H' raw tri, But d H H' → TolD K H' d raw → Lnk (Gd 3) raw tri → Mgu tri a b → Q (.bl true) H') ∧ (∀ H', But d H H' → (∀ θ, put false θ a ≠ put false θ b) → Q (.bl false) H')
theorem but_mono {H H' H2 : Hp} {d : Addr} (a : But d H H') (b : Same H' H2) : But d H H2 := a.trans (but_same b)
theorem ok_unite (D : Defs K mg) : FnOk P w K mg base CX0 4 D.unite.a D.unite.fd ["told", "one", "other"] (spUnite K) := by
  have G_opened_head := ok_opened_head (P := P) (w := w) (base := base) D
  have G_loose_within := ok_loose_within (P := P) (w := w) (base := base) D
  have G_tell_unknown := ok_tell_unknown (P := P) (w := w) (base := base) D
  have sc := sc_unite
  refine D.unite.F.ok sc (fun vs H Q E h => ?_) (fun cdv A outer s H vs Q E hr h => ?_)
  · obtain ⟨d, v, u, a, b, rfl, _⟩ := h
    rfl
  obtain ⟨d, v, u, a, b, rfl, ha, hb, hT, pk, qT, qF⟩ := h
  refine ⟨_, (pss_cons (ps_set (i := 3) sc.nd rfl (Or.inl rfl) (pe_lst (pa_cons (pe_tup (pa_cons (pv 1) (pa_cons (pv 2) pa_nil))) pa_nil)))
      (pss_cons (ps_while PassesOwn.never (pt_cmpR (op_neG (room_eq hr)) (pv 3) (pe_lst pa_nil) (nomark _)) (pss_cons (ps_asg (pe_bm0 PySem.F.plainAttrs_list PySem.F.slot_list_pop PySem.F.type_list_pop mt_pop (pv 3)) (pg_tup rfl (pgs_cons (pg_name (i := 4) sc.nd rfl (Or.inl rfl)) (pgs_cons (pg_name (i := 5) sc.nd rfl (Or.inl rfl)) pgs_nil))))
      (pss_cons (ps_par (i := 4) (j := 5) rfl sc.nd rfl rfl (by decide) rfl rfl (pa_cons (pcall D.opened_head G_opened_head (hr.mono (by omega)) (by rfl) (pa_cons (pv 0) (pa_cons (pv 4) pa_nil))) (pa_cons (pcall D.opened_head G_opened_head (hr.mono (by omega)) (by rfl) (pa_cons (pv 0) (pa_cons (pv 5) pa_nil))) pa_nil)) (by rfl))
      (pss_cons (ps_if (pt_cmpR (op_eqG (room_eq hr)) (pv 4) (pv 5) (nomark _)) (pss_one ps_continue) pss_nil)
      (pss_cons (ps_if (PW.pt (pw_or (pt_cmpR (op_eqG (room_eq hr)) (pe_ix ix_tup (pv 4) pe_int (fun _ _ => rfl)) pe_str (nomark _)) (pw_or1 (pt_cmpR (op_eqG (room_eq hr)) (pe_ix ix_tup (pv 5) pe_int (fun _ _ => rfl)) pe_str (nomark _))))) (pss_cons (ps_asg (pe_ifExp (pt_cmpR (op_eqG (room_eq hr)) (pe_ix ix_tup (pv 4) pe_int (fun _ _ => rfl)) pe_str (nomark _)) (pe_tup (pa_cons (pe_ix ix_tup (pv 4) pe_int (fun _ _ => rfl)) (pa_cons (pv 5) pa_nil))) (pe_tup (pa_cons (pe_ix ix_tup (pv 5) pe_int (fun _ _ => rfl)) (pa_cons (pv 4) pa_nil)))) (pg_tup rfl (pgs_cons (pg_name (i := 6) sc.nd rfl (Or.inl rfl)) (pgs_cons (pg_name (i := 7) sc.nd rfl (Or.inl rfl)) pgs_nil))))
      (pss_cons (ps_if (pt_not (pt_val (pcall D.tell_unknown G_tell_unknown (hr.mono (by omega)) (by rfl) (pa_cons (pv 0) (pa_cons (pv 6) (pa_cons (pv 7) pa_nil)))))) (pss_one (ps_ret pe_bl)) pss_nil)
      (pss_one ps_continue))) pss_nil)
      (pss_cons (ps_if (PW.pt (pw_or (pt_cmpR (op_neG (room_eq hr)) (pe_ix ix_tup (pv 4) pe_int (fun _ _ => rfl)) (pe_ix ix_tup (pv 5) pe_int (fun _ _ => rfl)) (nomark _)) (pw_or1 (pt_cmpR (op_neG (room_eq hr)) (pe_callB call_len_seq (by rfl) D.z_len (by decide +kernel) (pa_cons (pcall D.loose_within G_loose_within (hr.mono (by omega)) (by rfl) (pa_cons (pv 4) pa_nil)) pa_nil)) (pe_callB call_len_seq (by rfl) D.z_len (by decide +kernel) (pa_cons (pcall D.loose_within G_loose_within (hr.mono (by omega)) (by rfl) (pa_cons (pv 5) pa_nil)) pa_nil)) (nomark _))))) (pss_one (ps_ret pe_bl)) pss_nil)
      (pss_cons (ps_if (PW.pt (pw_and (pt_cmpR (op_eqG (room_eq hr)) (pe_ix ix_tup (pv 4) pe_int (fun _ _ => rfl)) pe_str (nomark _)) (pw_and1 (pt_cmpR (op_neG (room_eq hr)) (pe_ix ix_tup (pv 4) pe_int (fun _ _ => rfl)) (pe_ix ix_tup (pv 5) pe_int (fun _ _ => rfl)) (nomark _))))) (pss_one (ps_ret pe_bl)) pss_nil)
      (pss_one (ps_expr (pe_bm PySem.F.plainAttrs_list PySem.F.slot_list_extend PySem.F.type_list_extend mt_extend (pv 3) (pa_cons (UR.pe_listZip rfl (by rfl) D.z_list (by rfl) D.z_zip (pa_cons (pcall D.loose_within G_loose_within (hr.mono (by omega)) (by rfl) (pa_cons (pv 4) pa_nil)) (pa_cons (pcall D.loose_within G_loose_within (hr.mono (by omega)) (by rfl) (pa_cons (pv 5) pa_nil)) pa_nil))) pa_nil)))))))))))
      (pss_one (ps_ret pe_bl)))), ?_⟩
  refine ⟨_, rfl, _, rfl, Nat.le_of_ble_eq_true rfl, fun p hp => ⟨Nat.le_of_ble_eq_true rfl, fun L hL => ?_⟩⟩
  have S1 := same_new (H := H) (p := p) (o := .tup [v, u]) hp
  have S2 := same_new (H := upd H p (.tup [v, u])) (p := L) (o := .lst [.ref p]) hL
  have hL0 := fresh_back S1 hL
  have nLd : L ≠ d := fun z => by obtain ⟨kvs, e, _⟩ := hT; rw [← z, hL0] at e; cases e
  have S12 := same_trans S1 S2
  refine ⟨fun m σ H' => ∃ (o4 o5 o6 o7 : Option V) (xs : List V) (ps : Pairs) (raw tri : Told), σ = [some (.ref d), some v, some u, some (.ref L), o4, o5, o6, o7] ∧ But d H H' ∧ H' L = some (.lst xs) ∧ Paired (PrIs K H') xs ps ∧ TolD K H' d raw ∧ UI a b raw tri ps ∧ m = meas raw tri ps,
    ⟨_, none, none, none, none, [.ref p], [(a, b)], [], [], rfl, but_same S12, upd_same, .cons ⟨p, v, u, rfl, tst_seq (tst_same S2) (.inl (.inl upd_same)), ha.mono (tst_same S12), hb.mono (tst_same S12)⟩ .nil, hT.same S12, UI.start pk, rfl⟩, ?_⟩
  rintro m σ H1 ⟨o4, o5, o6, o7, xs, ps, raw, tri, rfl, B, hLs, hP, hT1, ui, rfl⟩
  refine t_more (ds := ps.map pD) rfl (fun H' S' => .lst (.inl (.inl (S' _ _ hLs))) (dpAll_pairs (paired_imp (fun _ _ => PrIs.mono (tst_same S')) hP))) (lay_pairs ps) (depth_pairs ui.pok) fun H2 S2' => ?_
  rw [isEmpty_pairs]
  by_cases ep : ps = []
  · subst ep
    refine iteF ?_
    exact qT H2 raw tri (but_mono B S2') (hT1.same S2') ui.L ui.done
  refine iteB1 (by cases ps with
    | nil => exact absurd rfl ep
    | cons _ _ => rfl) ?_
  obtain ⟨y, xs', ⟨ta, tb⟩, ps', rfl, rfl, ⟨pp, v1, u1, rfl, hS1, hv1, hu1⟩, hP'⟩ := paired_last hP ep
  refine ⟨fun σ' H' => ∃ m', m' < meas raw tri (ps' ++ [(ta, tb)]) ∧ ∃ (o4 o5 o6 o7 : Option V) (xs : List V) (ps : Pairs) (raw tri : Told), σ' = [some (.ref d), some v, some u, some (.ref L), o4, o5, o6, o7] ∧ But d H H' ∧ H' L = some (.lst xs) ∧ Paired (PrIs K H') xs ps ∧ TolD K H' d raw ∧ UI a b raw tri ps ∧ m' = meas raw tri ps, fun σ' H' z => z, ?_⟩
  have hL2 := S2' _ _ hLs
  have T3 : Tst H2 (upd H2 L (.lst (xs' ++ [V.ref pp]).dropLast)) := tst_but (but_upd _) (by rw [hL2]; exact notup_lst)
  have T13 := (tst_same S2').trans T3
  have B3 : But d H (upd H2 L (.lst (xs' ++ [V.ref pp]).dropLast)) := but_mut (but_mono B S2') hL0
  have e3 : upd H2 L (.lst (xs' ++ [V.ref pp]).dropLast) L = some (.lst xs') := by rw [upd_same, List.dropLast_concat]
  have hT3 : TolD K (upd H2 L (.lst (xs' ++ [V.ref pp]).dropLast)) d raw := by
    obtain ⟨kvs, e, hk⟩ := hT1.same S2'
    exact ⟨kvs, by rw [upd_ne (Ne.symm nLd)]; exact e, hk.mono T3⟩
  refine ⟨_, rfl, .inl ⟨rfl, _, .inl (.inl hL2)⟩, L, _, .ref pp, rfl, rfl, hL2, by simp, pp, [v1, u1], rfl, tst_seq T13 hS1, rfl, _, _, rfl, _, _, rfl, rfl, ?_⟩
  have hP3 := paired_imp (fun _ _ => PrIs.mono T13) hP'
  have rv := hv1.mono T13
  have ru := hu1.mono T13
  generalize hH3 : upd H2 L (HO.lst (xs' ++ [V.ref pp]).dropLast) = H3 at *
  refine ⟨_, rfl, _, rfl, d, v1, ta, raw, 6, rfl, rv, hT3, ui.L.rank ta, fun nv ca hda rn => ⟨_, rfl, _, rfl, d, u1, tb, raw, 6, rfl, ru, hT3, ui.L.rank tb, fun fv cb hdb rf => ⟨_, _, rfl, ?_⟩⟩⟩
  have ok := ui.lastok
  have okc := ok.hd ui.L.old hda hdb
  have dca : depth ca ≤ 4 := by rcases okc.dp with ⟨q1, _⟩ | ⟨q1, _⟩ <;> omega
  have dcb : depth cb ≤ 4 := by rcases okc.dp with ⟨_, q1⟩ | ⟨_, q1, _⟩ <;> omega
  -- near == far
  refine ⟨_, rfl, _, rfl, _, _, rn, rf, lay_tyD _, lay_tyD _, depth_t okc.wa.wf (by omega), _, rfl, ?_⟩
  by_cases ec : ca = cb
  · subst ec
    refine iteB1 (eqv_T _) ?_
    exact ⟨_, meas_pop, _, _, _, _, xs', ps', raw, tri, rfl, B3, e3, hP3, hT3, ui.same hda hdb, rfl⟩
  refine iteB0 (eqv_F ec) ?_
  -- an unknown is told
  have done : ∀ H5 x late lu (o4 o5 o6 o7 : Option V), But d H3 H5 → TolD K H5 d (raw ++ [(x, late)]) → UI a b (raw ++ [(x, late)]) (tri ++ [(x, lu)]) ps' → ∃ m', m' < meas raw tri (ps' ++ [(ta, tb)]) ∧ ∃ (o4' o5' o6' o7' : Option V) (xs : List V) (ps : Pairs) (raw tri : Told), [some (.ref d), some v, some u, some (.ref L), o4, o5, o6, o7] = [some (.ref d), some v, some u, some (.ref L), o4', o5', o6', o7'] ∧ But d H H5 ∧ H5 L = some (.lst xs) ∧ Paired (PrIs K H5) xs ps ∧ TolD K H5 d raw ∧ UI a b raw tri ps ∧ m' = meas raw tri ps := by
    intro H5 x late lu o4 o5 o6 o7 B5 hT5 ui5
    have T5 := tst_d B5 hT3
    exact ⟨_, meas_bind ui5, o4, o5, o6, o7, xs', ps', _, _, rfl, B3.trans B5, B5 _ _ nLd e3, paired_imp (fun _ _ => PrIs.mono T5) hP3, hT5, ui5, rfl⟩
  by_cases e1 : word ca = "unknown"
  · refine t_wordT rfl rn l_unknown e1 ?_
    refine iteT (iteT ?_)
    refine t_wordT rfl rn l_unknown e1 ?_
    refine iteT ?_
    obtain ⟨x, rfl⟩ := is_unknown e1
    obtain ⟨a1, rfl, hSa⟩ := rn.var
    refine ⟨_, rfl, _, _, 1, _, rfl, rfl, hSa, atI_nat (j := 1) rfl, _, rfl, Nat.le_of_ble_eq_true rfl, fun r hr0 => ⟨r, _, rfl, .inl (.inl upd_same), rfl, _, _, rfl, _, _, rfl, rfl, ?_⟩⟩
    have S4 := same_new (H := H3) (p := r) (o := .tup [nV x, fv]) hr0
    refine ⟨_, rfl, _, rfl, _, rfl, d, fv, cb, raw, tri, x, rfl, rf.mono (tst_same S4), hT3.same S4, ui.L, okc.left, hda.isfree rfl, fun H5 S5 ho => ⟨_, rfl, iteT ?_⟩, fun H5 B5 ho hT5 => ⟨_, rfl, iteF ?_⟩⟩
    · exact qF H5 (but_mono B3 (same_trans S4 S5)) (ui.fail (bind_no ui.L hda hdb (Ne.symm ec) (fun k z => okc.wb.nop k (by rw [z]; exact occ_var.mpr ⟨rfl, rfl⟩)) ho))
    · exact done H5 x cb _ _ _ _ _ ((but_same S4).trans B5) hT5 (ui.bindL hda hdb ho)
  refine t_wordF rfl rn l_unknown e1 ?_
  refine iteF ?_
  by_cases e2 : word cb = "unknown"
  · refine t_wordT rfl rf l_unknown e2 ?_
    refine iteT ?_
    refine t_wordF rfl rn l_unknown e1 ?_
    refine iteF ?_
    obtain ⟨x, rfl⟩ := is_unknown e2
    obtain ⟨a1, rfl, hSa⟩ := rf.var
    refine ⟨_, rfl, _, _, 1, _, rfl, rfl, hSa, atI_nat (j := 1) rfl, _, rfl, Nat.le_of_ble_eq_true rfl, fun r hr0 => ⟨r, _, rfl, .inl (.inl upd_same), rfl, _, _, rfl, _, _, rfl, rfl, ?_⟩⟩
    have S4 := same_new (H := H3) (p := r) (o := .tup [nV x, nv]) hr0
    refine ⟨_, rfl, _, rfl, _, rfl, d, nv, ca, raw, tri, x, rfl, rn.mono (tst_same S4), hT3.same S4, ui.L, okc.right, hdb.isfree rfl, fun H5 S5 ho => ⟨_, rfl, iteT ?_⟩, fun H5 B5 ho hT5 => ⟨_, rfl, iteF ?_⟩⟩
    · exact qF H5 (but_mono B3 (same_trans S4 S5)) (ui.fail fun θ hs e => bind_no ui.L hdb hda ec (fun k z => okc.wa.nop k (by rw [z]; exact occ_var.mpr ⟨rfl, rfl⟩)) ho θ hs e.symm)
    · exact done H5 x ca _ _ _ _ _ ((but_same S4).trans B5) hT5 (ui.bindR hda hdb ho)
  refine t_wordF rfl rf l_unknown e2 ?_
  refine iteF ?_
  have nca : ∃ l as, ca = .node l as := by
    cases ca with
    | var p k =>
      cases p with
      | false => exact absurd rfl e1
      | true => exact absurd (occ_var.mpr ⟨rfl, rfl⟩) (okc.wa.nop k)
    | node l as => exact ⟨l, as, rfl⟩
  have ncb : ∃ l as, cb = .node l as := by
    cases cb with
    | var p k =>
      cases p with
      | false => exact absurd rfl e2
      | true => exact absurd (occ_var.mpr ⟨rfl, rfl⟩) (okc.wb.nop k)
    | node l as => exact ⟨l, as, rfl⟩
  obtain ⟨l, as, rfl⟩ := nca
  obtain ⟨l2, bs, rfl⟩ := ncb
  refine t_words rfl rfl rn rf ?_
  by_cases e4 : word (.node l as) = word (.node l2 bs)
  case neg =>
    refine iteB1 (notF e4) (iteT ?_)
    exact qF H3 B3 (ui.fail (node_no ui.L hda hdb (.inl fun z => e4 (by rw [z]; rfl))))
  refine iteB0 (notT e4) ?_
  refine t_kids rfl rfl rn rf okc.wa.wf okc.wb.wf fun H4 S4 => ?_
  by_cases e5 : as.length = bs.length
  case neg =>
    refine iteB1 (notF e5) ?_
    exact qF H4 (but_mono B3 S4) (ui.fail (node_no ui.L hda hdb (.inr e5)))
  refine iteB0 (notT e5) ?_
  have rn4 := rn.mono (tst_same S4)
  have rf4 := rf.mono (tst_same S4)
  -- the names of data
  have third : ∀ Qt : Bool → Hp → Prop, (l = l2 → Qt false H4) → (l ≠ l2 → Qt true H4) →
      tAnd (tTest (tOp (rEqG K) (tOp (rIxT K) (tVar 4) (tC (.int 0))) (tC (.str "data")))) (tTest (tOp (rNeG K) (tOp (rIxT K) (tVar 4) (tC (.int 1))) (tOp (rIxT K) (tVar 5) (tC (.int 1))))) [some (.ref d), some v, some u, some (.ref L), some nv, some fv, o6, o7] H4 Qt := by
    intro Qt qF qT
    rcases words_eq e4 with ⟨p2, k, j, z, _⟩ | ⟨l', as', bs', z1, z2, hl⟩ | ⟨n1, m1, as', bs', z1, z2⟩
    · cases z
    · injection z1 with z1 z1'
      injection z2 with z2 z2'
      have nd : word (.node l as) ≠ "data" := fun z => by
        obtain ⟨n2, as2, z⟩ := is_data z
        injection z with z _
        exact hl n2 (z1.symm.trans z)
      refine t_wordF rfl rn4 l_data nd ?_
      exact iteF (qF (z1.trans z2.symm))
    · injection z1 with z1 z1'
      injection z2 with z2 z2'
      subst z1 z2
      refine t_wordT rfl rn4 l_data rfl ?_
      refine iteT ?_
      refine t_names rfl rfl rn4 rf4 ?_
      by_cases en : n1 = m1
      · rw [notT en]; exact qF (by rw [en])
      · rw [notF en]; exact qT fun z => en (by injection z)
  refine third _ (fun el => ?_) fun el => ?_
  case refine_2 =>
    refine iteT ?_
    exact qF H4 (but_mono B3 S4) (ui.fail (node_no ui.L hda hdb (.inl el)))
  subst el
  refine iteF ?_
  have e34 := S4 _ _ e3
  refine ⟨_, rfl, .inl ⟨rfl, _, .inl (.inl e34)⟩, _, rfl, nv, _, rfl, rn4, okc.wa.wf, fun b1 ks H5 S5 hb1 hR1 => ⟨_, rfl, fv, _, rfl, rf4.mono (tst_same S5), okc.wb.wf, fun b2 js H6 S6 hb2 hR2 => ⟨b1, b2, ks, js, rfl, tst_seq (tst_same S6) hb1, hb2, ?_, ?_, fun D2 H7 ts S7 hD2 hD7 hlen hts => ?_⟩⟩⟩
  · rw [hR1.length, hR2.length]; exact e5
  · rw [hR1.length]; have := kids_len okc.wa.wf; exact Nat.le_trans this (by decide)
  have S47 := same_trans S5 (same_trans S6 S7)
  have e37 := S47 _ _ e34
  have ui2 := ui.node hda hdb e5
  have l7 := ui2.len
  have xl := paired_len hP'
  have kl := hR1.length
  refine ⟨L, D2, xs', ts.map V.ref, rfl, rfl, e37, hD7, ?_, ?_⟩
  · rw [List.length_append, List.length_zip] at l7
    rw [List.length_map, hlen, kl, sizeLine_eq]
    have k4 := kids_len okc.wa.wf
    have k5 : (kids (.node l as)).length = as.length := rfl
    omega
  have T8 : Tst H7 (upd H7 L (.lst (xs' ++ ts.map V.ref))) := tst_but (but_upd _) (by rw [e37]; exact notup_lst)
  have T38 := ((tst_same S4).trans (tst_same S47)).trans T8
  refine ⟨_, meas_node ui hda, _, _, _, _, xs' ++ ts.map V.ref, ps' ++ as.zip bs, raw, tri, rfl, but_mut ((B3.trans (but_same S4)).trans (but_same S47)) hL0, upd_same, paired_append (paired_imp (fun _ _ => PrIs.mono T38) hP3) ?_, ?_, ui2, rfl⟩
  · have hR1' := (hR1.mono ((tst_same S6).trans (tst_same S7))).mono T8
    have hR2' := (hR2.mono (tst_same S7)).mono T8
    refine paired_of (by rw [List.length_map, List.length_zip, hlen, kl, show (kids (.node l as)).length = as.length from rfl, e5]; omega) fun i z q ez eq => ?_
    rw [List.getElem?_map] at ez
    obtain ⟨t, et, rfl⟩ := Option.map_eq_some_iff.mp ez
    obtain ⟨x1, y1, ex, ey, hh⟩ := hts i t et
    obtain ⟨g1, g2, _⟩ := mem_zip_at eq
    obtain ⟨k1, ek1, hk1⟩ := hR1'.at ex
    obtain ⟨k2, ek2, hk2⟩ := hR2'.at ey
    have w1 : as[i]? = some k1 := ek1
    have w2 : bs[i]? = some k2 := ek2
    rw [g1] at w1; cases w1
    rw [g2] at w2; cases w2
    exact ⟨t, x1, y1, rfl, tst_seq T8 (.inl (.inl hh)), hk1, hk2⟩
  · obtain ⟨kvs, e, hk⟩ := (hT3.same S4).same S47
    exact ⟨kvs, by rw [upd_ne (Ne.symm nLd)]; exact e, hk.mono T8⟩
end
end UW

/-! Replacements: asked, put, found. -/
namespace UW
open PySem PySem.Spec PyProof.Rows L2 U UV UD UX
section
variable {P : Program} {w : World} {K : PySem.W.Frag} {mg : Str → Option Value} {base : Heap}

structure ROk (n : Nat) (r : Told) : Prop where
  nd : (keys r).Nodup
  len : r.length ≤ 6
  ok : ∀ q ∈ r, Okt n q.2
theorem keys_len (r : Told) : (keys r).length = r.length := by unfold keys; rw [List.length_map]
theorem strict_nodup : ∀ {l : List Int}, l.Pairwise (· < ·) → l.Nodup := fun h => h.imp fun hlt e => by omega
open Classical in
theorem len_of_set {ns : List Int} {ms : List Int} (h1 : ns.Pairwise (· < ·)) (h2 : ∀ k, k ∈ ns ↔ k ∈ ms) (h3 : ms.Nodup) : ns.length = ms.length :=
  Nat.le_antisymm (nodup_sub (strict_nodup h1) fun x hx => (h2 x).mp hx) (nodup_sub h3 fun x hx => (h2 x).mpr hx)
abbrev zI (k : Nat) : Int := (k : Int)
theorem nat_ints (l : List Nat) : l.map nV = (l.map zI).map V.int := by rw [List.map_map]; rfl
theorem nodup_ints {l : List Nat} (h : l.Nodup) : (l.map zI).Nodup := List.pairwise_map.mpr (List.Pairwise.imp (fun h e => h (Int.ofNat.inj e)) h)
/-- one row of a replacement asked -/
def spRepl (K : PySem.W.Frag) (n : Nat) (lst : Bool) : Sp := fun vs H Q _ => ∃ a xs r, vs = [.ref a] ∧ (if lst = true then SqL K H a xs else SqT K H a xs) ∧ RowsAre K H xs r ∧ ROk n r ∧ ∀ H', Same H H' → Q (.bl true) H'
theorem ok_repl_list (D : Defs K mg) (n : Nat) : FnOk P w K mg base CX0 (2 * n + 9) D.is_replacement.a D.is_replacement.fd ["value"] (spRepl K n true) := by
  have G_is_list := ok_is_list (P := P) (w := w) (base := base) D
  have G_is_count := ok_is_count (P := P) (w := w) (base := base) D
  have G_is_loose_type := ok_is_loose_type (P := P) (w := w) (base := base) D n
  have sc := sc_is_replacement
  refine D.is_replacement.F.ok sc (fun vs H Q E h => ?_) (fun cdv A outer s H vs Q E hr h => ?_)
  · obtain ⟨a, xs, r, rfl, _⟩ := h
    rfl
  obtain ⟨a, xs, r, rfl, hS, hR, g, q⟩ := h
  rw [if_pos rfl] at hS
  refine ⟨_, (pss_cons (ps_if (pt_not (pt_val (pcall D.is_list G_is_list (hr.mono (by omega)) (by rfl) (pa_cons (pv 0) pa_nil)))) (pss_one (ps_ret pe_bl)) pss_nil)
      (pss_cons (ps_for PassesOwn.never rfl (pi_list (pv 0)) (pg_name (i := 1) sc.nd rfl (Or.inl rfl)) (pss_one (ps_if (PW.pt (pw_or (pt_not (pt_val (pe_callB call_isi (by rfl) D.z_isinstance (by decide +kernel) (pa_cons (pv 1) (pa_cons (pe_bltn (v := .ty "tuple") (u := .type "tuple") (by rfl) D.z_tuple (by decide +kernel) rfl) pa_nil))))) (pw_or (pt_cmpR (op_neG (room_eq hr)) (pe_callB call_len_seq (by rfl) D.z_len (by decide +kernel) (pa_cons (pv 1) pa_nil)) pe_int (nomark _)) (pw_or (pt_not (pt_val (pcall D.is_count G_is_count (hr.mono (by omega)) (by rfl) (pa_cons (pe_ix ix_tup (pv 1) pe_int (fun _ _ => rfl)) pa_nil)))) (pw_or1 (pt_not (pt_val (pcall D.is_loose_type G_is_loose_type (hr.mono (by omega)) (by rfl) (pa_cons (pe_ix ix_tup (pv 1) pe_int (fun _ _ => rfl)) pa_nil))))))))) (pss_one (ps_ret pe_bl)) pss_nil)))
      (pss_cons (ps_setLc (i := 2) (own := [("number", 3), ("loose", 4)]) rfl sc.nd rfl rfl (sw_true rfl rfl rfl (by decide +kernel)) (pi_list (pv 0)) (blkOk_by (own := [("number", 3), ("loose", 4)]) (N := ["value", "one", "numbers", "number", "loose"]) (sc := defScope s_is_replacement) (by decide +kernel)) (fun _ _ _ _ _ => (show PG _ _ (gTup K 2 (gCons (gName 3) (gCons (gName 4) gNil))) from pg_tup rfl (pgs_cons (pg_name (i := 3) sc.nd rfl (Or.inl rfl)) (pgs_cons (pg_name (i := 4) sc.nd rfl (Or.inl rfl)) pgs_nil)))) (fun _ _ _ _ _ => pts_nil) (fun _ _ _ _ _ => (pv 3)))
      (pss_one (ps_ret (pe_cmpR (op_eqG (room_eq hr)) (pe_callB call_len_seq (by rfl) D.z_len (by decide +kernel) (pa_cons (pe_callB (cr_sortedSet rfl) (by rfl) D.z_sorted (by decide +kernel) (pa_cons (pe_callTy (UR.cr_setL rfl) (by rfl) D.z_set (by decide +kernel) (pa_cons (pv 2) pa_nil)) pa_nil)) pa_nil)) (pe_callB call_len_seq (by rfl) D.z_len (by decide +kernel) (pa_cons (pv 2) pa_nil)) (nomark _))))))), ?_⟩
  refine ⟨_, rfl, a, xs, rfl, .inl hS, fun H1 S1 => ⟨_, rfl, iteF ?_⟩⟩
  have hS1 := sql_same S1 hS
  have hR1 := hR.mono (tst_same S1)
  have hlen := hR.len
  refine ⟨_, rfl, a, rfl, ⟨xs, hS1⟩, ?_⟩
  refine for_list (xs := xs) (fun i σ H' => (∃ lv, σ = [some (.ref a), lv, none, none, none]) ∧ Same H1 H') ⟨⟨none, rfl⟩, fun _ _ z => z⟩ (fun i σ H' _ h => sql_same h.2 hS1) (fun i x σ H' e h => ?_) fun σ H' h => ?_
  · obtain ⟨⟨lv, rfl⟩, S⟩ := h
    obtain ⟨p, q2, rfl, eq, v, hp, hv⟩ := hR1.at e
    have gq := g.ok q2 (List.mem_of_getElem? eq)
    have hp' := tst_seq (tst_same S) hp
    refine ⟨_, rfl, _, _, .type "tuple", .type "tuple", true, rfl, .ty "tuple", ty_tup hp', kit_ty kit_tup, _, rfl, iteF ?_⟩
    refine t_lenNe (fun R r => ⟨_, rfl, r⟩) hp' ?_
    refine iteB0 (notT rfl) ?_
    refine ⟨_, rfl, _, _, 0, _, rfl, rfl, hp', atI_nat (j := 0) rfl, q2.1, rfl, _, rfl, iteF ?_⟩
    refine ⟨_, rfl, _, _, 1, _, rfl, rfl, hp', atI_nat (j := 1) rfl, v, q2.2, rfl, hv.mono (tst_same S), gq, fun H2 S2 => ⟨_, rfl, iteF ⟨⟨_, rfl⟩, same_trans S S2⟩⟩⟩
  · obtain ⟨⟨lv, rfl⟩, S⟩ := h
    refine ⟨_, rfl, a, rfl, ⟨xs, sql_same S hS1⟩, fun D2 hD2 => ?_⟩
    have hS2 := sql_same S hS1
    have hR2 := hR1.mono (tst_same S)
    refine lc_list (xs := xs) (fun i H2 => Same H' H2 ∧ H2 D2 = some (.lst (((keys r).take i).map nV))) ⟨same_new hD2, upd_same⟩ (fun i H2 _ h => sql_same h.1 hS2) (fun i x H2 e h => ?_) fun H2 h => ?_
    · obtain ⟨S2, hA⟩ := h
      obtain ⟨p, q2, rfl, eq, v, hp, hv⟩ := hR2.at e
      refine ⟨p, _, rfl, tst_seq (tst_same S2) hp, rfl, _, _, rfl, _, _, rfl, rfl, rfl, yes_run ?_⟩
      have hi : (keys r)[i]? = some q2.1 := by unfold keys; rw [List.getElem?_map, eq]; rfl
      have := g.len
      refine ⟨_, rfl, _, hA, ?_, same_mut S2 hD2, ?_⟩
      · rw [List.length_map, List.length_take, keys_len, sizeLine_eq]; omega
      · rw [upd_same, List.take_add_one, hi, List.map_append]; rfl
    · obtain ⟨S2, hA⟩ := h
      rw [hlen, ← keys_len, List.take_length] at hA
      have g6 := g.len
      have kl := keys_len r
      refine ⟨_, rfl, D2, (keys r).map zI, rfl, .inl (.inl (by rw [← nat_ints]; exact hA)), by rw [List.length_map]; omega, fun p c hp hc => ?_⟩
      rw [List.length_map] at hc
      refine ⟨p, _, c, rfl, upd_same, by omega, fun ns p2 h1 h2 h3 hp2 => ?_⟩
      have S3 := same_new (H := H2) (p := p) (o := SetO w p (fun j => decide (j ∈ (keys r).map zI)) c) hp
      have S4 := same_new (p := p2) (o := .lst (ns.map V.int)) hp2
      have S34 := same_trans S3 S4
      refine ⟨p2, _, rfl, .inl (.inl (.inl upd_same)), _, rfl, D2, _, rfl, .inl (.inl (.inl (S34 _ _ hA))), .int _, .int _, .int _, .int _, rfl, rfl, Nat.zero_le _, ?_⟩
      rw [eqv_int]
      refine vT (Q := Q) ?_ (q _ (same_trans S1 (same_trans S (same_trans S2 S34))))
      rw [List.length_map, List.length_map, len_of_set h1 (fun k => by rw [h2 k]; exact ⟨fun z => of_decide_eq_true z, fun z => decide_eq_true z⟩) (nodup_ints g.nd), List.length_map]
theorem ok_repl_tup (D : Defs K mg) (n : Nat) : FnOk P w K mg base CX0 (2 * n + 9) D.is_replacement.a D.is_replacement.fd ["value"] (spRepl K n false) := by
  have G_is_list := ok_is_list (P := P) (w := w) (base := base) D
  have G_is_count := ok_is_count (P := P) (w := w) (base := base) D
  have G_is_loose_type := ok_is_loose_type (P := P) (w := w) (base := base) D n
  have sc := sc_is_replacement
  refine D.is_replacement.F.ok sc (fun vs H Q E h => ?_) (fun cdv A outer s H vs Q E hr h => ?_)
  · obtain ⟨a, xs, r, rfl, _⟩ := h
    rfl
  obtain ⟨a, xs, r, rfl, hS, hR, g, q⟩ := h
  rw [if_neg (by decide)] at hS
  refine ⟨_, (pss_cons (ps_if (pt_not (pt_val (pcall D.is_list G_is_list (hr.mono (by omega)) (by rfl) (pa_cons (pv 0) pa_nil)))) (pss_one (ps_ret pe_bl)) pss_nil)
      (pss_cons (ps_for PassesOwn.never rfl (pi_tup (pv 0)) (pg_name (i := 1) sc.nd rfl (Or.inl rfl)) (pss_one (ps_if (PW.pt (pw_or (pt_not (pt_val (pe_callB call_isi (by rfl) D.z_isinstance (by decide +kernel) (pa_cons (pv 1) (pa_cons (pe_bltn (v := .ty "tuple") (u := .type "tuple") (by rfl) D.z_tuple (by decide +kernel) rfl) pa_nil))))) (pw_or (pt_cmpR (op_neG (room_eq hr)) (pe_callB call_len_seq (by rfl) D.z_len (by decide +kernel) (pa_cons (pv 1) pa_nil)) pe_int (nomark _)) (pw_or (pt_not (pt_val (pcall D.is_count G_is_count (hr.mono (by omega)) (by rfl) (pa_cons (pe_ix ix_tup (pv 1) pe_int (fun _ _ => rfl)) pa_nil)))) (pw_or1 (pt_not (pt_val (pcall D.is_loose_type G_is_loose_type (hr.mono (by omega)) (by rfl) (pa_cons (pe_ix ix_tup (pv 1) pe_int (fun _ _ => rfl)) pa_nil))))))))) (pss_one (ps_ret pe_bl)) pss_nil)))
      (pss_cons (ps_setLc (i := 2) (own := [("number", 3), ("loose", 4)]) rfl sc.nd rfl rfl (sw_true rfl rfl rfl (by decide +kernel)) (pi_tup (pv 0)) (blkOk_by (own := [("number", 3), ("loose", 4)]) (N := ["value", "one", "numbers", "number", "loose"]) (sc := defScope s_is_replacement) (by decide +kernel)) (fun _ _ _ _ _ => (show PG _ _ (gTup K 2 (gCons (gName 3) (gCons (gName 4) gNil))) from pg_tup rfl (pgs_cons (pg_name (i := 3) sc.nd rfl (Or.inl rfl)) (pgs_cons (pg_name (i := 4) sc.nd rfl (Or.inl rfl)) pgs_nil)))) (fun _ _ _ _ _ => pts_nil) (fun _ _ _ _ _ => (pv 3)))
      (pss_one (ps_ret (pe_cmpR (op_eqG (room_eq hr)) (pe_callB call_len_seq (by rfl) D.z_len (by decide +kernel) (pa_cons (pe_callB (cr_sortedSet rfl) (by rfl) D.z_sorted (by decide +kernel) (pa_cons (pe_callTy (UR.cr_setL rfl) (by rfl) D.z_set (by decide +kernel) (pa_cons (pv 2) pa_nil)) pa_nil)) pa_nil)) (pe_callB call_len_seq (by rfl) D.z_len (by decide +kernel) (pa_cons (pv 2) pa_nil)) (nomark _))))))), ?_⟩
  refine ⟨_, rfl, a, xs, rfl, .inr hS, fun H1 S1 => ⟨_, rfl, iteF ?_⟩⟩
  have hS1 := tst_seq (tst_same S1) hS
  have hR1 := hR.mono (tst_same S1)
  have hlen := hR.len
  refine ⟨_, rfl, a, rfl, ⟨xs, hS1⟩, ?_⟩
  refine for_tup (xs := xs) (fun i σ H' => (∃ lv, σ = [some (.ref a), lv, none, none, none]) ∧ Same H1 H') ⟨⟨none, rfl⟩, fun _ _ z => z⟩ (fun i σ H' _ h => tst_seq (tst_same h.2) hS1) (fun i x σ H' e h => ?_) fun σ H' h => ?_
  · obtain ⟨⟨lv, rfl⟩, S⟩ := h
    obtain ⟨p, q2, rfl, eq, v, hp, hv⟩ := hR1.at e
    have gq := g.ok q2 (List.mem_of_getElem? eq)
    have hp' := tst_seq (tst_same S) hp
    refine ⟨_, rfl, _, _, .type "tuple", .type "tuple", true, rfl, .ty "tuple", ty_tup hp', kit_ty kit_tup, _, rfl, iteF ?_⟩
    refine t_lenNe (fun R r => ⟨_, rfl, r⟩) hp' ?_
    refine iteB0 (notT rfl) ?_
    refine ⟨_, rfl, _, _, 0, _, rfl, rfl, hp', atI_nat (j := 0) rfl, q2.1, rfl, _, rfl, iteF ?_⟩
    refine ⟨_, rfl, _, _, 1, _, rfl, rfl, hp', atI_nat (j := 1) rfl, v, q2.2, rfl, hv.mono (tst_same S), gq, fun H2 S2 => ⟨_, rfl, iteF ⟨⟨_, rfl⟩, same_trans S S2⟩⟩⟩
  · obtain ⟨⟨lv, rfl⟩, S⟩ := h
    refine ⟨_, rfl, a, rfl, ⟨xs, tst_seq (tst_same S) hS1⟩, fun D2 hD2 => ?_⟩
    have hS2 := tst_seq (tst_same S) hS1
    have hR2 := hR1.mono (tst_same S)
    refine lc_tup (xs := xs) (fun i H2 => Same H' H2 ∧ H2 D2 = some (.lst (((keys r).take i).map nV))) ⟨same_new hD2, upd_same⟩ (fun i H2 _ h => tst_seq (tst_same h.1) hS2) (fun i x H2 e h => ?_) fun H2 h => ?_
    · obtain ⟨S2, hA⟩ := h
      obtain ⟨p, q2, rfl, eq, v, hp, hv⟩ := hR2.at e
      refine ⟨p, _, rfl, tst_seq (tst_same S2) hp, rfl, _, _, rfl, _, _, rfl, rfl, rfl, yes_run ?_⟩
      have hi : (keys r)[i]? = some q2.1 := by unfold keys; rw [List.getElem?_map, eq]; rfl
      have := g.len
      refine ⟨_, rfl, _, hA, ?_, same_mut S2 hD2, ?_⟩
      · rw [List.length_map, List.length_take, keys_len, sizeLine_eq]; omega
      · rw [upd_same, List.take_add_one, hi, List.map_append]; rfl
    · obtain ⟨S2, hA⟩ := h
      rw [hlen, ← keys_len, List.take_length] at hA
      have g6 := g.len
      have kl := keys_len r
      refine ⟨_, rfl, D2, (keys r).map zI, rfl, .inl (.inl (by rw [← nat_ints]; exact hA)), by rw [List.length_map]; omega, fun p c hp hc => ?_⟩
      rw [List.length_map] at hc
      refine ⟨p, _, c, rfl, upd_same, by omega, fun ns p2 h1 h2 h3 hp2 => ?_⟩
      have S3 := same_new (H := H2) (p := p) (o := SetO w p (fun j => decide (j ∈ (keys r).map zI)) c) hp
      have S4 := same_new (p := p2) (o := .lst (ns.map V.int)) hp2
      have S34 := same_trans S3 S4
      refine ⟨p2, _, rfl, .inl (.inl (.inl upd_same)), _, rfl, D2, _, rfl, .inl (.inl (.inl (S34 _ _ hA))), .int _, .int _, .int _, .int _, rfl, rfl, Nat.zero_le _, ?_⟩
      rw [eqv_int]
      refine vT (Q := Q) ?_ (q _ (same_trans S1 (same_trans S (same_trans S2 S34))))
      rw [List.length_map, List.length_map, len_of_set h1 (fun k => by rw [h2 k]; exact ⟨fun z => of_decide_eq_true z, fun z => decide_eq_true z⟩) (nodup_ints g.nd), List.length_map]
def spRepl2 (K : PySem.W.Frag) (n : Nat) : Sp := fun vs H Q _ => ∃ a xs r, vs = [.ref a] ∧ (SqL K H a xs ∨ SqT K H a xs) ∧ RowsAre K H xs r ∧ ROk n r ∧ ∀ H', Same H H' → Q (.bl true) H'
theorem ok_is_replacement (D : Defs K mg) (n : Nat) : FnOk P w K mg base CX0 (2 * n + 9) D.is_replacement.a D.is_replacement.fd ["value"] (spRepl2 K n) := by
  refine ⟨fun vs H Q E h => ?_, fun A outer s H args us vs Q E hr he hb hv h => ?_⟩
  · obtain ⟨a, xs, r, rfl, _⟩ := h
    rfl
  obtain ⟨a, xs, r, rfl, h1, h2⟩ := h
  rcases h1 with h1 | h1
  · exact (ok_repl_list D n).run A outer s H args us _ Q E hr he hb hv ⟨a, xs, r, rfl, h1, h2⟩
  · exact (ok_repl_tup D n).run A outer s H args us _ Q E hr he hb hv ⟨a, xs, r, rfl, h1, h2⟩

/-! ### most_general -/
/-- told unknowns and what they are opened -/
def rowsOf (tri : Told) (ns : List Nat) : Told := ns.map fun k => (k, apv tri k)
theorem perm_nats {ns : List Int} {ks : List Nat} (h : ns.Perm (ks.map zI)) : ∃ ms : List Nat, ns = ms.map zI ∧ ms.Perm ks := by
  refine ⟨ns.map Int.toNat, ?_, ?_⟩
  · rw [List.map_map]
    have : ns.map (zI ∘ Int.toNat) = ns.map id := List.map_congr_left fun x hx => by
      obtain ⟨k, _, e⟩ := List.mem_map.mp (h.mem_iff.mp hx)
      rw [← e]; rfl
    rw [this, List.map_id]
  · have := h.map Int.toNat
    rw [List.map_map] at this
    have e : ks.map (Int.toNat ∘ zI) = ks.map id := List.map_congr_left fun x _ => rfl
    rw [e, List.map_id] at this
    exact this
def spMost (K : PySem.W.Frag) : Sp := fun vs H Q _ => ∃ v u a b, vs = [v, u] ∧ Rep K H v a ∧ Rep K H u b ∧ POk a b ∧ (∀ H', Same H H' → (∀ θ, put false θ a ≠ put false θ b) → Q .non H') ∧
  (∀ H' l xs raw tri ns, Same H H' → H' l = some (.lst xs) → RowsAre K H' xs (rowsOf tri ns) → ns.Perm (keys tri) → Lnk (Gd 3) raw tri → Mgu tri a b → Q (.ref l) H')
theorem dictIs_keys {H : Hp} {kvs : List (Key × V)} {r : Told} (h : DictIs K H kvs r) : kvs.map (fun kv => kV kv.1) = (keys r).map nV := by
  have := congrArg (List.map kV) h.1
  rw [List.map_map, List.map_map] at this
  unfold keys
  rw [List.map_map]
  exact this
theorem ok_most_general (D : Defs K mg) : FnOk P w K mg base CX0 30 D.most_general.a D.most_general.fd ["one", "other"] (spMost K) := by
  have G_unite := ok_unite (P := P) (w := w) (base := base) D
  have G_opened := ok_opened (P := P) (w := w) (base := base) D 27
  have sc := sc_most_general
  refine D.most_general.F.ok sc (fun vs H Q E h => ?_) (fun cdv A outer s H vs Q E hr h => ?_)
  · obtain ⟨v, u, a, b, rfl, _⟩ := h
    rfl
  obtain ⟨v, u, a, b, rfl, ha, hb, pk, q1, q2⟩ := h
  refine ⟨_, (pss_cons (ps_set (i := 2) sc.nd rfl (Or.inr rfl) pe_dnewK)
      (pss_cons (ps_if (pt_not (pt_val (pcall D.unite G_unite (hr.mono (by omega)) (by rfl) (pa_cons (pv 2) (pa_cons (pv 0) (pa_cons (pv 1) pa_nil)))))) (pss_one (ps_ret pe_non)) pss_nil)
      (pss_one (ps_ret (pe_lc (own := [("number", 3)]) rfl sc.nd (pi_list (pe_callB cr_sorted (by rfl) D.z_sorted (by decide +kernel) (pa_cons (pe_callTy (call_list_dK rfl) (by rfl) D.z_list (by decide +kernel) (pa_cons (pv 2) pa_nil)) pa_nil))) (blkOk_by (own := [("number", 3)]) (N := ["one", "other", "told", "number"]) (sc := defScope s_most_general) (by decide +kernel)) (fun _ _ _ _ _ => (pg_name (i := 3) sc.nd rfl (Or.inl rfl))) (fun _ _ _ _ _ => pts_nil) (fun _ _ _ _ _ => (pe_tup (pa_cons (pv 3) (pa_cons (pcall D.opened G_opened (hr.mono (by omega)) (by rfl) (pa_cons (pe_dget (hu_of hr) (pv 2) (pv 3) (fun _ _ => rfl)) (pa_cons (pv 2) pa_nil))) pa_nil))))))))), ?_⟩
  intro d hd
  have S0 := same_new (H := H) (p := d) (o := .dK []) hd
  refine ⟨_, rfl, _, rfl, _, rfl, d, v, u, a, b, rfl, ha.mono (tst_same S0), hb.mono (tst_same S0), ⟨[], upd_same, DictIs.nil⟩, pk, fun H1 raw tri B1 hT1 L mg => ⟨_, rfl, iteF ?_⟩, fun H1 B1 no => ⟨_, rfl, iteT ?_⟩⟩
  · have S1 : Same H H1 := same_but hd ((but_same S0).trans B1)
    obtain ⟨kvs, e1, hk⟩ := hT1
    refine ⟨_, rfl, d, kvs, rfl, e1, fun l hl => ?_⟩
    have S2 := same_new (H := H1) (p := l) (o := .lst (kvs.map fun kv => kV kv.1)) hl
    have hkeys := dictIs_keys hk
    have L6 := L.len
    have lr := L.len_raw
    refine ⟨l, (keys raw).map zI, rfl, .inl (.inl (by rw [← nat_ints, ← hkeys]; exact upd_same)), by rw [List.length_map, keys_len]; omega, fun ns l2 hp _ hl2 => ?_⟩
    obtain ⟨ms, rfl, hpm⟩ := perm_nats hp
    rw [← nat_ints]
    have S3 := same_new (p := l2) (o := .lst (ms.map nV)) hl2
    have S123 := same_trans S2 S3
    have hT3 : TolD K _ d raw := TolD.same ⟨kvs, e1, hk⟩ S123
    refine ⟨l2, rfl, ⟨_, .inl (.inl upd_same)⟩, fun D2 hD2 => ?_⟩
    have lm : ms.length ≤ 6 := by rw [hpm.length_eq, keys_len]; omega
    refine lc_rows (K := K) (f := fun i => (ms.getD i 0, apv tri (ms.getD i 0))) (walk_list (K := K) (a := l2) (xs := ms.map nV)) hD2 (by rw [List.length_map]; omega) (fun H' S => .inl (.inl (S _ _ upd_same))) (fun i x H' H2' Q2 N hi S y hq => ?_) fun H4 xs S4 h4 hR => ?_
    · obtain ⟨rfl, ex⟩ := y
      rw [List.getElem?_map] at ex
      obtain ⟨k, ek, rfl⟩ := Option.map_eq_some_iff.mp ex
      have hkm : k ∈ keys raw := hpm.mem_iff.mp (List.mem_of_getElem? ek)
      have egd : ms.getD i 0 = k := by rw [List.getD_eq_getElem?_getD, ek]; rfl
      rw [egd] at hq
      have hT' := hT3.same S
      cases el : raw.lookup k with
      | none => exact absurd hkm (look_none.mp el)
      | some t =>
        obtain ⟨z, g, hz⟩ := hT'.yes el
        have gt := L.old _ (look_mem el)
        refine ⟨rfl, yes_run ?_⟩
        have dt := L.depth_le (d := 3) (fun t g => g.dp) 6 t (L.rank t)
        have d3 := gt.dp
        refine ⟨_, rfl, _, rfl, _, rfl, d, z, rfl, g, _, rfl, z, t, d, Gd 3, raw, tri, 6, rfl, hz, gt.wf, hT', L, fun t g => g.wf, L.rank t, by have : depth (k, t).2 ≤ 3 := d3; have : depth t ≤ 3 := d3; omega, fun y2 H5 S5 hy => ⟨Nat.le_of_ble_eq_true rfl, fun p hp => ?_⟩⟩
        refine hq p _ (same_trans S5 (same_new hp)) ?_
        have e5 : apv tri k = ap tri t := L.look el
        rw [e5]
        exact row_new hp hy
    · rw [List.length_map] at hR
      have er : (List.range ms.length).map (fun i => (ms.getD i 0, apv tri (ms.getD i 0))) = rowsOf tri ms := by
        unfold rowsOf
        refine List.ext_getElem? fun i => ?_
        rw [List.getElem?_map, List.getElem?_map]
        by_cases hi : i < ms.length
        · rw [List.getElem?_range hi, List.getElem?_eq_getElem hi]
          simp [hi]
        · rw [List.getElem?_eq_none (by rw [List.length_range]; omega), List.getElem?_eq_none (by omega)]
          rfl
      rw [er] at hR
      exact q2 H4 D2 xs raw tri ms (same_trans S1 (same_trans S123 S4)) h4 hR (by rw [← L.keys]; exact hpm) L mg
  · exact q1 H1 (same_but hd ((but_same S0).trans B1)) no
end
end UW

/-! unifies, replaced, unified, is_unifier. -/
namespace UW
open PySem PySem.Spec PyProof.Rows L2 U UV UD UX
section
variable {P : Program} {w : World} {K : PySem.W.Frag} {mg : Str → Option Value} {base : Heap}

theorem lk_okt {n : Nat} {r : Told} (g : ∀ q ∈ r, Okt n q.2) (k : Nat) : wf (lk false r k) ∧ depth (lk false r k) ≤ n := by
  unfold lk
  cases e : r.lookup k with
  | none => exact ⟨(by show wf (.var false k); rw [wf]; trivial), by show depth (.var false k) ≤ n; rw [depth]; omega⟩
  | some t => have := g (k, t) (look_mem e); exact ⟨this.wf, this.dp⟩
theorem put_okt {n : Nat} {r : Told} (g : ∀ q ∈ r, Okt n q.2) {t : Ty} (hw : wf t) : wf (put false (lk false r) t) ∧ depth (put false (lk false r) t) ≤ depth t + n :=
  ⟨wf_put t hw fun k _ => (lk_okt g k).1, depth_put_le t fun k _ => (lk_okt g k).2⟩
def spUnif (K : PySem.W.Frag) : Sp := fun vs H Q _ => ∃ v u x a b xs r, vs = [v, u, .ref x] ∧ Rep K H v a ∧ Rep K H u b ∧ wf a ∧ wf b ∧ depth a ≤ 40 ∧ depth b ≤ 40 ∧ SqL K H x xs ∧ RowsAre K H xs r ∧ ROk 40 r ∧ ∀ c H', Same H H' → (c = true ↔ put false (lk false r) a = put false (lk false r) b) → Q (.bl c) H'
theorem ok_unifies (D : Defs K mg) : FnOk P w K mg base CX0 90 D.unifies.a D.unifies.fd ["one", "other", "value"] (spUnif K) := by
  have G_is_replacement := ok_is_replacement (P := P) (w := w) (base := base) D 40
  have G_with_unknowns := ok_with_unknowns (P := P) (w := w) (base := base) D 40
  have sc := sc_unifies
  refine D.unifies.F.ok sc (fun vs H Q E h => ?_) (fun cdv A outer s H vs Q E hr h => ?_)
  · obtain ⟨v, u, x, a, b, xs, r, rfl, _⟩ := h
    rfl
  obtain ⟨v, u, x, a, b, xs, r, rfl, ha, hb, wa, wb, da, db, hS, hR, g, q⟩ := h
  refine ⟨_, (pss_cons (ps_if (pt_not (pt_val (pcall D.is_replacement G_is_replacement (hr.mono (by omega)) (by rfl) (pa_cons (pv 2) pa_nil)))) (pss_one (ps_ret pe_bl)) pss_nil)
      (pss_cons (ps_set (i := 3) sc.nd rfl (Or.inl rfl) (pe_callTy (call_dictP rfl) (by rfl) D.z_dict (by decide +kernel) (pa_cons (pe_callTy call_list_of (by rfl) D.z_list (by decide +kernel) (pa_cons (pv 2) pa_nil)) pa_nil)))
      (pss_one (ps_ret (pe_cmpR (op_eqG (room_eq hr)) (pcall D.with_unknowns G_with_unknowns (hr.mono (by omega)) (by rfl) (pa_cons (pv 0) (pa_cons (pv 3) pa_nil))) (pcall D.with_unknowns G_with_unknowns (hr.mono (by omega)) (by rfl) (pa_cons (pv 1) (pa_cons (pv 3) pa_nil))) (nomark _)))))), ?_⟩
  refine ⟨_, rfl, x, xs, r, rfl, .inl hS, hR, g, fun H1 S1 => ⟨_, rfl, iteF ?_⟩⟩
  refine ⟨_, rfl, x, xs, rfl, .inl (sql_same S1 hS), fun l hl => ?_⟩
  have S2 := same_new (H := H1) (p := l) (o := .lst xs) hl
  obtain ⟨ps, kvs, rfl, g1, g2⟩ := rows_dict (hR.mono (tst_same (same_trans S1 S2))) g.nd
  refine ⟨l, ps, kvs, rfl, .inl (.inl upd_same), g1, fun d hd => ?_⟩
  have hT := g2 d hd
  have S3 := same_new (p := d) (o := .dK (mergeK [] kvs)) hd
  have S := same_trans S1 (same_trans S2 S3)
  refine ⟨_, rfl, _, rfl, v, a, d, r, rfl, ha.mono (tst_same S), wa, hT, da, fun y H4 S4 hy => ?_⟩
  refine ⟨_, rfl, _, rfl, u, b, d, r, rfl, hb.mono (tst_same (same_trans S S4)), wb, hT.same S4, db, fun z H5 S5 hz => ?_⟩
  obtain ⟨p1, p2⟩ := put_okt g.ok wa
  refine ⟨_, _, hy.mono (tst_same S5), hz, lay_tyD _, lay_tyD _, depth_t p1 (by omega), ?_⟩
  classical
  rw [eqv_ty]
  exact q _ H5 (same_trans S (same_trans S4 S5)) ⟨fun e => of_decide_eq_true e, fun e => decide_eq_true e⟩
def spIsUn (K : PySem.W.Frag) : Sp := fun vs H Q _ => ∃ v u x a b xs r, vs = [v, u, .ref x] ∧ Rep K H v a ∧ Rep K H u b ∧ Okt 40 a ∧ Okt 40 b ∧ SqL K H x xs ∧ RowsAre K H xs r ∧ ROk 40 r ∧ ∀ c H', Same H H' → (c = true ↔ put false (lk false r) a = put false (lk false r) b) → Q (.bl c) H'
theorem ok_is_unifier (D : Defs K mg) : FnOk P w K mg base CX0 91 D.is_unifier.a D.is_unifier.fd ["one", "other", "value"] (spIsUn K) := by
  have G_want_loose := ok_want_loose (P := P) (w := w) (base := base) D 40
  have G_unifies := ok_unifies (P := P) (w := w) (base := base) D
  have sc := sc_is_unifier
  refine D.is_unifier.F.ok sc (fun vs H Q E h => ?_) (fun cdv A outer s H vs Q E hr h => ?_)
  · obtain ⟨v, u, x, a, b, xs, r, rfl, _⟩ := h
    rfl
  obtain ⟨v, u, x, a, b, xs, r, rfl, ha, hb, oa, ob, hS, hR, g, q⟩ := h
  refine ⟨_, (pss_cons (ps_set (i := 3) sc.nd rfl (Or.inl rfl) (pcall D.want_loose G_want_loose (hr.mono (by omega)) (by rfl) (pa_cons (pv 0) pa_nil)))
      (pss_one (ps_ret (pcall D.unifies G_unifies (hr.mono (by omega)) (by rfl) (pa_cons (pv 3) (pa_cons (pcall D.want_loose G_want_loose (hr.mono (by omega)) (by rfl) (pa_cons (pv 1) pa_nil)) (pa_cons (pv 2) pa_nil))))))), ?_⟩
  refine ⟨_, rfl, v, a, rfl, ha, oa, fun H1 S1 => ?_⟩
  refine ⟨_, rfl, _, rfl, u, b, rfl, hb.mono (tst_same S1), ob, fun H2 S2 => ⟨_, rfl, ?_⟩⟩
  have S := same_trans S1 S2
  exact ⟨v, u, x, a, b, xs, r, rfl, ha.mono (tst_same S), hb.mono (tst_same S), oa.wf, ob.wf, oa.dp, ob.dp, sql_same S hS, hR.mono (tst_same S), g, fun c H' S' e => q c H' (same_trans S S') e⟩
def spUni (K : PySem.W.Frag) : Sp := fun vs H Q _ => ∃ v u a b, vs = [v, u] ∧ Rep K H v a ∧ Rep K H u b ∧ Okt 40 a ∧ Okt 40 b ∧ POk a b ∧ (∀ H', Same H H' → (∀ θ, put false θ a ≠ put false θ b) → Q .non H') ∧
  (∀ H' l xs raw tri ns, Same H H' → H' l = some (.lst xs) → RowsAre K H' xs (rowsOf tri ns) → ns.Perm (keys tri) → Lnk (Gd 3) raw tri → Mgu tri a b → Q (.ref l) H')
theorem ok_unified (D : Defs K mg) : FnOk P w K mg base CX0 91 D.unified.a D.unified.fd ["one", "other"] (spUni K) := by
  have G_want_loose := ok_want_loose (P := P) (w := w) (base := base) D 40
  have G_most_general := ok_most_general (P := P) (w := w) (base := base) D
  have sc := sc_unified
  refine D.unified.F.ok sc (fun vs H Q E h => ?_) (fun cdv A outer s H vs Q E hr h => ?_)
  · obtain ⟨v, u, a, b, rfl, _⟩ := h
    rfl
  obtain ⟨v, u, a, b, rfl, ha, hb, oa, ob, pk, q1, q2⟩ := h
  refine ⟨_, (pss_cons (ps_set (i := 2) sc.nd rfl (Or.inl rfl) (pcall D.want_loose G_want_loose (hr.mono (by omega)) (by rfl) (pa_cons (pv 0) pa_nil)))
      (pss_one (ps_ret (pcall D.most_general G_most_general (hr.mono (by omega)) (by rfl) (pa_cons (pv 2) (pa_cons (pcall D.want_loose G_want_loose (hr.mono (by omega)) (by rfl) (pa_cons (pv 1) pa_nil)) pa_nil)))))), ?_⟩
  refine ⟨_, rfl, v, a, rfl, ha, oa, fun H1 S1 => ?_⟩
  refine ⟨_, rfl, _, rfl, u, b, rfl, hb.mono (tst_same S1), ob, fun H2 S2 => ?_⟩
  have S := same_trans S1 S2
  exact ⟨v, u, a, b, rfl, ha.mono (tst_same S), hb.mono (tst_same S), pk, fun H' S' => q1 H' (same_trans S S'), fun H' l xs raw tri ns S' => q2 H' l xs raw tri ns (same_trans S S')⟩
def spRepd (K : PySem.W.Frag) : Sp := fun vs H Q _ => ∃ v x a xs r, vs = [v, .ref x] ∧ Rep K H v a ∧ Okt 40 a ∧ (SqL K H x xs ∨ SqT K H x xs) ∧ RowsAre K H xs r ∧ ROk 40 r ∧ ∀ y H', Same H H' → Rep K H' y (put false (lk false r) a) → Q y H'
theorem sq_same {H H' : Hp} (S : Same H H') {a : Addr} {xs : List V} (h : SqL K H a xs ∨ SqT K H a xs) : SqL K H' a xs ∨ SqT K H' a xs := h.imp (sql_same S) (tst_seq (tst_same S))
theorem ok_replaced (D : Defs K mg) : FnOk P w K mg base CX0 91 D.replaced.a D.replaced.fd ["loose", "parts"] (spRepd K) := by
  have G_want_loose := ok_want_loose (P := P) (w := w) (base := base) D 40
  have G_is_replacement := ok_is_replacement (P := P) (w := w) (base := base) D 40
  have G_with_unknowns := ok_with_unknowns (P := P) (w := w) (base := base) D 40
  have sc := sc_replaced
  refine D.replaced.F.ok sc (fun vs H Q E h => ?_) (fun cdv A outer s H vs Q E hr h => ?_)
  · obtain ⟨v, x, a, xs, r, rfl, _⟩ := h
    rfl
  obtain ⟨v, x, a, xs, r, rfl, ha, oa, hS, hR, g, q⟩ := h
  refine ⟨_, (pss_cons (ps_set (i := 2) sc.nd rfl (Or.inl rfl) (pcall D.want_loose G_want_loose (hr.mono (by omega)) (by rfl) (pa_cons (pv 0) pa_nil)))
      (pss_cons (ps_if (PW.pt (pw_or (pt_not (pt_val (pcall D.is_replacement G_is_replacement (hr.mono (by omega)) (by rfl) (pa_cons (pv 1) pa_nil)))) (pw_or1 (pt_cmpR op_gt (pe_callB call_len_seq (by rfl) D.z_len (by decide +kernel) (pa_cons (pv 1) pa_nil)) (pglobI (by rfl) D.c_MOST_REPLACED) (nomark _))))) (pss_one ps_never) pss_nil)
      (pss_one (ps_ret (pcall D.with_unknowns G_with_unknowns (hr.mono (by omega)) (by rfl) (pa_cons (pv 2) (pa_cons (pe_callTy (call_dictP rfl) (by rfl) D.z_dict (by decide +kernel) (pa_cons (pe_callTy call_list_of (by rfl) D.z_list (by decide +kernel) (pa_cons (pv 1) pa_nil)) pa_nil)) pa_nil))))))), ?_⟩
  refine ⟨_, rfl, v, a, rfl, ha, oa, fun H1 S1 => ?_⟩
  have hS1 := sq_same S1 hS
  have hR1 := hR.mono (tst_same S1)
  refine ⟨_, rfl, x, xs, r, rfl, hS1, hR1, g, fun H2 S2 => ⟨_, rfl, iteF ?_⟩⟩
  have hl := hR.len
  have g6 := g.len
  refine ⟨_, rfl, x, xs, rfl, sq_same S2 hS1, _, _, rfl, rfl, _, rfl, ?_⟩
  refine iteB0 (decide_eq_false (by omega)) ?_
  refine ⟨_, rfl, _, rfl, x, xs, rfl, sq_same S2 hS1, fun l hl => ?_⟩
  have S3 := same_new (H := H2) (p := l) (o := .lst xs) hl
  obtain ⟨ps, kvs, rfl, g1, g2⟩ := rows_dict (hR1.mono (tst_same (same_trans S2 S3))) g.nd
  refine ⟨l, ps, kvs, rfl, .inl (.inl upd_same), g1, fun d hd => ?_⟩
  have S4 := same_new (p := d) (o := .dK (mergeK [] kvs)) hd
  have S := same_trans S1 (same_trans S2 (same_trans S3 S4))
  exact ⟨v, a, d, r, rfl, ha.mono (tst_same S), oa.wf, g2 d hd, oa.dp, fun y H' S' hy => q y H' (same_trans S S') hy⟩
end
end UW

/-! goes_on_to, is_most_general. -/
namespace UW
open PySem PySem.Spec PyProof.Rows L2 U UV UD UX
section
variable {P : Program} {w : World} {K : PySem.W.Frag} {mg : Str → Option Value} {base : Heap}

/-- numbers that count when one replacement goes on to another -/
def Counts (a b : Ty) (r : Told) (k : Nat) : Prop := occ false k a ∨ occ false k b ∨ (∃ q ∈ r, occ false k q.2) ∨ k ∈ keys r
structure RGw (r : Told) : Prop where
  ok : ROk 40 r
  gw : ∀ q ∈ r, Gw q.2
  lt : ∀ k ∈ keys r, k < 6
structure RGs (r : Told) : Prop where
  nd : (keys r).Nodup
  gw : ∀ q ∈ r, Gw q.2
  dp : ∀ q ∈ r, depth q.2 ≤ 40
theorem RGs.lk {r : Told} (g : RGs r) (k : Nat) : depth (lk false r k) ≤ 40 := by
  unfold U.lk
  cases e : r.lookup k with
  | none => show depth (.var false k) ≤ 40; rw [depth]; omega
  | some t => exact g.dp (k, t) (look_mem e)
theorem nums6 {t : Ty} (h : Gw t) : (nums false t).length ≤ 6 := nodup_lt 6 _ (nodup_nums t) fun x hx => h.lt x ((mem_nums t).mp hx)
theorem few6 {t : Ty} (h : Gw t) : Few false t := fun k hk => by have := h.lt k hk; omega
def allNums (ts : List Ty) : List Nat := ts.flatMap (nums false)
theorem allNums_len {ts : List Ty} (h : ∀ t ∈ ts, Gw t) : (allNums ts).length ≤ 6 * ts.length := by
  unfold allNums
  induction ts with
  | nil => simp
  | cons t ts ih =>
    rw [List.flatMap_cons, List.length_append, List.length_cons]
    have := nums6 (h t List.mem_cons_self)
    have := ih fun u hu => h u (List.mem_cons_of_mem _ hu)
    omega
theorem mem_allNums {ts : List Ty} {k : Nat} : k ∈ allNums ts ↔ ∃ t ∈ ts, occ false k t := by
  unfold allNums
  rw [List.mem_flatMap]
  constructor
  · rintro ⟨t, ht, h⟩; exact ⟨t, ht, (mem_nums t).mp h⟩
  · rintro ⟨t, ht, h⟩; exact ⟨t, ht, (mem_nums t).mpr h⟩
theorem lk_rep {H : Hp} {d x : Addr} {r : Told} {k : Nat} (h : TolD K H d r) (hx : Rep K H (.ref x) (.var false k)) : ∃ o, DGet H d (nV k) o ∧ Rep K H (o.getD (.ref x)) (lk false r k) := by
  unfold lk
  cases e : r.lookup k with
  | none => exact ⟨none, h.no e, hx⟩
  | some t =>
    obtain ⟨v, g, hv⟩ := h.yes e
    exact ⟨some v, g, hv⟩
theorem lk_gw {r : Told} (g : ∀ q ∈ r, Gw q.2) {k : Nat} (hk : k < 6) : Gw (lk false r k) := by
  unfold lk
  cases e : r.lookup k with
  | none => exact Gw.var hk
  | some t => exact g (k, t) (look_mem e)
def spGoes (K : PySem.W.Frag) : Sp := fun vs H Q _ => ∃ v u x y a b xs ys r s, vs = [v, u, .ref x, .ref y] ∧ Rep K H v a ∧ Rep K H u b ∧ Gw a ∧ Gw b ∧ depth a ≤ 40 ∧ depth b ≤ 40 ∧ SqL K H x xs ∧ RowsAre K H xs r ∧ RGw r ∧ SqL K H y ys ∧ RowsAre K H ys s ∧ RGs s ∧
  ∀ c H', Same H H' → (c = true ↔ ∃ ρ, ∀ k, Counts a b r k → put false ρ (lk false r k) = lk false s k) → Q (.bl c) H'
theorem ok_goes_on_to (D : Defs K mg) : FnOk P w K mg base CX0 50 D.goes_on_to.a D.goes_on_to.fd ["one", "other", "value", "found"] (spGoes K) := by
  have G_numbers_in := ok_numbers_in (P := P) (w := w) (base := base) D 40
  have G_matched := ok_matched (P := P) (w := w) (base := base) D 40
  have sc := sc_goes_on_to
  refine D.goes_on_to.F.ok sc (fun vs H Q E h => ?_) (fun cdv A outer s H vs Q E hr h => ?_)
  · obtain ⟨v, u, x, y, a, b, xs, ys, r, s, rfl, _⟩ := h
    rfl
  obtain ⟨v, u, x, y, a, b, xs, ys, r, s2, rfl, ha, hb, ga, gb, da, db, hS, hR, gr, hS2, hR2, gs, q⟩ := h
  refine ⟨_, (pss_cons (ps_par3 (i := 4) (j := 5) (l := 6) rfl sc.nd rfl rfl rfl (by decide) (by decide) (by decide) rfl rfl rfl (pa_cons (pe_callTy (call_dictP rfl) (by rfl) D.z_dict (by decide +kernel) (pa_cons (pe_callTy call_list_of (by rfl) D.z_list (by decide +kernel) (pa_cons (pv 2) pa_nil)) pa_nil)) (pa_cons (pe_callTy (call_dictP rfl) (by rfl) D.z_dict (by decide +kernel) (pa_cons (pv 3) pa_nil)) (pa_cons (pe_lst pa_nil) pa_nil))) (by rfl))
      (pss_cons (ps_for PassesOwn.never rfl (pi_list (pe_op op_cat (pe_lst (pa_cons (pv 0) (pa_cons (pv 1) pa_nil))) (UR.pe_listVals rfl (by rfl) D.z_list (pv 4)))) (pg_name (i := 7) sc.nd rfl (Or.inl rfl)) (pss_one (ps_expr (pe_bm PySem.F.plainAttrs_list PySem.F.slot_list_extend PySem.F.type_list_extend mt_extend (pv 6) (pa_cons (pcall D.numbers_in G_numbers_in (hr.mono (by omega)) (by rfl) (pa_cons (pv 7) (pa_cons pe_str pa_nil))) pa_nil)))))
      (pss_cons (ps_set (i := 8) sc.nd rfl (Or.inl rfl) pe_dnewK)
      (pss_cons (ps_for PassesOwn.never rfl (pi_list (pe_callB (cr_sortedSet rfl) (by rfl) D.z_sorted (by decide +kernel) (pa_cons (pe_callTy (UR.cr_setL rfl) (by rfl) D.z_set (by decide +kernel) (pa_cons (pe_op op_cat (pv 6) (pe_callTy (call_list_dK rfl) (by rfl) D.z_list (by decide +kernel) (pa_cons (pv 4) pa_nil))) pa_nil)) pa_nil))) (pg_name (i := 9) sc.nd rfl (Or.inl rfl)) (pss_cons (ps_set (i := 10) sc.nd rfl (Or.inl rfl) (pe_tup (pa_cons pe_str (pa_cons (pv 9) pa_nil))))
      (pss_one (ps_if (pt_not (pt_val (pcall D.matched G_matched (hr.mono (by omega)) (by rfl) (pa_cons (pe_dget2 (hu_of hr) (pv 4) (pv 9) (pv 10) ⟨rfl, rfl, rfl, rfl⟩) (pa_cons (pe_dget2 (hu_of hr) (pv 5) (pv 9) (pv 10) ⟨rfl, rfl, rfl, rfl⟩) (pa_cons pe_str (pa_cons (pv 8) pa_nil))))))) (pss_one (ps_ret pe_bl)) pss_nil))))
      (pss_one (ps_ret pe_bl)))))), ?_⟩
  -- parts
  refine ⟨_, rfl, x, xs, rfl, .inl hS, fun l hl => ?_⟩
  have S1 := same_new (H := H) (p := l) (o := .lst xs) hl
  obtain ⟨ps, kvs, rfl, g1, g2⟩ := rows_dict (hR.mono (tst_same S1)) gr.ok.nd
  refine ⟨l, ps, kvs, rfl, .inl (.inl upd_same), g1, fun d hd => ?_⟩
  have hT := g2 d hd
  have S2 := same_new (p := d) (o := .dK (mergeK [] kvs)) hd
  have S12 := same_trans S1 S2
  -- late
  obtain ⟨ps2, kvs2, rfl, g3, g4⟩ := rows_dict (hR2.mono (tst_same S12)) gs.nd
  refine ⟨_, rfl, y, ps2, kvs2, rfl, sql_same S12 hS2, g3, fun d2 hd2 => ?_⟩
  have hT2 := g4 d2 hd2
  have S3 := same_new (p := d2) (o := .dK (mergeK [] kvs2)) hd2
  have S13 := same_trans S12 S3
  refine ⟨Nat.zero_le _, fun N hN => ⟨_, _, _, rfl, ?_⟩⟩
  have S4 := same_new (p := N) (o := .lst []) hN
  have S14 := same_trans S13 S4
  have hNH := fresh_back S13 hN
  -- the types
  refine ⟨_, rfl, _, rfl, Nat.le_of_ble_eq_true rfl, fun l2 hl2 => ?_⟩
  have S5 := same_new (p := l2) (o := .lst [v, u]) hl2
  obtain ⟨kvsP, eP, hkP⟩ := hT
  have S25 := same_trans S3 (same_trans S4 S5)
  have eP5 := S25 _ _ eP
  refine ⟨_, rfl, d, kvsP, rfl, eP5, fun l3 hl3 => ?_⟩
  have S6 := same_new (p := l3) (o := .lst (kvsP.map (·.2))) hl3
  have lk6 := gr.ok.len
  have lkv := hkP.length
  refine ⟨l2, l3, [v, u], kvsP.map (·.2), rfl, rfl, S6 _ _ upd_same, upd_same, by rw [List.length_map, sizeLine_eq]; simp; omega, fun l4 hl4 => ?_⟩
  have S7 := same_new (p := l4) (o := .lst ([v, u] ++ kvsP.map (·.2))) hl4
  have S47 := same_trans S5 (same_trans S6 S7)
  have S17 := same_trans S14 S47
  have S27 := same_trans S25 (same_trans S6 S7)
  refine ⟨l4, rfl, ⟨_, .inl (.inl upd_same)⟩, ?_⟩
  have hAll : Reps K (upd _ l4 (.lst ([v, u] ++ kvsP.map (·.2)))) ([v, u] ++ kvsP.map (·.2)) ([a, b] ++ r.map (·.2)) := Reps.append (.cons (ha.mono (tst_same S17)) (.cons (hb.mono (tst_same S17)) .nil)) (Reps.mono (tst_same S27) hkP.2)
  generalize hts : [a, b] ++ r.map (·.2) = ts at hAll
  have gts : ∀ t ∈ ts, Gw t ∧ depth t ≤ 40 := fun t ht => by
    rw [← hts] at ht
    rcases List.mem_append.mp ht with ht | ht
    · rcases List.mem_cons.mp ht with e | ht
      · rw [e]; exact ⟨ga, da⟩
      · rw [List.mem_singleton.mp ht]; exact ⟨gb, db⟩
    · obtain ⟨q1, hq, rfl⟩ := List.mem_map.mp ht
      exact ⟨gr.gw q1 hq, (gr.ok.ok q1 hq).dp⟩
  have lts : ts.length ≤ 8 := by rw [← hts, List.length_append, List.length_map]; simp; omega
  have hvl := hAll.length
  refine for_list (xs := [v, u] ++ kvsP.map (·.2)) (fun i σ H' => (∃ lv, σ = [some v, some u, some (.ref x), some (.ref y), some (.ref d), some (.ref d2), some (.ref N), lv, none, none, none]) ∧ Same H H' ∧ Same (upd _ d2 (.dK (mergeK [] kvs2))) H' ∧ Tst (upd _ l4 (.lst ([v, u] ++ kvsP.map (·.2)))) H' ∧ H' l4 = some (.lst ([v, u] ++ kvsP.map (·.2))) ∧ H' N = some (.lst ((allNums (ts.take i)).map nV)))
    ⟨⟨none, rfl⟩, S17, same_trans S4 S47, Tst.refl _, upd_same, ?_⟩ (fun i σ H' _ h => .inl (.inl h.2.2.2.2.1)) (fun i z σ H' e h => ?_) fun σ H' h => ?_
  · rw [List.take_zero]; exact S47 _ _ upd_same
  · obtain ⟨⟨lv, rfl⟩, SH, SD, T, e4, eN⟩ := h
    obtain ⟨t, et, ht⟩ := hAll.at e
    obtain ⟨gt, dt⟩ := gts t (List.mem_of_getElem? et)
    refine ⟨_, rfl, .inl ⟨rfl, _, .inl (.inl eN)⟩, _, rfl, z, t, false, rfl, ht.mono T, gt.wf, few6 gt, dt, fun m H2 Sm hm0 hm => ?_⟩
    have eN2 := Sm _ _ eN
    have tk : ts.take (i + 1) = ts.take i ++ [t] := by rw [List.take_add_one, et]; rfl
    have an : allNums (ts.take (i + 1)) = allNums (ts.take i) ++ nums false t := by rw [tk]; unfold allNums; rw [List.flatMap_append, List.flatMap_singleton]
    have al := allNums_len (ts := ts.take (i + 1)) fun t ht => (gts t (List.mem_of_mem_take ht)).1
    rw [List.length_take] at al
    refine ⟨N, m, _, _, rfl, rfl, eN2, hm, ?_, ⟨_, rfl⟩, same_mut (same_trans SH Sm) hNH, same_mut (same_trans SD Sm) hN, ?_, ?_, ?_⟩
    · rw [← List.length_append, ← List.map_append, ← an, List.length_map, sizeLine_eq]; omega
    · exact (T.trans (tst_same Sm)).trans (tst_but (but_upd _) (by rw [eN2]; exact notup_lst))
    · have nN : l4 ≠ N := fun z => by rw [z] at hl4; rw [S6 _ _ (S5 _ _ upd_same)] at hl4; cases hl4
      rw [upd_ne nN]; exact Sm _ _ e4
    · rw [upd_same, an, List.map_append]
  obtain ⟨⟨lv, rfl⟩, SH, SD, T, e4, eN⟩ := h
  rw [hvl, List.take_length] at eN
  have hTd : TolD K H' d r := TolD.same ⟨kvsP, S3 _ _ eP, hkP.mono (tst_same S3)⟩ SD
  have hTd2 := hT2.same SD
  -- told
  intro dt hdt
  have S8 := same_new (H := H') (p := dt) (o := .dK []) hdt
  obtain ⟨kvsQ, eQ, hkQ⟩ := hTd
  refine ⟨_, rfl, _, rfl, d, kvsQ, rfl, S8 _ _ eQ, fun l5 hl5 => ?_⟩
  rw [dictIs_keys hkQ]
  have S9 := same_new (p := l5) (o := .lst ((keys r).map nV)) hl5
  have eN9 := S9 _ _ (S8 _ _ eN)
  have al := allNums_len fun t ht => (gts t ht).1
  have kl := keys_len r
  refine ⟨N, l5, _, _, rfl, rfl, eN9, upd_same, ?_, fun l6 hl6 => ?_⟩
  · rw [List.length_map, List.length_map, keys_len, sizeLine_eq]; omega
  rw [← List.map_append]
  have S10 := same_new (p := l6) (o := .lst ((allNums ts ++ keys r).map nV)) hl6
  refine ⟨l6, (allNums ts ++ keys r).map zI, rfl, .inl (.inl (by rw [← nat_ints]; exact upd_same)), by rw [List.length_map, List.length_append]; omega, fun p c hp hc => ?_⟩
  rw [List.length_map, List.length_append] at hc
  refine ⟨p, _, c, rfl, upd_same, by omega, fun ns p2 h1 h2 h3 hp2 => ?_⟩
  have S11 := same_new (p := p) (o := SetO w p (fun j => decide (j ∈ (allNums ts ++ keys r).map zI)) c) hp
  have S12' := same_new (p := p2) (o := .lst (ns.map V.int)) hp2
  -- the numbers as naturals
  obtain ⟨ms, hms, hmem⟩ : ∃ ms : List Nat, ns = ms.map zI ∧ ∀ k, k ∈ ms ↔ Counts a b r k := by
    refine ⟨ns.map Int.toNat, ?_, fun k => ?_⟩
    · rw [List.map_map]
      have : ns.map (zI ∘ Int.toNat) = ns.map id := List.map_congr_left fun x hx => by
        obtain ⟨k, _, e⟩ := List.mem_map.mp (of_decide_eq_true ((h2 x).mp hx))
        rw [← e]; rfl
      rw [this, List.map_id]
    · have hk : k ∈ ns.map Int.toNat ↔ k ∈ allNums ts ++ keys r := by
        constructor
        · intro h
          obtain ⟨x, hx, rfl⟩ := List.mem_map.mp h
          obtain ⟨j, hj, e⟩ := List.mem_map.mp (of_decide_eq_true ((h2 x).mp hx))
          rw [← e]; exact hj
        · intro h
          exact List.mem_map.mpr ⟨zI k, (h2 _).mpr (decide_eq_true (List.mem_map_of_mem h)), rfl⟩
      rw [hk, List.mem_append, mem_allNums, ← hts]
      unfold Counts
      constructor
      · rintro (⟨t, ht, ho⟩ | h)
        · rcases List.mem_append.mp ht with ht | ht
          · rcases List.mem_cons.mp ht with e | ht
            · rw [e] at ho; exact .inl ho
            · rw [List.mem_singleton.mp ht] at ho; exact .inr (.inl ho)
          · obtain ⟨q1, hq, rfl⟩ := List.mem_map.mp ht
            exact .inr (.inr (.inl ⟨q1, hq, ho⟩))
        · exact .inr (.inr (.inr h))
      · rintro (h | h | ⟨q1, hq, h⟩ | h)
        · exact .inl ⟨a, by simp, h⟩
        · exact .inl ⟨b, by simp, h⟩
        · exact .inl ⟨q1.2, List.mem_append_right _ (List.mem_map_of_mem hq), h⟩
        · exact .inr h
  subst hms
  rw [← nat_ints] at S12' ⊢
  have S812 := same_trans S9 (same_trans S10 (same_trans S11 S12'))
  have SS := same_trans S8 S812
  have m6 : ∀ k ∈ ms, k < 6 := fun k hk => by
    rcases (hmem k).mp hk with h | h | ⟨q1, hq, h⟩ | h
    · exact ga.lt k h
    · exact gb.lt k h
    · exact (gr.gw q1 hq).lt k h
    · exact gr.lt k h
  have hTd12 : TolD K _ d r := TolD.same ⟨kvsQ, eQ, hkQ⟩ SS
  have hTd212 := hTd2.same SS
  have ndt : dt ≠ d ∧ dt ≠ d2 := by
    refine ⟨fun z => ?_, fun z => ?_⟩
    · rw [z] at hdt; rw [eQ] at hdt; cases hdt
    · obtain ⟨_, e, _⟩ := hTd2; rw [z, e] at hdt; cases hdt
  have hT0 : TolD K _ dt [] := TolD.same ⟨[], upd_same, DictIs.nil⟩ S812
  refine ⟨p2, rfl, ⟨_, .inl (.inl upd_same)⟩, ?_⟩
  refine for_list (xs := ms.map nV) (fun i σ H2 => (∃ o9 o10, σ = [some v, some u, some (.ref x), some (.ref y), some (.ref d), some (.ref d2), some (.ref N), lv, some (.ref dt), o9, o10]) ∧ But dt (upd _ p2 (.lst (ms.map nV))) H2 ∧ ∃ Di, TolD K H2 dt Di ∧ DOk Di ∧ Mt false [] ((ms.take i).map (lk false r)) ((ms.take i).map (lk false s2)) true Di)
    ⟨⟨none, none, rfl⟩, But.refl _ _, [], hT0, DOk.nil, Mt.nil DOk.nil.nd⟩ (fun i σ H2 _ h => ?_) (fun i z σ H2 e h => ?_) fun σ H2 h => ?_
  · exact .inl (.inl (h.2.1 _ _ (Ne.symm (ne_of_none (S11 _ _ (S10 _ _ (S9 _ _ upd_same))) hp2)) upd_same))
  · obtain ⟨⟨o9, o10, rfl⟩, B, Di, hTi, hDi, m⟩ := h
    rw [List.getElem?_map] at e
    obtain ⟨k, ek, rfl⟩ := Option.map_eq_some_iff.mp e
    have hkm := List.mem_of_getElem? ek
    have k6 := m6 k hkm
    refine ⟨_, rfl, Nat.le_of_ble_eq_true rfl, fun pu hpu => ?_⟩
    have Su := same_new (H := H2) (p := pu) (o := .tup [.str "unknown", nV k]) hpu
    have TB := tst_d B hT0
    have hd3 : TolD K (upd H2 pu (.tup [.str "unknown", nV k])) d r := by
      obtain ⟨kk, e1, e2⟩ := hTd12
      exact TolD.same ⟨kk, B _ _ (Ne.symm ndt.1) e1, e2.mono TB⟩ Su
    have hd4 : TolD K (upd H2 pu (.tup [.str "unknown", nV k])) d2 s2 := by
      obtain ⟨kk, e1, e2⟩ := hTd212
      exact TolD.same ⟨kk, B _ _ (Ne.symm ndt.2) e1, e2.mono TB⟩ Su
    have hvar : Rep K (upd H2 pu (.tup [.str "unknown", nV k])) (.ref pu) (.var false k) := Rep.mkVar (p := false) (.inl (.inl upd_same))
    obtain ⟨oA, gA, rA⟩ := lk_rep hd3 hvar
    obtain ⟨oB, gB, rB⟩ := lk_rep hd4 hvar
    have wA := lk_gw gr.gw k6
    have wB := lk_gw gs.gw k6
    have dA := (lk_okt gr.ok.ok k).2
    have dB := gs.lk k
    have tk : ms.take (i + 1) = ms.take i ++ [k] := by rw [List.take_add_one, ek]; rfl
    have len : ((ms.take i).map (lk false r)).length = ((ms.take i).map (lk false s2)).length := by rw [List.length_map, List.length_map]
    refine ⟨_, rfl, d, rfl, hd3.isD, _, rfl, _, rfl, oA, gA, ?_⟩
    refine ⟨_, rfl, d2, rfl, hd4.isD, _, rfl, _, rfl, oB, gB, ?_⟩
    refine ⟨_, rfl, _, _, _, _, false, dt, Di, rfl, rA, rB, wA.wf, wB.wf, few6 wA, dA, by omega, by omega, hTi.same Su, hDi, fun c H5 D5 B5 hT5 hD5 m5 => ⟨_, rfl, ?_⟩⟩
    have m6' := Mt.snoc m m5 len
    cases c with
    | true =>
      refine iteF ⟨⟨_, _, rfl⟩, (B.trans (but_same Su)).trans B5, D5, hT5, hD5, ?_⟩
      rw [tk, List.map_append, List.map_append]
      exact m6'
    | false =>
      refine iteT ?_
      have SF : Same H H5 := same_trans SH (same_but hdt ((but_same SS).trans ((B.trans (but_same Su)).trans B5)))
      refine q false H5 SF ⟨fun z => (nomatch z), fun ⟨ρ, hρ⟩ => ?_⟩
      refine absurd ?_ (m6'.no rfl ρ fun p hp => (nomatch hp))
      rw [List.map_append, List.map_map]
      have e1 : (ms.take i).map (put false ρ ∘ lk false r) = (ms.take i).map (lk false s2) := List.map_congr_left fun j hj => hρ j ((hmem j).mp (List.mem_of_mem_take hj))
      rw [e1]
      show _ ++ [put false ρ (lk false r k)] = _
      rw [hρ k ((hmem k).mp hkm)]
  · obtain ⟨⟨o9, o10, rfl⟩, B, Di, hTi, hDi, m⟩ := h
    have SF : Same H H2 := same_trans SH (same_but hdt ((but_same SS).trans B))
    rw [List.length_map, List.take_length] at m
    refine q true H2 SF ⟨fun _ => ?_, fun _ => rfl⟩
    obtain ⟨ρ, hρ⟩ := m.iff.mp rfl
    refine ⟨ρ, fun k hk => ?_⟩
    rw [List.map_map] at hρ
    exact List.map_inj_left.mp hρ k ((hmem k).mpr hk)
/-! ### is_most_general -/
theorem rowsOf_keys (tri : Told) (ns : List Nat) : keys (rowsOf tri ns) = ns := by
  unfold keys rowsOf
  rw [List.map_map]
  exact List.map_id _
theorem look_rows {tri : Told} {k : Nat} : ∀ {ns : List Nat}, (rowsOf tri ns).lookup k = if k ∈ ns then some (apv tri k) else none
  | [] => by simp [rowsOf]
  | n :: ns => by
    have ih := look_rows (tri := tri) (k := k) (ns := ns)
    show List.lookup k ((n, apv tri n) :: rowsOf tri ns) = _
    rw [List.lookup_cons]
    by_cases e : k = n
    · subst e; simp
    · rw [show (k == n) = false from beq_eq_false_iff_ne.mpr e, ih]
      simp [e]
theorem lk_rows {tri : Told} {ns : List Nat} (h : ∀ k, k ∉ ns → k ∉ keys tri) (k : Nat) : lk false (rowsOf tri ns) k = apv tri k := by
  unfold lk
  rw [look_rows]
  by_cases e : k ∈ ns
  · rw [if_pos e]; rfl
  · rw [if_neg e]
    exact (ap_unbound (h k e)).symm
theorem Lnk.gw3 {raw tri : Told} (L : Lnk (Gd 3) raw tri) {k : Nat} (hk : k < 6) : Gw (apv tri k) ∧ depth (apv tri k) ≤ 18 := by
  refine ⟨Gw.ap (L.gw fun t g => g.w) (Gw.var hk), ?_⟩
  have := L.depth_le (d := 3) (fun t g => g.dp) 6 (.var false k) (L.rank _)
  rw [depth] at this
  exact this
theorem rgs_rows {raw tri : Told} {ns : List Nat} (L : Lnk (Gd 3) raw tri) (h : ns.Perm (keys tri)) : RGs (rowsOf tri ns) := by
  have lt : ∀ k ∈ ns, k < 6 := fun k hk => L.lt k (by rw [L.keys]; exact h.mem_iff.mp hk)
  refine ⟨by rw [rowsOf_keys]; exact h.nodup_iff.mpr (by rw [← L.keys]; exact L.nodup), fun q hq => ?_, fun q hq => ?_⟩
  · obtain ⟨k, hk, rfl⟩ := List.mem_map.mp hq
    exact (Lnk.gw3 L (lt k hk)).1
  · obtain ⟨k, hk, rfl⟩ := List.mem_map.mp hq
    have := (Lnk.gw3 L (lt k hk)).2
    show depth (apv tri k) ≤ 40
    omega
def spIsM (K : PySem.W.Frag) : Sp := fun vs H Q _ => ∃ v u x a b xs r, vs = [v, u, .ref x] ∧ Rep K H v a ∧ Rep K H u b ∧ Okt 40 a ∧ Okt 40 b ∧ POk a b ∧ SqL K H x xs ∧ RowsAre K H xs r ∧ RGw r ∧
  (∀ H', Same H H' → put false (lk false r) a ≠ put false (lk false r) b → Q (.bl false) H') ∧
  (∀ c H' raw tri, Same H H' → put false (lk false r) a = put false (lk false r) b → Lnk (Gd 3) raw tri → Mgu tri a b → (c = true ↔ ∃ ρ, ∀ k, Counts a b r k → put false ρ (lk false r k) = apv tri k) → Q (.bl c) H')
theorem ok_is_most_general (D : Defs K mg) : FnOk P w K mg base CX0 91 D.is_most_general.a D.is_most_general.fd ["one", "other", "value"] (spIsM K) := by
  have G_want_loose := ok_want_loose (P := P) (w := w) (base := base) D 40
  have G_unifies := ok_unifies (P := P) (w := w) (base := base) D
  have G_goes_on_to := ok_goes_on_to (P := P) (w := w) (base := base) D
  have G_most_general := ok_most_general (P := P) (w := w) (base := base) D
  have sc := sc_is_most_general
  refine D.is_most_general.F.ok sc (fun vs H Q E h => ?_) (fun cdv A outer s H vs Q E hr h => ?_)
  · obtain ⟨v, u, x, a, b, xs, r, rfl, _⟩ := h
    rfl
  obtain ⟨v, u, x, a, b, xs, r, rfl, ha, hb, oa, ob, pk, hS, hR, g, q1, q2⟩ := h
  refine ⟨_, (pss_cons (ps_set (i := 3) sc.nd rfl (Or.inl rfl) (pcall D.want_loose G_want_loose (hr.mono (by omega)) (by rfl) (pa_cons (pv 0) pa_nil)))
      (pss_cons (ps_set (i := 4) sc.nd rfl (Or.inl rfl) (pcall D.want_loose G_want_loose (hr.mono (by omega)) (by rfl) (pa_cons (pv 1) pa_nil)))
      (pss_one (ps_ret (pe_and (pcall D.unifies G_unifies (hr.mono (by omega)) (by rfl) (pa_cons (pv 3) (pa_cons (pv 4) (pa_cons (pv 2) pa_nil)))) (pe_one (pcall D.goes_on_to G_goes_on_to (hr.mono (by omega)) (by rfl) (pa_cons (pv 3) (pa_cons (pv 4) (pa_cons (pv 2) (pa_cons (pcall D.most_general G_most_general (hr.mono (by omega)) (by rfl) (pa_cons (pv 3) (pa_cons (pv 4) pa_nil))) pa_nil))))))))))), ?_⟩
  refine ⟨_, rfl, v, a, rfl, ha, oa, fun H1 S1 => ?_⟩
  refine ⟨_, rfl, u, b, rfl, hb.mono (tst_same S1), ob, fun H2 S2 => ?_⟩
  have S := same_trans S1 S2
  have hS2 := sql_same S hS
  have hR2 := hR.mono (tst_same S)
  have ha2 := ha.mono (tst_same S)
  have hb2 := hb.mono (tst_same S)
  refine ⟨_, rfl, _, rfl, _, rfl, v, u, x, a, b, xs, r, rfl, ha2, hb2, oa.wf, ob.wf, oa.dp, ob.dp, hS2, hR2, g.ok, fun c H3 S3 hc => ⟨_, rfl, ?_⟩⟩
  have S03 := same_trans S S3
  cases c with
  | false => exact iteF (q1 H3 S03 fun e => nomatch hc.mpr e)
  | true =>
    have e := hc.mp rfl
    refine iteT ?_
    refine ⟨_, rfl, _, rfl, _, rfl, _, rfl, _, rfl, v, u, a, b, rfl, ha2.mono (tst_same S3), hb2.mono (tst_same S3), pk, fun H4 S4 no => absurd e (no _), fun H4 l ys raw tri ns S4 hl hRl hp L mg => ?_⟩
    have S34 := same_trans S3 S4
    have S04 := same_trans S S34
    refine ⟨v, u, x, l, a, b, xs, ys, r, rowsOf tri ns, rfl, ha2.mono (tst_same S34), hb2.mono (tst_same S34), pk.wa, pk.wb, oa.dp, ob.dp, sql_same S34 hS2, hR2.mono (tst_same S34), g, .inl (.inl hl), hRl, rgs_rows L hp, fun c H5 S5 hc => ?_⟩
    refine q2 c H5 raw tri (same_trans S04 S5) e L mg ?_
    rw [hc]
    have el : ∀ k, lk false (rowsOf tri ns) k = apv tri k := lk_rows fun k hk => fun z => hk (hp.mem_iff.mpr z)
    constructor
    · rintro ⟨ρ, h⟩; exact ⟨ρ, fun k hk => by rw [h k hk, el]⟩
    · rintro ⟨ρ, h⟩; exact ⟨ρ, fun k hk => by rw [h k hk, el]⟩
end
end UW

/-! Drawing: the pot, digits, loose types. -/
namespace UW
open PySem PySem.Spec PyProof.Rows L2 U UV UD UX
section
variable {P : Program} {w : World} {K : PySem.W.Frag} {mg : Str → Option Value} {base : Heap}

def Pot (H : Hp) (p : Addr) : Prop := ∃ a b : Int, H p = some (.lst [.int a, .int b]) ∧ 0 ≤ a ∧ 0 ≤ b ∧ b < 2147483563 + 1
theorem Pot.same {H H' : Hp} {p : Addr} (S : Same H H') (h : Pot H p) : Pot H' p := by
  obtain ⟨a, b, e, r⟩ := h
  exact ⟨a, b, S _ _ e, r⟩
theorem Pot.tst {H H' : Hp} {p : Addr} (B : But p H H') (h : Pot H p) : Tst H H' := by
  obtain ⟨a, b, e, r⟩ := h
  exact tst_but B (by rw [e]; exact notup_lst)
theorem fmod_nat {i j : Int} (hj : 0 < j) : ∃ k : Nat, i.fmod j = (k : Int) ∧ (k : Int) < j := by
  rw [Int.fmod_eq_emod_of_nonneg i (by omega)]
  have h1 := Int.emod_nonneg i (by omega : j ≠ 0)
  have h2 := Int.emod_lt_of_pos i hj
  exact ⟨(i % j).toNat, by omega, by omega⟩
def spPot (K : PySem.W.Frag) : Sp := fun vs H Q _ => ∃ (a : Addr) (ns : List Int), vs = [.ref a, .int 0] ∧ SqL K H a (ns.map V.int) ∧ ∀ p H', Same H H' → H p = none → Pot H' p → Q (.ref p) H'
theorem ok_law_pot (D : Defs K mg) : FnOk P w K mg base CX0 1 D.law_pot.a D.law_pot.fd ["_law_script", "_law_k"] (spPot K) := by
  have sc := sc_law_pot
  refine D.law_pot.F.ok sc (fun vs H Q E h => ?_) (fun cdv A outer s H vs Q E hr h => ?_)
  · obtain ⟨a, ns, rfl, _⟩ := h
    rfl
  obtain ⟨a, ns, rfl, hS, q⟩ := h
  refine ⟨_, (pss_cons (ps_set (i := 2) sc.nd rfl (Or.inl rfl) (pe_ifExp (pt_cmpR op_lt (pv 1) (pe_callB call_len_seq (by rfl) D.z_len (by decide +kernel) (pa_cons (pv 0) pa_nil)) (nomark _)) (pe_callB call_abs (by rfl) D.z_abs (by decide +kernel) (pa_cons (pe_ix ix_list (pv 0) (pv 1) (fun _ _ => rfl)) pa_nil)) (pe_op op_add (pe_op op_mul pe_int (pv 1)) pe_int)))
      (pss_one (ps_ret (pe_lst (pa_cons (pe_callB (call_max2 rfl) (by rfl) D.z_max (by decide +kernel) (pa_cons pe_int (pa_cons (pe_op op_sub (pv 2) (pe_op op_pow pe_int pe_int)) pa_nil))) (pa_cons (pe_op op_add (pe_op op_modN (pe_callTy call_int1 (by rfl) D.z_int (by decide +kernel) (pa_cons (pe_op op_add (pe_op op_add (pe_op op_mul (pe_op op_modN (pe_callTy call_int1 (by rfl) D.z_int (by decide +kernel) (pa_cons (pv 2) pa_nil)) pe_int) pe_int) (pe_op op_mul pe_int (pv 1))) pe_int) pa_nil)) pe_int) pe_int) pa_nil)))))), ?_⟩
  have n1 : (2147483549 : Int) ≠ 0 := by decide
  have n2 : (2147483563 : Int) ≠ 0 := by decide
  have main : ∀ c : Int, ∀ Qk : VK, (∀ x y : Int, 0 ≤ x → 0 ≤ y → y < 2147483563 + 1 → ∀ l, H l = none → Qk (.ref l) (upd H l (.lst [.int x, .int y]))) → tLst (tCons (tCB (fun xs H Q => ∃ i j, xs = [.int i, .int j] ∧ Q (.int (if j > i then j else i)) H) (tCons (tC (.int 0)) (tCons (tOp (rI0 fun i j => .int (i - j)) (tVar 2) (tOp (rI CPow fun i j => .int (i ^ j.toNat)) (tC (.int 10)) (tC (.int 18)))) tNil)))
      (tCons (tOp (rI0 fun i j => .int (i + j)) (tOp (rI (fun _ j => j ≠ 0) fun i j => .int (i.fmod j)) (tCB (fun xs H Q => (∃ i, xs = [.int i] ∧ Q (.int i) H) ∨ ∃ k, xs = [.bl k] ∧ Q (.int (if k then 1 else 0)) H) (tCons (tOp (rI0 fun i j => .int (i + j)) (tOp (rI0 fun i j => .int (i + j)) (tOp (rI CMul fun i j => .int (i * j)) (tOp (rI (fun _ j => j ≠ 0) fun i j => .int (i.fmod j)) (tCB (fun xs H Q => (∃ i, xs = [.int i] ∧ Q (.int i) H) ∨ ∃ k, xs = [.bl k] ∧ Q (.int (if k then 1 else 0)) H) (tCons (tVar 2) tNil)) (tC (.int 2147483549))) (tC (.int 41539))) (tOp (rI CMul fun i j => .int (i * j)) (tC (.int 4021)) (tVar 1))) (tC (.int 761))) tNil)) (tC (.int 2147483563))) (tC (.int 1))) tNil)) [some (.ref a), some (.int 0), some (.int c)] H Qk := by
    intro c Qk qk
    refine ⟨_, rfl, _, _, rfl, rfl, ⟨by decide, by decide, by decide⟩, _, _, rfl, rfl, _, _, rfl, ?_⟩
    refine ⟨_, rfl, .inl ⟨_, rfl, _, _, rfl, rfl, n1, _, _, rfl, rfl, .inr ⟨by decide, by decide⟩, ?_⟩⟩
    refine ⟨_, rfl, _, _, rfl, rfl, .inl ⟨by decide, by decide⟩, _, _, rfl, rfl, _, _, rfl, rfl, .inl ⟨_, rfl, _, _, rfl, rfl, n2, _, _, rfl, rfl, ?_⟩⟩
    refine ⟨Nat.le_of_ble_eq_true rfl, fun l hl => ?_⟩
    refine qk _ _ ?_ ?_ ?_ l hl
    · split <;> omega
    · obtain ⟨k, e, _⟩ := fmod_nat (i := Int.fmod c 2147483549 * 41539 + 4021 * 0 + 761) (j := 2147483563) (by decide)
      rw [e]; omega
    · obtain ⟨k, e, hk⟩ := fmod_nat (i := Int.fmod c 2147483549 * 41539 + 4021 * 0 + 761) (j := 2147483563) (by decide)
      rw [e]; omega
  have fin := fun c => main c Q fun x y h1 h2 h3 l hl => q l _ (same_new hl) hl ⟨x, y, upd_same, h1, h2, h3⟩
  refine ⟨_, rfl, _, rfl, a, _, rfl, .inl hS, _, _, rfl, rfl, _, rfl, ?_⟩
  rw [List.length_map]
  by_cases hn : (0 : Int) < (ns.length : Int)
  · refine iteB1 (decide_eq_true hn) ?_
    cases ns with
    | nil => simp at hn
    | cons i ns => exact ⟨_, rfl, _, rfl, a, _, 0, _, rfl, rfl, hS, atI_nat (j := 0) rfl, _, rfl, fin _⟩
  · refine iteB0 (decide_eq_false hn) ?_
    exact ⟨_, rfl, _, _, rfl, rfl, .inl ⟨by decide, by decide⟩, _, _, rfl, rfl, fin _⟩
def spDraw : Sp := fun vs H Q _ => ∃ (p : Addr) (m : Nat), vs = [.ref p, nV m] ∧ Pot H p ∧ 0 < m ∧ m < 100 ∧ ∀ (d : Nat) H', d < m → But p H H' → Pot H' p → Q (nV d) H'
theorem ok_law_draw (D : Defs K mg) : FnOk P w K mg base CX0 1 D.law_draw.a D.law_draw.fd ["_law_pot_here", "_law_many"] spDraw := by
  have sc := sc_law_draw
  refine D.law_draw.F.ok sc (fun vs H Q E h => ?_) (fun cdv A outer s H vs Q E hr h => ?_)
  · obtain ⟨p, m, rfl, _⟩ := h
    rfl
  obtain ⟨p, m, rfl, ⟨a, b, e, ha, hb, hb2⟩, hm, hm2, q⟩ := h
  refine ⟨_, (pss_cons (ps_if (pt_cmpR op_gt (pe_ix ix_list (pv 0) pe_int (fun _ _ => rfl)) pe_int (nomark _)) (pss_cons (ps_asg (pe_callB call_divmod (by rfl) D.z_divmod (by decide +kernel) (pa_cons (pe_ix ix_list (pv 0) pe_int (fun _ _ => rfl)) (pa_cons (pv 1) pa_nil))) (pg_tup rfl (pgs_cons (pg_sub (pv 0) pe_int set_list) (pgs_cons (pg_name (i := 2) sc.nd rfl (Or.inl rfl)) pgs_nil))))
      (pss_one (ps_ret (pv 2)))) pss_nil)
      (pss_cons (ps_asg (pe_op op_modN (pe_callTy call_int1 (by rfl) D.z_int (by decide +kernel) (pa_cons (pe_op op_add (pe_op op_mul (pe_ix ix_list (pv 0) pe_int (fun _ _ => rfl)) pe_int) pe_int) pa_nil)) pe_int) (pg_sub (pv 0) pe_int set_list))
      (pss_one (ps_ret (pe_op op_modN (pe_callTy call_int1 (by rfl) D.z_int (by decide +kernel) (pa_cons (pe_op op_fdivN (pe_op op_modN (pe_callTy call_int1 (by rfl) D.z_int (by decide +kernel) (pa_cons (pe_op op_mul (pe_ix ix_list (pv 0) pe_int (fun _ _ => rfl)) (pe_ix ix_list (pv 0) pe_int (fun _ _ => rfl))) pa_nil)) pe_int) pe_int) pa_nil)) (pv 1)))))), ?_⟩
  refine ⟨_, rfl, p, _, 0, _, rfl, rfl, .inl (.inl e), atI_nat (j := 0) rfl, _, _, rfl, rfl, _, rfl, ?_⟩
  by_cases h0 : (0 : Int) < a
  · refine iteB1 (decide_eq_true h0) ?_
    refine ⟨_, rfl, p, _, 0, _, rfl, rfl, .inl (.inl e), atI_nat (j := 0) rfl, _, rfl, _, _, rfl, ⟨by omega, by omega⟩, fun r hr0 => ?_⟩
    have S := same_new (H := H) (p := r) (o := .tup [.int (a / (m : Int)), .int (a % (m : Int))]) hr0
    refine ⟨r, _, rfl, .inl (.inl upd_same), rfl, _, _, rfl, ?_⟩
    have e2 := S _ _ e
    refine ⟨_, rfl, p, _, 0, 0, rfl, rfl, e2, rfl, _, _, rfl, rfl, ?_⟩
    have hd := Int.emod_nonneg a (by omega : (m : Int) ≠ 0)
    have hd2 := Int.emod_lt_of_pos a (by omega : (0 : Int) < (m : Int))
    have hq := Int.ediv_nonneg ha (by omega : (0 : Int) ≤ (m : Int))
    have B : But p H (upd (upd H r (.tup [.int (a / (m : Int)), .int (a % (m : Int))])) p (.lst [.int (a / (m : Int)), .int b])) := (but_same S).trans (but_upd _)
    have ed : ∃ d : Nat, a % (m : Int) = (d : Int) := ⟨(a % (m : Int)).toNat, by omega⟩
    obtain ⟨d, ed⟩ := ed
    refine ⟨_, rfl, ?_⟩
    rw [ed] at hd2 B ⊢
    exact q d _ (by omega) B ⟨_, _, upd_same, hq, hb, hb2⟩
  · refine iteB0 (decide_eq_false h0) ?_
    have n1 : (2147483563 : Int) ≠ 0 := by decide
    have n2 : (2147483587 : Int) ≠ 0 := by decide
    have n3 : ∀ {i : Int}, CDivN i 21 := ⟨by decide, by decide⟩
    refine ⟨_, rfl, p, _, 1, _, rfl, rfl, .inl (.inl e), atI_nat (j := 1) rfl, _, _, rfl, rfl, .inl ⟨by omega, by omega⟩, _, _, rfl, rfl, .inl ⟨_, rfl, _, _, rfl, rfl, n1, ?_⟩⟩
    obtain ⟨y, ey, hy⟩ := fmod_nat (i := b * 40014 + 1109) (j := 2147483563) (by decide)
    show gSub (tVar 0) (tC (.int 1)) rSetL (.int (Int.fmod (b * 40014 + 1109) 2147483563)) _ _ _
    rw [ey]
    refine ⟨_, rfl, p, _, 1, 1, rfl, rfl, e, rfl, ?_⟩
    have e2 : upd H p (.lst [.int a, .int (y : Int)]) p = some (.lst [.int a, .int (y : Int)]) := upd_same
    have B : But p H (upd H p (.lst [.int a, .int (y : Int)])) := but_upd _
    refine ⟨_, rfl, p, _, 1, _, rfl, rfl, .inl (.inl e2), atI_nat (j := 1) rfl, _, rfl, p, _, 1, _, rfl, rfl, .inl (.inl e2), atI_nat (j := 1) rfl, _, _, rfl, rfl, .inl ⟨by omega, by omega⟩, .inl ⟨_, rfl, _, _, rfl, rfl, n2, _, _, rfl, rfl, n3, .inl ⟨_, rfl, _, rfl, _, _, rfl, rfl, by omega, ?_⟩⟩⟩
    obtain ⟨d, ed, hd⟩ := fmod_nat (i := Int.fdiv (Int.fmod ((y : Int) * (y : Int)) 2147483587) 21) (j := (m : Int)) (by omega)
    show Q (.int (Int.fmod (Int.fdiv (Int.fmod ((y : Int) * (y : Int)) 2147483587) 21) (m : Int))) _
    rw [ed]
    exact q d _ (by omega) B ⟨_, _, upd_same, ha, by omega, by omega⟩
end
end UW

/-! Drawing loose types, two of them. -/
namespace UW
open PySem PySem.Spec PyProof.Rows L2 U UV UD UX
section
variable {P : Program} {w : World} {K : PySem.W.Frag} {mg : Str → Option Value} {base : Heap}

theorem Pot.but {H H' : Hp} {p d : Addr} (B : But d H H') (n : p ≠ d) (h : Pot H p) : Pot H' p := by
  obtain ⟨a, b, e, r⟩ := h
  exact ⟨a, b, B _ _ n e, r⟩
theorem Pot.fresh {H : Hp} {p q : Addr} (h : Pot H p) (hq : H q = none) : p ≠ q := by
  obtain ⟨a, b, e, r⟩ := h
  exact ne_of_none e hq
def spPick (K : PySem.W.Frag) : Sp := fun vs H Q _ => ∃ (p l : Addr) (xs : List V), vs = [.ref p, .ref l] ∧ Pot H p ∧ H l = some (.lst xs) ∧ p ≠ l ∧ 0 < xs.length ∧ xs.length < 100 ∧ ∀ (d : Nat) x H', xs[d]? = some x → But p H H' → Pot H' p → Q x H'
theorem ok_law_pick (D : Defs K mg) : FnOk P w K mg base CX0 2 D.law_pick.a D.law_pick.fd ["_law_pot_here", "_law_some"] (spPick K) := by
  have G_law_draw := ok_law_draw (P := P) (w := w) (base := base) D
  have sc := sc_law_pick
  refine D.law_pick.F.ok sc (fun vs H Q E h => ?_) (fun cdv A outer s H vs Q E hr h => ?_)
  · obtain ⟨p, l, xs, rfl, _⟩ := h
    rfl
  obtain ⟨p, l, xs, rfl, hp, hl, ne, h0, h1, q⟩ := h
  refine ⟨_, (pss_one (ps_ret (pe_ix ix_list (pv 1) (pcall D.law_draw G_law_draw (hr.mono (by omega)) (by rfl) (pa_cons (pv 0) (pa_cons (pe_callB call_len_seq (by rfl) D.z_len (by decide +kernel) (pa_cons (pv 1) pa_nil)) pa_nil))) (fun _ _ => rfl)))), ?_⟩
  refine ⟨_, rfl, _, rfl, _, rfl, l, xs, rfl, .inl (.inl (.inl hl)), p, xs.length, rfl, hp, h0, h1, fun d H1 hd B1 hp1 => ?_⟩
  have e : xs[d]? = some xs[d] := List.getElem?_eq_getElem hd
  exact ⟨l, xs, _, _, rfl, rfl, .inl (.inl (B1 _ _ (Ne.symm ne) hl)), atI_nat e, q d _ H1 e B1 hp1⟩

/-! ### loose types -/
theorem gd_plain (p : Pl) (n : Nat) : Gd n (.node (.plain p) []) := by
  refine ⟨wf_node.mpr ⟨rfl, fun t h => (nomatch h)⟩, fun k h => ?_, fun k h => ?_, ?_⟩
  · obtain ⟨t, ht, _⟩ := occ_node.mp h; cases ht
  · obtain ⟨t, ht, _⟩ := occ_node.mp h; cases ht
  · rw [depth, depths]; omega
theorem gd_node {n : Nat} {l : Lab} {ks : List Ty} (ho : okL l ks.length = true) (h : ∀ t ∈ ks, Gd n t) : Gd (n + 1) (.node l ks) :=
  ⟨wf_node.mpr ⟨ho, fun t ht => (h t ht).wf⟩, fun k hk => by obtain ⟨t, ht, hk⟩ := occ_node.mp hk; exact (h t ht).nop k hk, fun k hk => by obtain ⟨t, ht, hk⟩ := occ_node.mp hk; exact (h t ht).lt k hk, by rw [depth]; exact depths_le fun t ht => by have := (h t ht).dp; omega⟩
def spLs (K : PySem.W.Frag) (n : Nat) : Sp := fun vs H Q _ => ∃ (p : Addr), vs = [.ref p, nV n] ∧ Pot H p ∧ ∀ v t H', But p H H' → Pot H' p → Rep K H' v t → Gd n t → Q v H'
def plN : Nat → Pl
  | 0 => .int
  | 1 => .bool
  | 2 => .unit
  | _ => .exn
theorem ok_law_loose (D : Defs K mg) : ∀ n, FnOk P w K mg base CX0 (n + 2 + 1) D.law_loose.a D.law_loose.fd ["_law_pot_here", "_law_deep"] (spLs K n) := by
  have G_law_draw := ok_law_draw (P := P) (w := w) (base := base) D
  have G_law_pick := ok_law_pick (P := P) (w := w) (base := base) D
  refine fn_rec (fun n vs H Q E h => ?_) fun n G_law_loose => ?_
  · obtain ⟨p, rfl, _⟩ := h
    rfl
  have sc := sc_law_loose
  refine D.law_loose.F.ok sc (fun vs H Q E h => ?_) (fun cdv A outer s H vs Q E hr h => ?_)
  · obtain ⟨p, rfl, _⟩ := h
    rfl
  obtain ⟨p, rfl, hp, q⟩ := h
  refine ⟨_, (pss_cons (ps_set (i := 2) sc.nd rfl (Or.inl rfl) (pe_ifExp (pt_cmpR op_gt (pv 1) pe_int (nomark _)) (pcall D.law_draw G_law_draw (hr.mono (by omega)) (by rfl) (pa_cons (pv 0) (pa_cons pe_int pa_nil))) (pcall D.law_draw G_law_draw (hr.mono (by omega)) (by rfl) (pa_cons (pv 0) (pa_cons pe_int pa_nil)))))
      (pss_cons (ps_if (pt_cmpR op_lt (pv 2) pe_int (nomark _)) (pss_one (ps_ret (pe_tup (pa_cons pe_str (pa_cons (pcall D.law_draw G_law_draw (hr.mono (by omega)) (by rfl) (pa_cons (pv 0) (pa_cons pe_int pa_nil))) pa_nil))))) pss_nil)
      (pss_cons (ps_if (pt_cmpR op_lt (pv 2) pe_int (nomark _)) (pss_one (ps_ret (pe_ix ix_list (pe_lst (pa_cons (pe_tup (pa_cons pe_str pa_nil)) (pa_cons (pe_tup (pa_cons pe_str pa_nil)) (pa_cons (pe_tup (pa_cons pe_str pa_nil)) (pa_cons (pe_tup (pa_cons pe_str pa_nil)) pa_nil))))) (pcall D.law_draw G_law_draw (hr.mono (by omega)) (by rfl) (pa_cons (pv 0) (pa_cons pe_int pa_nil))) (fun _ _ => rfl)))) pss_nil)
      (pss_cons (ps_set (i := 3) sc.nd rfl (Or.inl rfl) (pcall D.law_loose G_law_loose (hr.mono (by omega)) (by rfl) (pa_cons (pv 0) (pa_cons (pe_op op_sub (pv 1) pe_int) pa_nil))))
      (pss_cons (ps_if (pt_cmpR (op_eqG (room_eq hr)) (pv 2) pe_int (nomark _)) (pss_one (ps_ret (pe_tup (pa_cons (pcall D.law_pick G_law_pick (hr.mono (by omega)) (by rfl) (pa_cons (pv 0) (pa_cons (pe_lst (pa_cons pe_str (pa_cons pe_str pa_nil))) pa_nil))) (pa_cons (pv 3) pa_nil))))) pss_nil)
      (pss_cons (ps_if (pt_cmpR (op_eqG (room_eq hr)) (pv 2) pe_int (nomark _)) (pss_one (ps_ret (pe_tup (pa_cons pe_str (pa_cons (pcall D.law_pick G_law_pick (hr.mono (by omega)) (by rfl) (pa_cons (pv 0) (pa_cons (pe_lst (pa_cons pe_str (pa_cons pe_str (pa_cons pe_str pa_nil)))) pa_nil))) (pa_cons (pe_tup (pa_cons (pv 3) pa_nil)) pa_nil)))))) pss_nil)
      (pss_cons (ps_set (i := 4) sc.nd rfl (Or.inl rfl) (pcall D.law_loose G_law_loose (hr.mono (by omega)) (by rfl) (pa_cons (pv 0) (pa_cons (pe_op op_sub (pv 1) pe_int) pa_nil))))
      (pss_one (ps_ret (pe_ix ix_list (pe_lst (pa_cons (pe_tup (pa_cons pe_str (pa_cons (pv 3) (pa_cons (pv 4) pa_nil)))) (pa_cons (pe_tup (pa_cons pe_str (pa_cons (pe_tup (pa_cons (pv 3) (pa_cons (pv 4) pa_nil))) pa_nil))) (pa_cons (pe_tup (pa_cons pe_str (pa_cons (pe_tup (pa_cons (pv 3) (pa_cons (pv 4) (pa_cons (pv 3) pa_nil)))) pa_nil))) pa_nil)))) (pe_op op_sub (pv 2) pe_int) (fun _ _ => rfl))))))))))), ?_⟩
  have first : ∀ Qk : VK, (∀ (f : Nat) H1, f < 9 → (n = 0 → f < 4) → But p H H1 → Pot H1 p → Qk (nV f) H1) → tIf (tTest (tOp (rI0 fun i j => .bl (decide (j < i))) (tVar 1) (tC (.int 0)))) (tCall spDraw [] E0 (tCons (tVar 0) (tCons (tC (.int 9)) tNil))) (tCall spDraw [] E0 (tCons (tVar 0) (tCons (tC (.int 4)) tNil))) (start ["_law_pot_here", "_law_deep", "_law_form", "_law_one", "_law_late"] [.ref p, nV n]) H Qk := by
    intro Qk qk
    refine ⟨_, rfl, _, _, rfl, rfl, _, rfl, ?_⟩
    by_cases hn : (0 : Int) < (n : Int)
    · refine iteB1 (decide_eq_true hn) ?_
      exact ⟨_, rfl, p, 9, rfl, hp, by decide, by decide, fun d H1 hd B hp1 => qk d H1 hd (fun z => by omega) B hp1⟩
    · refine iteB0 (decide_eq_false hn) ?_
      exact ⟨_, rfl, p, 4, rfl, hp, by decide, by decide, fun d H1 hd B hp1 => qk d H1 (by omega) (fun _ => hd) B hp1⟩
  refine first _ fun f H1 hf hf0 B1 hp1 => ?_
  have qq : ∀ v t H', But p H1 H' → Pot H' p → Rep K H' v t → Gd n t → Q v H' := fun v t H' B => q v t H' (B1.trans B)
  refine ⟨_, rfl, _, _, rfl, rfl, _, rfl, ?_⟩
  by_cases f2 : f < 2
  · refine iteB1 (decide_eq_true (by omega)) ?_
    refine ⟨_, rfl, p, 6, rfl, hp1, by decide, by decide, fun d H2 hd B2 hp2 => ⟨Nat.le_of_ble_eq_true rfl, fun r hr0 => ?_⟩⟩
    have S := same_new (H := H2) (p := r) (o := .tup [.str "unknown", nV d]) hr0
    exact qq _ (.var false d) _ (B2.trans (but_same S)) (hp2.same S) (Rep.mkVar (p := false) (.inl (.inl upd_same))) (Gd.var hd)
  refine iteB0 (decide_eq_false (by omega)) ?_
  refine ⟨_, rfl, _, _, rfl, rfl, _, rfl, ?_⟩
  by_cases f4 : f < 4
  · refine iteB1 (decide_eq_true (by omega)) ?_
    refine ⟨Nat.le_of_ble_eq_true rfl, fun a hA => ⟨Nat.le_of_ble_eq_true rfl, fun b hB => ⟨Nat.le_of_ble_eq_true rfl, fun c hC => ⟨Nat.le_of_ble_eq_true rfl, fun d hD => ⟨Nat.le_of_ble_eq_true rfl, fun l hl => ?_⟩⟩⟩⟩⟩
    have s1 := same_new (o := .tup [.str "int"]) hA
    have s2 := same_new (o := .tup [.str "bool"]) hB
    have s3 := same_new (o := .tup [.str "unit"]) hC
    have s4 := same_new (o := .tup [.str "exn"]) hD
    have s5 := same_new (o := .lst [.ref a, .ref b, .ref c, .ref d]) hl
    have S := same_trans s1 (same_trans s2 (same_trans s3 (same_trans s4 s5)))
    have a1 := s5 _ _ (s4 _ _ (s3 _ _ (s2 _ _ upd_same)))
    have b1 := s5 _ _ (s4 _ _ (s3 _ _ upd_same))
    have c1 := s5 _ _ (s4 _ _ upd_same)
    have d1 := s5 _ _ upd_same
    have pl : p ≠ l := by
      obtain ⟨x, y, e, _⟩ := hp1
      exact ne_of_none (s4 _ _ (s3 _ _ (s2 _ _ (s1 _ _ e)))) hl
    refine ⟨_, rfl, p, 4, rfl, hp1.same S, by decide, by decide, fun k H2 hk B2 hp2 => ?_⟩
    have T := Pot.tst B2 (hp1.same S)
    have e2 := B2 _ _ (Ne.symm pl) upd_same
    have fin : ∀ r pp, [V.ref a, V.ref b, V.ref c, V.ref d][k]? = some (.ref r) → Rep K H2 (.ref r) (.node (.plain pp) []) → rIxL K (.ref l) (nV k) H2 Q := fun r pp e hr => ⟨l, _, _, _, rfl, rfl, .inl (.inl e2), atI_nat e, qq _ _ _ ((but_same S).trans B2) hp2 hr (gd_plain pp n)⟩
    match k, hk with
    | 0, _ => exact fin a .int rfl (Rep.mkFlat rfl (tst_seq T (.inl (.inl a1))) .nil)
    | 1, _ => exact fin b .bool rfl (Rep.mkFlat rfl (tst_seq T (.inl (.inl b1))) .nil)
    | 2, _ => exact fin c .unit rfl (Rep.mkFlat rfl (tst_seq T (.inl (.inl c1))) .nil)
    | 3, _ => exact fin d .exn rfl (Rep.mkFlat rfl (tst_seq T (.inl (.inl d1))) .nil)
  refine iteB0 (decide_eq_false (by omega)) ?_
  obtain ⟨m, rfl⟩ : ∃ m, n = m + 1 := ⟨n - 1, by omega⟩
  refine ⟨_, rfl, _, rfl, _, _, rfl, rfl, m, by omega, p, ?_, hp1, fun v1 t1 H2 B2 hp2 r1 g1 => ?_⟩
  · show [V.ref p, V.int (((m + 1 : Nat) : Int) - 1)] = [V.ref p, nV m]
    rw [show (((m + 1 : Nat) : Int) - 1) = (m : Int) by omega]
  refine ⟨_, rfl, .int _, .int _, .int _, .int _, rfl, rfl, Nat.zero_le _, _, rfl, ?_⟩
  rw [eqv_int]
  by_cases e4 : f = 4
  · refine iteB1 (decide_eq_true (by omega)) ?_
    refine ⟨_, rfl, Nat.le_of_ble_eq_true rfl, fun l hl => ?_⟩
    have s1 := same_new (o := .lst [.str "ref", .str "array"]) hl
    refine ⟨p, l, _, rfl, hp2.same s1, upd_same, hp2.fresh hl, by decide, by decide, fun d x H3 ex B3 hp3 => ⟨_, rfl, Nat.le_of_ble_eq_true rfl, fun r hr0 => ?_⟩⟩
    have T3 := (tst_same s1).trans (Pot.tst B3 (hp2.same s1))
    have s4 := same_new (H := H3) (p := r) (o := .tup [x, v1]) hr0
    have BB := ((B2.trans (but_same s1)).trans B3).trans (but_same s4)
    have r4 : Reps K (upd H3 r (.tup [x, v1])) [v1] [t1] := .cons ((r1.mono T3).mono (tst_same s4)) .nil
    match d, ex with
    | 0, ex => cases ex; exact qq _ (.node (.one true) [t1]) _ BB (hp3.same s4) (Rep.mkFlat rfl (.inl (.inl upd_same)) r4) (gd_node rfl fun t ht => by rw [List.mem_singleton.mp ht]; exact g1)
    | 1, ex => cases ex; exact qq _ (.node (.one false) [t1]) _ BB (hp3.same s4) (Rep.mkFlat rfl (.inl (.inl upd_same)) r4) (gd_node rfl fun t ht => by rw [List.mem_singleton.mp ht]; exact g1)
    | d + 2, ex => simp at ex
  refine iteB0 (decide_eq_false (by omega)) ?_
  refine ⟨_, rfl, .int _, .int _, .int _, .int _, rfl, rfl, Nat.zero_le _, _, rfl, ?_⟩
  rw [eqv_int]
  by_cases e5 : f = 5
  · refine iteB1 (decide_eq_true (by omega)) ?_
    refine ⟨_, rfl, Nat.le_of_ble_eq_true rfl, fun l hl => ?_⟩
    have s1 := same_new (o := .lst [.str "list", .str "option", .str "M.t"]) hl
    refine ⟨p, l, _, rfl, hp2.same s1, upd_same, hp2.fresh hl, by decide, by decide, fun d x H3 ex B3 hp3 => ⟨_, rfl, Nat.le_of_ble_eq_true rfl, fun c hc => ⟨Nat.le_of_ble_eq_true rfl, fun r hr0 => ?_⟩⟩⟩
    have T3 := (tst_same s1).trans (Pot.tst B3 (hp2.same s1))
    have s4 := same_new (H := H3) (p := c) (o := .tup [v1]) hc
    have s5 := same_new (H := upd H3 c (.tup [v1])) (p := r) (o := .tup [.str "data", x, .ref c]) hr0
    have s45 := same_trans s4 s5
    have BB := ((B2.trans (but_same s1)).trans B3).trans (but_same s45)
    have r4 : Reps K (upd (upd H3 c (.tup [v1])) r (.tup [.str "data", x, .ref c])) [v1] [t1] := .cons ((r1.mono T3).mono (tst_same s45)) .nil
    have fin : ∀ nm, x = .str (nmW nm) → Q (.ref r) (upd (upd H3 c (.tup [v1])) r (.tup [.str "data", x, .ref c])) := fun nm e => by
      subst e
      exact qq _ (.node (.data nm) [t1]) _ BB (hp3.same s45) (Rep.mkData (.inl (.inl upd_same)) (tst_seq (tst_same s5) (.inl (.inl upd_same))) r4) (gd_node rfl fun t ht => by rw [List.mem_singleton.mp ht]; exact g1)
    match d, ex with
    | 0, ex => cases ex; exact fin .list rfl
    | 1, ex => cases ex; exact fin .option rfl
    | 2, ex => cases ex; exact fin .mt rfl
    | d + 3, ex => simp at ex
  refine iteB0 (decide_eq_false (by omega)) ?_
  refine ⟨_, rfl, _, rfl, _, _, rfl, rfl, m, by omega, p, ?_, hp2, fun v2 t2 H3 B3 hp3 r2 g2 => ?_⟩
  · show [V.ref p, V.int (((m + 1 : Nat) : Int) - 1)] = [V.ref p, nV m]
    rw [show (((m + 1 : Nat) : Int) - 1) = (m : Int) by omega]
  refine ⟨_, rfl, _, rfl, Nat.le_of_ble_eq_true rfl, fun a hA => ⟨_, rfl, _, rfl, Nat.le_of_ble_eq_true rfl, fun b hB => ⟨Nat.le_of_ble_eq_true rfl, fun c hC => ⟨_, rfl, _, rfl, _, rfl, Nat.le_of_ble_eq_true rfl, fun d hD => ⟨Nat.le_of_ble_eq_true rfl, fun e hE => ⟨Nat.le_of_ble_eq_true rfl, fun l hl => ⟨_, rfl, _, _, rfl, rfl, ?_⟩⟩⟩⟩⟩⟩⟩
  have s1 := same_new (o := .tup [.str "fun", v1, v2]) hA
  have s2 := same_new (o := .tup [v1, v2]) hB
  have s3 := same_new (o := .tup [.str "tuple", .ref b]) hC
  have s4 := same_new (o := .tup [v1, v2, v1]) hD
  have s5 := same_new (o := .tup [.str "tuple", .ref d]) hE
  have s6 := same_new (o := .lst [.ref a, .ref c, .ref e]) hl
  have S36 := same_trans s4 (same_trans s5 s6)
  have S26 := same_trans s3 S36
  have S16 := same_trans s2 S26
  have S := same_trans s1 S16
  have T3 := Pot.tst B3 hp2
  have x1 := (r1.mono T3).mono (tst_same S)
  have x2 := r2.mono (tst_same S)
  have BB := (B2.trans B3).trans (but_same S)
  have g2' : ∀ t ∈ [t1, t2], Gd m t := fun t ht => by
    rcases List.mem_cons.mp ht with z | ht
    · rw [z]; exact g1
    · rw [List.mem_singleton.mp ht]; exact g2
  have g3' : ∀ t ∈ [t1, t2, t1], Gd m t := fun t ht => by
    rcases List.mem_cons.mp ht with z | ht
    · rw [z]; exact g1
    · rcases List.mem_cons.mp ht with z | ht
      · rw [z]; exact g2
      · rw [List.mem_singleton.mp ht]; exact g1
  have fin : ∀ r t, [V.ref a, V.ref c, V.ref e][f - 6]? = some (.ref r) → Rep K _ (.ref r) t → Gd (m + 1) t → rIxL K (.ref l) (.int ((f : Int) - 6)) _ Q := fun r t ee hr hg => by
    refine ⟨l, _, _, .ref r, rfl, rfl, .inl (.inl upd_same), ?_, qq _ t _ BB (hp3.same S) hr hg⟩
    rw [show (f : Int) - 6 = ((f - 6 : Nat) : Int) by omega]
    exact atI_nat ee
  by_cases e6 : f = 6
  · exact fin a (.node .fn [t1, t2]) (by rw [e6]; rfl) (Rep.mkFlat rfl (.inl (.inl (S16 _ _ upd_same))) (.cons x1 (.cons x2 .nil))) (gd_node rfl g2')
  by_cases e7 : f = 7
  · exact fin c (.node .tup [t1, t2]) (by rw [e7]; rfl) (Rep.mkTup (.inl (.inl (S36 _ _ upd_same))) (.inl (.inl (S26 _ _ upd_same))) (.cons x1 (.cons x2 .nil))) (gd_node rfl g2')
  have e8 : f = 8 := by omega
  exact fin e (.node .tup [t1, t2, t1]) (by rw [e8]; rfl) (Rep.mkTup (.inl (.inl (s6 _ _ upd_same))) (.inl (.inl ((same_trans s5 s6) _ _ upd_same))) (.cons x1 (.cons x2 (.cons x1 .nil)))) (gd_node rfl g3')
/-! ### two types -/
theorem lk_gd {n : Nat} {r : Told} (h : ∀ q ∈ r, Gd n q.2) {k : Nat} (hk : k < 6) : Gd n (lk false r k) := by
  unfold lk
  cases e : r.lookup k with
  | none => exact Gd.var hk
  | some t => exact h (k, t) (look_mem e)
theorem pok_puts {t : Ty} {σ τ : Nat → Ty} (h : Gd 3 t) (hs : ∀ k, k < 6 → Gd 1 (σ k)) (ht : ∀ k, k < 6 → Gd 1 (τ k)) : POk (put false σ t) (put false τ t) := by
  have g1 := h.put hs
  have g2 := h.put ht
  refine ⟨g1.w, g2.w, ?_⟩
  cases t with
  | var p k =>
    cases p with
    | true => exact absurd (occ_var.mpr ⟨rfl, rfl⟩) (h.nop k)
    | false =>
      have hk := h.lt k (occ_var.mpr ⟨rfl, rfl⟩)
      rw [put_var, put_var]
      have := (hs k hk).dp
      have := (ht k hk).dp
      exact .inl ⟨by omega, by omega⟩
  | node l ks =>
    refine .inr ⟨g1.dp, g2.dp, ?_, ?_⟩ <;> (rw [put_node]; trivial)
theorem look_keys {r : Told} {k : Nat} (h : k ∉ keys r) : r.lookup k = none := look_none.mpr h
/-- filling a dict by drawn types -/
def FillP (K : PySem.W.Frag) (p d : Addr) (H0 : Hp) (lo i : Nat) (H : Hp) : Prop := But p H0 H ∧ Pot H p ∧ ∃ r, TolD K H d r ∧ keys r = (List.range i).map (lo + ·) ∧ ∀ q ∈ r, Gd 1 q.2
theorem fill_step {σ : L2.St} {p d : Addr} {H0 H : Hp} {lo i j m : Nat} {D : Ends} (h : FillP K p d H0 lo i H) (hp : σ[0]? = some (some (.ref p))) (hd : σ[j]? = some (some (.ref d))) (hi : σ[m]? = some (some (nV (lo + i)))) (h0 : H0 d = none) (hne : d ≠ p) (hl : i ≤ 100) (nx : ∀ H', FillP K p d H0 lo (i + 1) H' → D.nx σ H') :
    sDPut (tVar j) (tVar m) (tCall (spLs K 1) [] E0 (tCons (tVar 0) (tCons (tC (.int 1)) tNil))) D σ H := by
  obtain ⟨B, hP, r, hT, hk, hg⟩ := h
  refine ⟨_, hp, p, rfl, hP, fun v t H1 B1 hP1 hv gt => ?_⟩
  have T1 := Pot.tst B1 hP
  have hT1 : TolD K H1 d r := by
    obtain ⟨kvs, e, hh⟩ := hT
    exact ⟨kvs, B1 _ _ hne e, hh.mono T1⟩
  have rl : r.length = i := by
    have := congrArg List.length hk
    rwa [keys_len, List.length_map, List.length_range] at this
  obtain ⟨H2, pt, B2, hT2, T2⟩ := hT1.put (k := lo + i) (look_keys (by rw [hk]; intro z; obtain ⟨a, ha, e⟩ := List.mem_map.mp z; have := List.mem_range.mp ha; omega)) hv (by omega)
  refine ⟨_, hd, _, hi, d, H2, rfl, pt, nx H2 ⟨?_, hP1.but B2 (Ne.symm hne), _, hT2, ?_, fun q hq => ?_⟩⟩
  · intro b o n e
    exact B2 b o (ne_of_none e h0) (B1 b o n (B b o n e))
  · rw [keys_snoc, hk, List.range_succ, List.map_append]; rfl
  · rcases List.mem_append.mp hq with hq | hq
    · exact hg q hq
    · rw [List.mem_singleton.mp hq]; exact gt
def spTwo (K : PySem.W.Frag) : Sp := fun vs H Q _ => ∃ (p : Addr), vs = [.ref p] ∧ Pot H p ∧ ∀ a v u s t H', But p H H' → Pot H' p → SqT K H' a [v, u] → Rep K H' v s → Rep K H' u t → POk s t → Q (.ref a) H'
theorem pok3 {a b : Ty} (h : Gd 3 a) (g : Gd 3 b) : POk a b := ⟨h.w, g.w, .inl ⟨h.dp, g.dp⟩⟩
theorem ok_law_two (D : Defs K mg) : FnOk P w K mg base CX0 7 D.law_two.a D.law_two.fd ["_law_pot_here"] (spTwo K) := by
  have G_law_draw := ok_law_draw (P := P) (w := w) (base := base) D
  have G1 := ok_law_loose (P := P) (w := w) (base := base) D 1
  have G3 := ok_law_loose (P := P) (w := w) (base := base) D 3
  have G_law_put := ok_law_put (P := P) (w := w) (base := base) D 3
  have sc := sc_law_two
  refine D.law_two.F.ok sc (fun vs H Q E h => ?_) (fun cdv A outer s H vs Q E hr h => ?_)
  · obtain ⟨p, rfl, _⟩ := h
    rfl
  obtain ⟨p, rfl, hp, q⟩ := h
  refine ⟨_, (pss_cons (ps_set (i := 1) sc.nd rfl (Or.inl rfl) (pcall D.law_loose G3 (hr.mono (by omega)) (by rfl) (pa_cons (pv 0) (pa_cons pe_int pa_nil))))
      (pss_cons (ps_set (i := 2) sc.nd rfl (Or.inl rfl) (pcall D.law_draw G_law_draw (hr.mono (by omega)) (by rfl) (pa_cons (pv 0) (pa_cons pe_int pa_nil))))
      (pss_cons (ps_if (pt_cmpR (op_eqG (room_eq hr)) (pv 2) pe_int (nomark _)) (pss_one (ps_ret (pe_tup (pa_cons (pv 1) (pa_cons (pcall D.law_loose G3 (hr.mono (by omega)) (by rfl) (pa_cons (pv 0) (pa_cons pe_int pa_nil))) pa_nil))))) pss_nil)
      (pss_cons (ps_set (i := 3) sc.nd rfl (Or.inl rfl) pe_dnewK)
      (pss_cons (ps_for PassesOwn.never rfl (pi_range1 rfl D.z_range (pa_cons (pe_op op_add pe_int (pcall D.law_draw G_law_draw (hr.mono (by omega)) (by rfl) (pa_cons (pv 0) (pa_cons pe_int pa_nil)))) pa_nil)) (pg_name (i := 4) sc.nd rfl (Or.inl rfl)) (pss_one (ps_dput (hu_of hr) (pv 3) (pv 4) (pcall D.law_loose G1 (hr.mono (by omega)) (by rfl) (pa_cons (pv 0) (pa_cons pe_int pa_nil))) rfl)))
      (pss_cons (ps_set (i := 5) sc.nd rfl (Or.inl rfl) (pcall D.law_put G_law_put (hr.mono (by omega)) (by rfl) (pa_cons (pv 1) (pa_cons (pv 3) pa_nil))))
      (pss_cons (ps_if (pt_cmpR (op_eqG (room_eq hr)) (pv 2) pe_int (nomark _)) (pss_one (ps_ret (pe_tup (pa_cons (pv 1) (pa_cons (pv 5) pa_nil))))) pss_nil)
      (pss_cons (ps_set (i := 6) sc.nd rfl (Or.inl rfl) pe_dnewK)
      (pss_cons (ps_for PassesOwn.never rfl (pi_range2 rfl D.z_range (pa_cons pe_int (pa_cons pe_int pa_nil))) (pg_name (i := 4) sc.nd rfl (Or.inl rfl)) (pss_one (ps_dput (hu_of hr) (pv 6) (pv 4) (pcall D.law_loose G1 (hr.mono (by omega)) (by rfl) (pa_cons (pv 0) (pa_cons pe_int pa_nil))) rfl)))
      (pss_one (ps_ret (pe_tup (pa_cons (pcall D.law_put G_law_put (hr.mono (by omega)) (by rfl) (pa_cons (pv 1) (pa_cons (pv 6) pa_nil))) (pa_cons (pv 5) pa_nil)))))))))))))), ?_⟩
  refine ⟨_, rfl, p, rfl, hp, fun v1 t1 H1 B1 hp1 r1 g1 => ?_⟩
  refine ⟨_, rfl, p, 3, rfl, hp1, by decide, by decide, fun f H2 hf B2 hp2 => ?_⟩
  have B12 := B1.trans B2
  have r2 := r1.mono (Pot.tst B2 hp1)
  refine ⟨_, rfl, .int _, .int _, .int _, .int _, rfl, rfl, Nat.zero_le _, _, rfl, ?_⟩
  rw [eqv_int]
  by_cases f0 : f = 0
  · refine iteB1 (decide_eq_true (by omega)) ?_
    refine ⟨_, rfl, _, rfl, p, rfl, hp2, fun v2 t2 H3 B3 hp3 rr g2 => ⟨Nat.le_of_ble_eq_true rfl, fun a hA => ?_⟩⟩
    have S := same_new (H := H3) (p := a) (o := .tup [v1, v2]) hA
    exact q a v1 v2 t1 t2 _ ((B12.trans B3).trans (but_same S)) (hp3.same S) (.inl (.inl upd_same)) ((r2.mono (Pot.tst B3 hp2)).mono (tst_same S)) (rr.mono (tst_same S)) (pok3 g1 g2)
  refine iteB0 (decide_eq_false (by omega)) ?_
  intro d hd
  have S3 := same_new (H := H2) (p := d) (o := .dK []) hd
  have hp3 := hp2.same S3
  refine ⟨_, rfl, p, 4, rfl, hp3, by decide, by decide, fun k H3 hk B3 hp4 => ⟨_, _, rfl, rfl, _, rfl, by omega, by omega, ?_⟩⟩
  have ndp : d ≠ p := Ne.symm (hp2.fresh hd)
  have B23 : But p H2 H3 := (but_same S3).trans B3
  have hT3 : TolD K H3 d [] := ⟨[], B3 _ _ ndp upd_same, DictIs.nil⟩
  rw [show ((1 : Int) + (k : Int)).toNat = k + 1 by omega]
  refine for_range (fun i σ H' => (∃ o4, σ = [some (.ref p), some v1, some (nV f), some (.ref d), o4, none, none]) ∧ FillP K p d H2 0 i H') ⟨⟨none, rfl⟩, B23, hp4, [], hT3, rfl, fun _ h => (nomatch h)⟩ (fun i σ H' hi h => ?_) fun σ H' h => ?_
  · obtain ⟨⟨o4, rfl⟩, hF⟩ := h
    exact fill_step hF rfl rfl (by show some (some (V.int (0 + (i : Int)))) = some (some (V.int ((0 + i : Nat) : Int))); rw [Int.zero_add, Nat.zero_add]) hd ndp (by omega) fun H'' hF' => ⟨⟨_, rfl⟩, hF'⟩
  obtain ⟨⟨o4, rfl⟩, B4, hp5, rr, hT, hkr, hgr⟩ := h
  have T4 := Pot.tst B4 hp2
  have r4 := r2.mono T4
  refine ⟨_, rfl, _, rfl, v1, t1, d, rr, rfl, r4, g1.wf, hT, g1.dp, fun vn H5 S5 hn => ?_⟩
  have B5 := B12.trans (B4.trans (but_same S5))
  have hp6 := hp5.same S5
  have r5 := r4.mono (tst_same S5)
  have gn : ∀ k, k < 6 → Gd 1 (lk false rr k) := fun k hk => lk_gd hgr hk
  refine ⟨_, rfl, .int _, .int _, .int _, .int _, rfl, rfl, Nat.zero_le _, _, rfl, ?_⟩
  rw [eqv_int]
  by_cases f1 : f = 1
  · refine iteB1 (decide_eq_true (by omega)) ?_
    refine ⟨_, rfl, _, rfl, Nat.le_of_ble_eq_true rfl, fun a hA => ?_⟩
    have S := same_new (H := H5) (p := a) (o := .tup [v1, vn]) hA
    refine q a v1 vn t1 _ _ (B5.trans (but_same S)) (hp6.same S) (.inl (.inl upd_same)) (r5.mono (tst_same S)) (hn.mono (tst_same S)) ?_
    have := pok_puts g1 (σ := fun k => .var false k) (fun k hk => Gd.var hk) gn
    rwa [put_id] at this
  refine iteB0 (decide_eq_false (by omega)) ?_
  intro d2 hd2
  have S6 := same_new (H := H5) (p := d2) (o := .dK []) hd2
  have ndp2 : d2 ≠ p := Ne.symm (hp6.fresh hd2)
  refine ⟨_, _, rfl, ⟨by decide, by decide, by decide, by decide⟩, ?_⟩
  rw [show ((6 : Int) - 3).toNat = 3 from rfl]
  refine for_range (fun i σ H' => (∃ o4, σ = [some (.ref p), some v1, some (nV f), some (.ref d), o4, some vn, some (.ref d2)]) ∧ FillP K p d2 H5 3 i H') ⟨⟨_, rfl⟩, but_same S6, hp6.same S6, [], ⟨[], upd_same, DictIs.nil⟩, rfl, fun _ h => (nomatch h)⟩ (fun i σ H' hi h => ?_) fun σ H' h => ?_
  · obtain ⟨⟨o4, rfl⟩, hF⟩ := h
    exact fill_step hF rfl rfl (by show some (some (V.int (3 + (i : Int)))) = some (some (V.int ((3 + i : Nat) : Int))); rw [show (3 : Int) + (i : Int) = ((3 + i : Nat) : Int) by omega]) hd2 ndp2 (by omega) fun H'' hF' => ⟨⟨_, rfl⟩, hF'⟩
  obtain ⟨⟨o4, rfl⟩, B7, hp8, rr2, hT2, hkr2, hgr2⟩ := h
  have T7 := Pot.tst B7 hp6
  refine ⟨_, rfl, _, rfl, v1, t1, d2, rr2, rfl, r5.mono T7, g1.wf, hT2, g1.dp, fun vm H8 S8 hm => ⟨_, rfl, Nat.le_of_ble_eq_true rfl, fun a hA => ?_⟩⟩
  have S := same_new (H := H8) (p := a) (o := .tup [vm, vn]) hA
  have TT := (T7.trans (tst_same S8)).trans (tst_same S)
  exact q a vm vn _ _ _ ((B5.trans B7).trans ((but_same S8).trans (but_same S))) ((hp8.same S8).same S) (.inl (.inl upd_same)) (hm.mono (tst_same S)) (hn.mono TT) (pok_puts g1 (fun k hk => lk_gd hgr2 hk) gn)
end
end UW

/-! The law's own making one. -/
namespace UW
open PySem PySem.Spec PyProof.Rows L2 U UV UD UX
section
variable {P : Program} {w : World} {K : PySem.W.Frag} {mg : Str → Option Value} {base : Heap}

def mU (tri : Told) (a : Ty) : Nat := 30 * (6 - tri.length) + depth (ap tri a)
def spLUn (K : PySem.W.Frag) (n : Nat) : Sp := fun vs H Q _ => ∃ d v u a b raw tri, vs = [.ref d, v, u] ∧ Rep K H v a ∧ Rep K H u b ∧ TolD K H d tri ∧ Lnk (Gd 4) raw tri ∧ Via tri a ∧ Via tri b ∧ Gw a ∧ Gw b ∧ mU tri a ≤ n ∧
  ∀ r H' raw' tri', But d H H' → TolD K H' d tri' → Lnk (Gd 4) raw' tri' → Ext tri tri' → LU tri tri' [a] [b] r → Q (.bl r) H'
theorem ok_law_unite (D : Defs K mg) : ∀ n, FnOk P w K mg base CX0 (n + 36 + 1) D.law_unite.a D.law_unite.fd ["_law_told", "_law_one", "_law_other"] (spLUn K n) := by
  have G_law_within := ok_law_within (P := P) (w := w) (base := base) D
  have G_law_open := ok_law_open (P := P) (w := w) (base := base) D 34
  have G_law_numbers := ok_law_numbers (P := P) (w := w) (base := base) D 28
  refine fn_rec (fun n vs H Q E h => ?_) fun n G_law_unite => ?_
  · obtain ⟨d, v, u, a, b, raw, tri, rfl, _⟩ := h
    rfl
  have sc := sc_law_unite
  refine D.law_unite.F.ok sc (fun vs H Q E h => ?_) (fun cdv A outer s H vs Q E hr h => ?_)
  · obtain ⟨d, v, u, a, b, raw, tri, rfl, _⟩ := h
    rfl
  obtain ⟨d, v, u, a, b, raw, tri, rfl, ha, hb, hT, L, va, vb, ga, gb, hn, q⟩ := h
  refine ⟨_, (pss_cons (ps_par (i := 3) (j := 4) rfl sc.nd rfl rfl (by decide) rfl rfl (pa_cons (pcall D.law_open G_law_open (hr.mono (by omega)) (by rfl) (pa_cons (pv 0) (pa_cons (pv 1) pa_nil))) (pa_cons (pcall D.law_open G_law_open (hr.mono (by omega)) (by rfl) (pa_cons (pv 0) (pa_cons (pv 2) pa_nil))) pa_nil)) (by rfl))
      (pss_cons (ps_if (pt_cmpR (op_eqG (room_eq hr)) (pv 3) (pv 4) (nomark _)) (pss_one (ps_ret pe_bl)) pss_nil)
      (pss_cons (ps_if (PW.pt (pw_or (pt_cmpR (op_eqG (room_eq hr)) (pe_ix ix_tup (pv 3) pe_int (fun _ _ => rfl)) pe_str (nomark _)) (pw_or1 (pt_cmpR (op_eqG (room_eq hr)) (pe_ix ix_tup (pv 4) pe_int (fun _ _ => rfl)) pe_str (nomark _))))) (pss_cons (ps_asg (pe_ifExp (pt_cmpR (op_eqG (room_eq hr)) (pe_ix ix_tup (pv 3) pe_int (fun _ _ => rfl)) pe_str (nomark _)) (pe_tup (pa_cons (pv 3) (pa_cons (pv 4) pa_nil))) (pe_tup (pa_cons (pv 4) (pa_cons (pv 3) pa_nil)))) (pg_tup rfl (pgs_cons (pg_name (i := 5) sc.nd rfl (Or.inl rfl)) (pgs_cons (pg_name (i := 6) sc.nd rfl (Or.inl rfl)) pgs_nil))))
      (pss_cons (ps_if (pt_cmpR op_in_seq (pe_ix ix_tup (pv 5) pe_int (fun _ _ => rfl)) (pcall D.law_numbers G_law_numbers (hr.mono (by omega)) (by rfl) (pa_cons (pv 6) pa_nil)) (by rfl)) (pss_one (ps_ret pe_bl)) pss_nil)
      (pss_cons (ps_dput (hu_of hr) (pv 0) (pe_ix ix_tup (pv 5) pe_int (fun _ _ => rfl)) (pv 6) rfl)
      (pss_one (ps_ret pe_bl))))) pss_nil)
      (pss_cons (ps_if (PW.pt (pw_or (pt_cmpR (op_neG (room_eq hr)) (pe_ix ix_tup (pv 3) pe_int (fun _ _ => rfl)) (pe_ix ix_tup (pv 4) pe_int (fun _ _ => rfl)) (nomark _)) (pw_or1 (pt_cmpR (op_neG (room_eq hr)) (pe_callB call_len_seq (by rfl) D.z_len (by decide +kernel) (pa_cons (pcall D.law_within G_law_within (hr.mono (by omega)) (by rfl) (pa_cons (pv 3) pa_nil)) pa_nil)) (pe_callB call_len_seq (by rfl) D.z_len (by decide +kernel) (pa_cons (pcall D.law_within G_law_within (hr.mono (by omega)) (by rfl) (pa_cons (pv 4) pa_nil)) pa_nil)) (nomark _))))) (pss_one (ps_ret pe_bl)) pss_nil)
      (pss_cons (ps_if (PW.pt (pw_and (pt_cmpR (op_eqG (room_eq hr)) (pe_ix ix_tup (pv 3) pe_int (fun _ _ => rfl)) pe_str (nomark _)) (pw_and1 (pt_cmpR (op_neG (room_eq hr)) (pe_ix ix_tup (pv 3) pe_int (fun _ _ => rfl)) (pe_ix ix_tup (pv 4) pe_int (fun _ _ => rfl)) (nomark _))))) (pss_one (ps_ret pe_bl)) pss_nil)
      (pss_cons (ps_set (i := 7) sc.nd rfl (Or.inl rfl) (UR.pe_listZip rfl (by rfl) D.z_list (by rfl) D.z_zip (pa_cons (pcall D.law_within G_law_within (hr.mono (by omega)) (by rfl) (pa_cons (pv 3) pa_nil)) (pa_cons (pcall D.law_within G_law_within (hr.mono (by omega)) (by rfl) (pa_cons (pv 4) pa_nil)) pa_nil))))
      (pss_one (ps_ret (pe_callB (cr_all rfl) (by rfl) D.z_all (by decide +kernel) (pa_cons (pe_lc (own := [("_law_left", 8), ("_law_right_here", 9)]) rfl sc.nd (pi_list (pv 7)) (blkOk_by (own := [("_law_left", 8), ("_law_right_here", 9)]) (N := ["_law_told", "_law_one", "_law_other", "_law_near", "_law_far", "_law_spot", "_law_late", "_law_pairs", "_law_left", "_law_right_here"]) (sc := defScope s_law_unite) (by decide +kernel)) (fun _ _ _ _ _ => (show PG _ _ (gTup K 2 (gCons (gName 8) (gCons (gName 9) gNil))) from pg_tup rfl (pgs_cons (pg_name (i := 8) sc.nd rfl (Or.inl rfl)) (pgs_cons (pg_name (i := 9) sc.nd rfl (Or.inl rfl)) pgs_nil)))) (fun _ _ _ _ _ => pts_nil) (fun _ _ _ _ _ => (pcall D.law_unite G_law_unite (hr.mono (by omega)) (by rfl) (pa_cons (pv 0) (pa_cons (pv 8) (pa_cons (pv 9) pa_nil)))))) pa_nil)))))))))), ?_⟩
  have Ls := L.selfw fun t g => g.w
  have da := va.dep L
  have db := vb.dep L
  have gtri := L.gw fun t g => g.w
  have gna := Gw.ap gtri ga
  have gnb := Gw.ap gtri gb
  refine ⟨_, rfl, _, rfl, v, a, d, Gw, tri, tri, 6, rfl, ha, ga.wf, hT, Ls, fun t g => g.wf, Ls.rank a, by omega, fun nv H1 S1 rn => ?_⟩
  refine ⟨_, rfl, _, rfl, u, b, d, Gw, tri, tri, 6, rfl, hb.mono (tst_same S1), gb.wf, hT.same S1, Ls, fun t g => g.wf, Ls.rank b, by omega, fun fv H2 S2 rf => ⟨_, _, rfl, ?_⟩⟩
  have S12 := same_trans S1 S2
  have rn2 := rn.mono (tst_same S2)
  have hT2 := hT.same S12
  -- near == far
  refine ⟨_, rfl, _, rfl, _, _, rn2, rf, lay_tyD _, lay_tyD _, depth_t gna.wf (by omega), _, rfl, ?_⟩
  by_cases ec : ap tri a = ap tri b
  · rw [ec]
    refine iteB1 (eqv_T _) ?_
    exact q true H2 raw tri (but_same S12) hT2 L (Ext.refl _) (LU.same ec)
  refine iteB0 (eqv_F ec) ?_
  -- an unknown
  have unb : ∀ {x : Nat} {t : Ty}, ap tri t = .var false x → tri.lookup x = none := fun {x t} e => look_none.mpr fun hx => L.istri.gone (t := t) hx (by rw [e]; exact occ_var.mpr ⟨rfl, rfl⟩)
  by_cases e1 : word (ap tri a) = "unknown"
  · refine t_wordT rfl rn2 l_unknown e1 ?_
    refine iteT (iteT ?_)
    refine t_wordT rfl rn2 l_unknown e1 ?_
    refine iteT ?_
    obtain ⟨x, ex⟩ := is_unknown e1
    rw [ex] at rn2
    obtain ⟨a1, rfl, hSa⟩ := rn2.var
    refine ⟨_, rfl, _, rfl, Nat.le_of_ble_eq_true rfl, fun r hr0 => ⟨r, _, rfl, .inl (.inl upd_same), rfl, _, _, rfl, _, _, rfl, rfl, ?_⟩⟩
    have S4 := same_new (H := H2) (p := r) (o := .tup [.ref a1, fv]) hr0
    refine ⟨_, rfl, a1, _, 1, _, rfl, rfl, tst_seq (tst_same S4) hSa, atI_nat (j := 1) rfl, ?_⟩
    refine ⟨_, rfl, fv, _, rfl, rf.mono (tst_same S4), gnb.wf, few6 gnb, by omega, fun l H5 S5 hl0 hl => ?_⟩
    refine ⟨l, _, rfl, .inl (.inl (.inl hl)), rfl, flat_nums _, _, rfl, ?_⟩
    rw [if_neg (by decide), inV_nums]
    have S25 := same_trans S4 S5
    by_cases ho : occ false x (ap tri b)
    · refine iteB1 (List.contains_iff_mem.mpr ((mem_nums _).mpr ho)) ?_
      exact q false H5 raw tri (but_same (same_trans S12 S25)) (hT2.same S25) L (Ext.refl _) (LU.fail ex (fun z => ec (by rw [ex, z])) (fun k z => gnb.nop k (by rw [z]; exact occ_var.mpr ⟨rfl, rfl⟩)) ho)
    · refine iteB0 (by
        cases hc : (nums false (ap tri b)).contains x with
        | false => rfl
        | true => exact absurd ((mem_nums _).mp (List.contains_iff_mem.mp hc)) ho) ?_
      obtain ⟨b0, gb0, eb0⟩ := vb
      have hx6 : x < 6 := gna.lt x (by rw [ex]; exact occ_var.mpr ⟨rfl, rfl⟩)
      have L2' := Lnk.snoc L gb0 hx6 (look_none.mp (unb ex)) (by rw [← eb0]; exact ho)
      rw [← eb0] at L2'
      obtain ⟨H6, pt, B6, hT6, _⟩ := (hT2.same S25).put (unb ex) (rf.mono (tst_same S25)) (by have := L.len; omega)
      refine ⟨_, rfl, _, rfl, _, rfl, a1, _, 1, _, rfl, rfl, tst_seq (tst_same S25) hSa, atI_nat (j := 1) rfl, d, H6, rfl, pt, ?_⟩
      exact q true H6 _ _ ((but_same (same_trans S12 S25)).trans B6) hT6 L2' ⟨_, rfl⟩ (LU.bind ex)
  refine t_wordF rfl rn2 l_unknown e1 ?_
  refine iteF ?_
  by_cases e2 : word (ap tri b) = "unknown"
  · refine t_wordT rfl rf l_unknown e2 ?_
    refine iteT ?_
    refine t_wordF rfl rn2 l_unknown e1 ?_
    refine iteF ?_
    obtain ⟨x, ex⟩ := is_unknown e2
    rw [ex] at rf
    obtain ⟨a1, rfl, hSa⟩ := rf.var
    refine ⟨_, rfl, _, rfl, Nat.le_of_ble_eq_true rfl, fun r hr0 => ⟨r, _, rfl, .inl (.inl upd_same), rfl, _, _, rfl, _, _, rfl, rfl, ?_⟩⟩
    have S4 := same_new (H := H2) (p := r) (o := .tup [.ref a1, nv]) hr0
    refine ⟨_, rfl, a1, _, 1, _, rfl, rfl, tst_seq (tst_same S4) hSa, atI_nat (j := 1) rfl, ?_⟩
    refine ⟨_, rfl, nv, _, rfl, rn2.mono (tst_same S4), gna.wf, few6 gna, by omega, fun l H5 S5 hl0 hl => ?_⟩
    refine ⟨l, _, rfl, .inl (.inl (.inl hl)), rfl, flat_nums _, _, rfl, ?_⟩
    rw [if_neg (by decide), inV_nums]
    have S25 := same_trans S4 S5
    by_cases ho : occ false x (ap tri a)
    · refine iteB1 (List.contains_iff_mem.mpr ((mem_nums _).mpr ho)) ?_
      exact q false H5 raw tri (but_same (same_trans S12 S25)) (hT2.same S25) L (Ext.refl _) (LU.fail ex (fun z => ec (by rw [ex, z])) (fun k z => gna.nop k (by rw [z]; exact occ_var.mpr ⟨rfl, rfl⟩)) ho).swap
    · refine iteB0 (by
        cases hc : (nums false (ap tri a)).contains x with
        | false => rfl
        | true => exact absurd ((mem_nums _).mp (List.contains_iff_mem.mp hc)) ho) ?_
      obtain ⟨a0, ga0, ea0⟩ := va
      have hx6 : x < 6 := gnb.lt x (by rw [ex]; exact occ_var.mpr ⟨rfl, rfl⟩)
      have L2' := Lnk.snoc L ga0 hx6 (look_none.mp (unb ex)) (by rw [← ea0]; exact ho)
      rw [← ea0] at L2'
      obtain ⟨H6, pt, B6, hT6, _⟩ := (hT2.same S25).put (unb ex) (rn2.mono (tst_same S25)) (by have := L.len; omega)
      refine ⟨_, rfl, _, rfl, _, rfl, a1, _, 1, _, rfl, rfl, tst_seq (tst_same S25) hSa, atI_nat (j := 1) rfl, d, H6, rfl, pt, ?_⟩
      exact q true H6 _ _ ((but_same (same_trans S12 S25)).trans B6) hT6 L2' ⟨_, rfl⟩ (LU.bind ex).swap
  refine t_wordF rfl rf l_unknown e2 ?_
  refine iteF ?_
  have nca : ∃ l as, ap tri a = .node l as := by
    cases hc : ap tri a with
    | var p k =>
      cases p with
      | false => exact absurd (by rw [hc]; rfl) e1
      | true => exact absurd (by rw [hc]; exact occ_var.mpr ⟨rfl, rfl⟩) (gna.nop k)
    | node l as => exact ⟨l, as, rfl⟩
  have ncb : ∃ l as, ap tri b = .node l as := by
    cases hc : ap tri b with
    | var p k =>
      cases p with
      | false => exact absurd (by rw [hc]; rfl) e2
      | true => exact absurd (by rw [hc]; exact occ_var.mpr ⟨rfl, rfl⟩) (gnb.nop k)
    | node l as => exact ⟨l, as, rfl⟩
  obtain ⟨l, as, ea⟩ := nca
  obtain ⟨l2, bs, eb⟩ := ncb
  rw [ea] at rn2 gna da
  rw [eb] at rf gnb db
  refine t_words rfl rfl rn2 rf ?_
  by_cases e4 : word (.node l as) = word (.node l2 bs)
  case neg =>
    refine iteB1 (notF e4) (iteT ?_)
    exact q false H2 raw tri (but_same S12) hT2 L (Ext.refl _) (LU.no_node ea eb (.inl fun z => e4 (by rw [z]; rfl)))
  refine iteB0 (notT e4) ?_
  refine t_kids rfl rfl rn2 rf gna.wf gnb.wf fun H4 S4 => ?_
  have S14 := same_trans S12 S4
  by_cases e5 : as.length = bs.length
  case neg =>
    refine iteB1 (notF e5) ?_
    exact q false H4 raw tri (but_same S14) (hT.same S14) L (Ext.refl _) (LU.no_node ea eb (.inr e5))
  refine iteB0 (notT e5) ?_
  have rn4 := rn2.mono (tst_same S4)
  have rf4 := rf.mono (tst_same S4)
  have third : ∀ Qt : Bool → Hp → Prop, (l = l2 → Qt false H4) → (l ≠ l2 → Qt true H4) →
      tAnd (tTest (tOp (rEqG K) (tOp (rIxT K) (tVar 3) (tC (.int 0))) (tC (.str "data")))) (tTest (tOp (rNeG K) (tOp (rIxT K) (tVar 3) (tC (.int 1))) (tOp (rIxT K) (tVar 4) (tC (.int 1))))) [some (.ref d), some v, some u, some nv, some fv, none, none, none, none, none] H4 Qt := by
    intro Qt qF qT
    rcases words_eq e4 with ⟨p2, k, j, z, _⟩ | ⟨l', as', bs', z1, z2, hl⟩ | ⟨n1, m1, as', bs', z1, z2⟩
    · cases z
    · injection z1 with z1 z1'
      injection z2 with z2 z2'
      have nd : word (.node l as) ≠ "data" := fun z => by
        obtain ⟨n2, as2, z⟩ := is_data z
        injection z with z _
        exact hl n2 (z1.symm.trans z)
      refine t_wordF rfl rn4 l_data nd ?_
      exact iteF (qF (z1.trans z2.symm))
    · injection z1 with z1 z1'
      injection z2 with z2 z2'
      subst z1 z2
      refine t_wordT rfl rn4 l_data rfl ?_
      refine iteT ?_
      refine t_names rfl rfl rn4 rf4 ?_
      by_cases en : n1 = m1
      · rw [notT en]; exact qF (by rw [en])
      · rw [notF en]; exact qT fun z => en (by injection z)
  refine third _ (fun el => ?_) fun el => ?_
  case refine_2 =>
    refine iteT ?_
    exact q false H4 raw tri (but_same S14) (hT.same S14) L (Ext.refl _) (LU.no_node ea eb (.inl el))
  subst el
  refine iteF ?_
  refine ⟨_, rfl, nv, _, rfl, rn4, gna.wf, fun b1 ks H5 S5 hb1 hR1 => ⟨_, rfl, fv, _, rfl, rf4.mono (tst_same S5), gnb.wf, fun b2 js H6 S6 hb2 hR2 => ⟨b1, b2, ks, js, rfl, tst_seq (tst_same S6) hb1, hb2, ?_, ?_, fun D2 H7 ts S7 hD2 hD7 hlen hts => ?_⟩⟩⟩
  · rw [hR1.length, hR2.length]; exact e5
  · rw [hR1.length]; exact Nat.le_trans (kids_len gna.wf) (by decide)
  have S47 := same_trans S5 (same_trans S6 S7)
  have S17 := same_trans S14 S47
  have hR1' := hR1.mono ((tst_same S6).trans (tst_same S7))
  have hR2' := hR2.mono (tst_same S7)
  have kl := hR1.length
  have kl2 := hR2.length
  have k4 := kids_len gna.wf
  have hT7 := hT.same S17
  refine ⟨_, rfl, D2, rfl, ⟨_, .inl (.inl hD7)⟩, fun D3 hD3 => ?_⟩
  have nd2 : D2 ≠ d := fun z => by
    obtain ⟨kvs, e, _⟩ := hT7
    rw [z, e] at hD7; cases hD7
  have nd3 : D3 ≠ d := fun z => by
    obtain ⟨kvs, e, _⟩ := hT7
    rw [z, e] at hD3; cases hD3
  refine lc_list (xs := ts.map V.ref) (fun i H' => But d H7 H' ∧ ∃ rs ri ti, H' D3 = some (.lst (rs.map V.bl)) ∧ rs.length = i ∧ TolD K H' d ti ∧ Lnk (Gd 4) ri ti ∧ Ext tri ti ∧ LU tri ti (as.take i) (bs.take i) (rs.all id))
    ⟨but_same (same_new hD3), [], raw, tri, upd_same, rfl, hT7.same (same_new hD3), L, Ext.refl _, LU.nil _⟩ (fun i H' _ hh => ?_) (fun i z H' ez hh => ?_) fun H' hh => ?_
  · exact .inl (.inl (hh.1 _ _ nd2 hD7))
  · obtain ⟨B, rs, ri, ti, hL, hlen2, hTi, Li, Ei, lu⟩ := hh
    rw [List.getElem?_map] at ez
    obtain ⟨t, et, rfl⟩ := Option.map_eq_some_iff.mp ez
    obtain ⟨x1, y1, ex, ey, hh⟩ := hts i t et
    obtain ⟨ka, eka, hka⟩ := hR1'.at ex
    obtain ⟨kb, ekb, hkb⟩ := hR2'.at ey
    have eka : as[i]? = some ka := eka
    have ekb : bs[i]? = some kb := ekb
    have ma : ka ∈ as := List.mem_of_getElem? eka
    have mb : kb ∈ bs := List.mem_of_getElem? ekb
    have T := tst_d B hT7
    have vka := (Via.kid L va ea ma).ext Ei
    have vkb := (Via.kid L vb eb mb).ext Ei
    have gka := gna.kid ma
    have gkb := gnb.kid mb
    have lu1 : mU ti ka < n := by
      have e6 := Ei.len
      have l6 := Li.len
      unfold mU at hn ⊢
      rw [ea] at hn
      by_cases eq : ti.length ≤ tri.length
      · have e7 := Ei.eq eq
        rw [e7]
        have e8 : ap tri ka = ka := by
          have : ap tri (.node l as) = .node l as := by rw [← ea]; exact L.istri.twice a
          rw [ap_node] at this
          injection this with _ this
          have h9 : as.map (ap tri) = as.map id := by rw [this, List.map_id]
          exact List.map_inj_left.mp h9 ka ma
        rw [e8]
        have := depth_kid (l := l) ma
        omega
      · have := vka.dep Li
        omega
    refine ⟨t, _, rfl, tst_seq T (.inl (.inl hh)), rfl, _, _, rfl, _, _, rfl, rfl, rfl, yes_run ?_⟩
    refine ⟨_, rfl, _, rfl, _, rfl, mU ti ka, lu1, d, x1, y1, ka, kb, ri, ti, rfl, hka.mono T, hkb.mono T, hTi, Li, vka, vkb, gka, gkb, Nat.le_refl _, fun r H9 r9 t9 B9 hT9 L9 E9 lu9 => ?_⟩
    have hL9 : H9 D3 = some (.lst (rs.map V.bl)) := B9 _ _ nd3 hL
    have il : i < as.length := by
      rcases Nat.lt_or_ge i as.length with z | z
      · exact z
      · rw [List.getElem?_eq_none z] at eka; cases eka
    refine ⟨_, hL9, ?_, but_mut (B.trans B9) hD3, rs ++ [r], r9, t9, by rw [upd_same, List.map_append]; rfl, by rw [List.length_append, hlen2]; rfl, ?_, L9, Ei.trans E9, ?_⟩
    · rw [List.length_map, hlen2, sizeLine_eq]
      have : (kids (.node l as)).length = as.length := rfl
      omega
    · obtain ⟨kvs, e10, h10⟩ := hT9
      exact ⟨kvs, by rw [upd_ne (Ne.symm nd3)]; exact e10, h10.mono (tst_but (but_upd _) (by rw [hL9]; exact notup_lst))⟩
    · have tk1 : as.take (i + 1) = as.take i ++ [ka] := by rw [List.take_add_one, eka]; rfl
      have tk2 : bs.take (i + 1) = bs.take i ++ [kb] := by rw [List.take_add_one, ekb]; rfl
      rw [tk1, tk2, List.all_append]
      have := LU.snoc lu lu9 (by rw [List.length_take, List.length_take, e5])
      simpa using this
  · obtain ⟨B, rs, ri, ti, hL, hlen2, hTi, Li, Ei, lu⟩ := hh
    refine ⟨D3, rs, rfl, .inl (.inl hL), ?_⟩
    have e8 : (ts.map V.ref).length = as.length := by rw [List.length_map, hlen, kl]; rfl
    rw [e8, List.take_length, show bs.take as.length = bs by rw [e5, List.take_length]] at lu
    exact q _ H' ri ti ((but_same S17).trans B) hTi Li Ei (LU.node ea eb lu)
end
end UW

/-! law_size, law_alike, law_filled. -/
namespace UW
open PySem PySem.Spec PyProof.Rows L2 U UV UD UX
section
variable {P : Program} {w : World} {K : PySem.W.Frag} {mg : Str → Option Value} {base : Heap}

def spSize (K : PySem.W.Frag) (n : Nat) : Sp := fun vs H Q _ => ∃ v t, vs = [v] ∧ Rep K H v t ∧ wf t ∧ depth t ≤ n ∧ ∀ H', Same H H' → Q (nV (size t)) H'
theorem size_kids (t : Ty) : size t = 1 + sizes (kids t) := by
  cases t with
  | var p k => show size (.var p k) = 1 + sizes []; rw [size, sizes]
  | node l ks => show size (.node l ks) = 1 + sizes ks; rw [size]
theorem sum_sizes : ∀ ts : List Ty, (ts.map fun t => ((size t : Nat) : Int)).sum = ((sizes ts : Nat) : Int)
  | [] => by rw [List.map_nil, List.sum_nil, sizes]; rfl
  | t :: ts => by rw [List.map_cons, List.sum_cons, sum_sizes ts, sizes]; omega
theorem ok_law_size (D : Defs K mg) : ∀ n, FnOk P w K mg base CX0 (n + 1 + 1) D.law_size.a D.law_size.fd ["_law_one"] (spSize K n) := by
  have G_law_within := ok_law_within (P := P) (w := w) (base := base) D
  refine fn_rec (fun n vs H Q E h => ?_) fun n G_law_size => ?_
  · obtain ⟨v, t, rfl, _⟩ := h
    rfl
  have sc := sc_law_size
  refine D.law_size.F.ok sc (fun vs H Q E h => ?_) (fun cdv A outer s H vs Q E hr h => ?_)
  · obtain ⟨v, t, rfl, _⟩ := h
    rfl
  obtain ⟨v, t, rfl, h, hw, hn, q⟩ := h
  refine ⟨_, (pss_one (ps_ret (pe_op op_add pe_int (pe_callB (cr_sum rfl) (by rfl) D.z_sum (by decide +kernel) (pa_cons (pe_lc (own := [("_law_late", 1)]) rfl sc.nd (pi_tup (pcall D.law_within G_law_within (hr.mono (by omega)) (by rfl) (pa_cons (pv 0) pa_nil))) (blkOk_by (own := [("_law_late", 1)]) (N := ["_law_one", "_law_late"]) (sc := defScope s_law_size) (by decide +kernel)) (fun _ _ _ _ _ => (pg_name (i := 1) sc.nd rfl (Or.inl rfl))) (fun _ _ _ _ _ => pts_nil) (fun _ _ _ _ _ => (pcall D.law_size G_law_size (hr.mono (by omega)) (by rfl) (pa_cons (pv 1) pa_nil)))) pa_nil))))), ?_⟩
  refine ⟨_, rfl, v, t, rfl, h, hw, fun b ks H1 S1 hS hR => ⟨b, rfl, ⟨ks, hS⟩, fun L1 hL1 => ?_⟩⟩
  have hl := hR.length
  refine lc_tup (xs := ks) (fun i H' => Same H1 H' ∧ H' L1 = some (.lst (((kids t).take i).map fun u => nV (size u)))) ⟨same_new hL1, upd_same⟩ (fun i H' _ h => tst_seq (tst_same h.1) hS) (fun i x H' e h => ?_) fun H' h => ?_
  · obtain ⟨S, hA⟩ := h
    obtain ⟨u, eu, hu⟩ := hR.at e
    have hm : u ∈ kids t := List.mem_of_getElem? eu
    refine ⟨rfl, yes_run ?_⟩
    refine ⟨_, rfl, n - 1, by have := kids_depth hm; omega, x, u, rfl, hu.mono (tst_same S), kids_ok hw hm, by have := kids_depth hm; omega, fun H2 S2 => ?_⟩
    have := kids_len hw
    refine ⟨_, S2 _ _ hA, by rw [List.length_map, List.length_take, sizeLine_eq]; omega, same_mut (same_trans S S2) hL1, ?_⟩
    rw [upd_same, List.take_add_one, eu, List.map_append]; rfl
  · obtain ⟨S, hA⟩ := h
    rw [hl, List.take_length] at hA
    refine ⟨L1, (kids t).map fun u => ((size u : Nat) : Int), rfl, .inl (.inl (by rw [List.map_map]; exact hA)), _, _, rfl, rfl, ?_⟩
    have := q H' (same_trans S1 S)
    rw [size_kids] at this
    rw [sum_sizes]
    have e : ((1 + sizes (kids t) : Nat) : Int) = (1 : Int) + (sizes (kids t) : Int) := by omega
    unfold nV at this
    rw [e] at this
    exact this

/-! ### law_alike -/
theorem lookup_zip_none {α : Type} {k : Nat} : ∀ {l : List Nat} {ys : List α}, k ∉ l → (l.zip ys).lookup k = none
  | [], _, _ => by rw [List.zip_nil_left]; rfl
  | a :: l, [], _ => by rw [List.zip_nil_right]; rfl
  | a :: l, y :: ys, h => by
    rw [List.zip_cons_cons, List.lookup_cons, show (k == a) = false from beq_eq_false_iff_ne.mpr fun e => h (by rw [e]; exact List.mem_cons_self)]
    exact lookup_zip_none fun z => h (List.mem_cons_of_mem _ z)
theorem zip_kvs {H : Hp} : ∀ {ks : List Nat} {ys : List V} {ts : List Ty}, ks.length = ys.length → Reps K H ys ts → DictIs K H ((((ks.map zI).map UR.kI)).zip ys) (ks.zip ts)
  | [], ys, ts, hl, h => by
    cases ys with
    | nil => cases ts with
      | nil => exact DictIs.nil
      | cons t ts => cases h
    | cons _ _ => cases hl
  | k :: ks, [], ts, hl, h => by cases hl
  | k :: ks, y :: ys, ts, hl, h => by
    cases ts with
    | nil => cases h
    | cons t ts =>
      cases h with
      | cons h1 h2 =>
        obtain ⟨g1, g2⟩ := zip_kvs (ks := ks) (ys := ys) (ts := ts) (by simpa using hl) h2
        refine ⟨?_, ?_⟩
        · exact congrArg (List.cons (kN k)) g1
        · exact .cons h1 g2
theorem lk_leaf {r : Told} (h : ∀ q ∈ r, ∃ j, q.2 = .var false j) (k : Nat) : wf (lk false r k) ∧ depth (lk false r k) ≤ 0 := by
  have leaf : ∀ j, wf (.var false j) ∧ depth (.var false j) ≤ 0 := fun j => ⟨by rw [wf]; trivial, by rw [depth]; omega⟩
  unfold lk
  cases el : r.lookup k with
  | none => exact leaf k
  | some t =>
    obtain ⟨j, e⟩ := h (k, t) (look_mem el)
    have e : t = .var false j := e
    rw [e]
    exact leaf j
def zipD (ns : List Nat) (ts : List Ty) : Told := ns.zip ts
theorem zip_keys : ∀ {ns : List Nat} {ts : List Ty}, ns.length = ts.length → keys (ns.zip ts) = ns
  | [], ts, _ => by rw [List.zip_nil_left]; rfl
  | n :: ns, [], h => by cases h
  | n :: ns, t :: ts, h => by
    have := zip_keys (ns := ns) (ts := ts) (by simpa using h)
    show n :: keys (ns.zip ts) = _
    rw [this]
def spAlike (K : PySem.W.Frag) : Sp := fun vs H Q _ => ∃ v u a b, vs = [v, u] ∧ Rep K H v a ∧ Rep K H u b ∧ Gw a ∧ Gw b ∧ depth a ≤ 60 ∧ depth b ≤ 60 ∧ ∀ c H', Same H H' → (c = true ↔ (nums false a).length = (nums false b).length ∧ put false (lk false ((nums false a).zip ((nums false b).map (.var false)))) a = b) → Q (.bl c) H'
theorem ok_law_alike (D : Defs K mg) : FnOk P w K mg base CX0 70 D.law_alike.a D.law_alike.fd ["_law_one", "_law_other"] (spAlike K) := by
  have G_law_numbers := ok_law_numbers (P := P) (w := w) (base := base) D 60
  have G_law_put := ok_law_put (P := P) (w := w) (base := base) D 60
  have sc := sc_law_alike
  refine D.law_alike.F.ok sc (fun vs H Q E h => ?_) (fun cdv A outer s H vs Q E hr h => ?_)
  · obtain ⟨v, u, a, b, rfl, _⟩ := h
    rfl
  obtain ⟨v, u, a, b, rfl, ha, hb, ga, gb, da, db, q⟩ := h
  refine ⟨_, (pss_cons (ps_par (i := 2) (j := 3) rfl sc.nd rfl rfl (by decide) rfl rfl (pa_cons (pcall D.law_numbers G_law_numbers (hr.mono (by omega)) (by rfl) (pa_cons (pv 0) pa_nil)) (pa_cons (pcall D.law_numbers G_law_numbers (hr.mono (by omega)) (by rfl) (pa_cons (pv 1) pa_nil)) pa_nil)) (by rfl))
      (pss_cons (ps_if (pt_cmpR (op_neG (room_eq hr)) (pe_callB call_len_seq (by rfl) D.z_len (by decide +kernel) (pa_cons (pv 2) pa_nil)) (pe_callB call_len_seq (by rfl) D.z_len (by decide +kernel) (pa_cons (pv 3) pa_nil)) (nomark _)) (pss_one (ps_ret pe_bl)) pss_nil)
      (pss_one (ps_ret (pe_cmpR (op_eqG (room_eq hr)) (pcall D.law_put G_law_put (hr.mono (by omega)) (by rfl) (pa_cons (pv 0) (pa_cons (UR.pe_dictZip rfl (by rfl) D.z_dict (by rfl) D.z_zip (pa_cons (pv 2) (pa_cons (pe_lc (own := [("_law_number", 4)]) rfl sc.nd (pi_list (pv 3)) (blkOk_by (own := [("_law_number", 4)]) (N := ["_law_one", "_law_other", "_law_near", "_law_far", "_law_number"]) (sc := defScope s_law_alike) (by decide +kernel)) (fun _ _ _ _ _ => (pg_name (i := 4) sc.nd rfl (Or.inl rfl))) (fun _ _ _ _ _ => pts_nil) (fun _ _ _ _ _ => (pe_tup (pa_cons pe_str (pa_cons (pv 4) pa_nil))))) pa_nil))) pa_nil))) (pv 1) (nomark _)))))), ?_⟩
  refine ⟨_, rfl, v, a, rfl, ha, ga.wf, few6 ga, da, fun l1 H1 S1 h1 e1 => ?_⟩
  refine ⟨_, rfl, u, b, rfl, hb.mono (tst_same S1), gb.wf, few6 gb, db, fun l2 H2 S2 h2 e2 => ⟨_, _, rfl, ?_⟩⟩
  have S12 := same_trans S1 S2
  have e1' := S2 _ _ e1
  refine ⟨_, rfl, l1, _, rfl, .inl (.inl (.inl e1')), _, rfl, l2, _, rfl, .inl (.inl (.inl e2)), .int _, .int _, .int _, .int _, rfl, rfl, Nat.zero_le _, _, rfl, ?_⟩
  rw [eqv_int, List.length_map, List.length_map]
  by_cases hl : (nums false a).length = (nums false b).length
  case neg =>
    refine iteB1 (notF fun z => hl (by omega)) ?_
    exact q false H2 S12 ⟨fun z => (nomatch z), fun z => absurd z.1 hl⟩
  refine iteB0 (notT (by omega)) ?_
  refine ⟨_, rfl, _, rfl, _, rfl, l2, rfl, ⟨_, .inl (.inl e2)⟩, fun D3 hD3 => ?_⟩
  have n6 := nums6 gb
  refine lc_list (xs := (nums false b).map nV) (fun i H' => Same H2 H' ∧ ∃ acc, H' D3 = some (.lst acc) ∧ Reps K H' acc (((nums false b).take i).map (.var false))) ⟨same_new hD3, [], upd_same, .nil⟩ (fun i H' _ h => .inl (.inl (h.1 _ _ e2))) (fun i x H' e h => ?_) fun H' h => ?_
  · obtain ⟨S, acc, hA, hR⟩ := h
    rw [List.getElem?_map] at e
    obtain ⟨k, ek, rfl⟩ := Option.map_eq_some_iff.mp e
    refine ⟨rfl, yes_run ?_⟩
    refine ⟨_, rfl, Nat.le_of_ble_eq_true rfl, fun p hp => ?_⟩
    have Sp := same_new (H := H') (p := p) (o := .tup [.str "unknown", nV k]) hp
    have al := hR.length
    rw [List.length_map, List.length_take] at al
    have T : Tst (upd H' p (.tup [.str "unknown", nV k])) (upd (upd H' p (.tup [.str "unknown", nV k])) D3 (.lst (acc ++ [.ref p]))) := tst_but (but_upd _) (by rw [Sp _ _ hA]; exact notup_lst)
    refine ⟨acc, Sp _ _ hA, by rw [al, sizeLine_eq]; omega, same_mut (same_trans S Sp) hD3, acc ++ [.ref p], upd_same, ?_⟩
    rw [List.take_add_one, ek, List.map_append]
    exact Reps.append ((hR.mono (tst_same Sp)).mono T) (.cons (Rep.mono (Rep.mkVar (p := false) (.inl (.inl upd_same))) T) .nil)
  · obtain ⟨S, acc, hA, hR⟩ := h
    rw [List.length_map, List.take_length] at hR
    have al := hR.length
    rw [List.length_map] at al
    refine ⟨l1, D3, (nums false a).map zI, acc, rfl, .inl (.inl (by rw [← nat_ints]; exact S _ _ e1')), .inl (.inl hA), by rw [List.length_map, al, hl], fun d hd => ?_⟩
    have hz := zip_kvs (K := K) (H := H') (ks := nums false a) (ys := acc) (by rw [al, hl]) hR
    have em : mergeK [] (((((nums false a).map zI).map UR.kI)).zip acc) = ((((nums false a).map zI).map UR.kI)).zip acc := merge_nodup _ [] (keys_kN hz (by rw [zip_keys (by rw [List.length_map, hl])]; exact nodup_nums a))
    rw [em]
    have S4 := same_new (H := H') (p := d) (o := .dK (((((nums false a).map zI).map UR.kI)).zip acc)) hd
    have S0 := same_trans S12 (same_trans S S4)
    refine ⟨v, a, d, (nums false a).zip ((nums false b).map (.var false)), rfl, ha.mono (tst_same S0), ga.wf, ⟨_, upd_same, hz.mono (tst_same S4)⟩, da, fun y H5 S5 hy => ?_⟩
    have S05 := same_trans S0 S5
    have wp : wf (put false (lk false ((nums false a).zip ((nums false b).map (.var false)))) a) ∧ depth (put false (lk false ((nums false a).zip ((nums false b).map (.var false)))) a) ≤ depth a + 0 := by
      have hk := fun k => lk_leaf (r := (nums false a).zip ((nums false b).map (Ty.var false))) (fun q hq => by
        obtain ⟨j, _, e⟩ := List.mem_map.mp (List.of_mem_zip hq).2
        exact ⟨j, e.symm⟩) k
      exact ⟨wf_put a ga.wf fun k _ => (hk k).1, depth_put_le a fun k _ => (hk k).2⟩
    refine ⟨_, rfl, _, _, hy, hb.mono (tst_same S05), lay_tyD _, lay_tyD _, depth_t wp.1 (by omega), ?_⟩
    classical
    rw [eqv_ty]
    exact q _ H5 S05 ⟨fun e => ⟨hl, of_decide_eq_true e⟩, fun e => decide_eq_true e.2⟩

/-! ### law_filled -/
def intD : Told := (List.range 6).map fun i => (i, .node (.plain .int) [])
theorem lk_int {k : Nat} (h : k < 6) : lk false intD k = .node (.plain .int) [] := by
  match k, h with
  | 0, _ => rfl
  | 1, _ => rfl
  | 2, _ => rfl
  | 3, _ => rfl
  | 4, _ => rfl
  | 5, _ => rfl
/-- closed and small -/
structure Clo (t : Ty) : Prop where
  g : Gd 1 t
  no : ∀ k, ¬ occ false k t
  sz : size t ≤ 4
theorem sizes_leaf {ks : List Ty} (h : ∀ t ∈ ks, size t ≤ 1) : sizes ks ≤ ks.length := by
  induction ks with
  | nil => rw [sizes]; exact Nat.le_refl _
  | cons t ts ih =>
    rw [sizes, List.length_cons]
    have := h t List.mem_cons_self
    have := ih fun u hu => h u (List.mem_cons_of_mem _ hu)
    omega
theorem size0 {t : Ty} (hw : wf t) (h : depth t ≤ 0) : size t ≤ 1 := by
  cases t with
  | var p k => rw [size]; omega
  | node l ks =>
    cases ks with
    | nil => rw [size, sizes]; omega
    | cons u us => rw [depth, depths] at h; omega
theorem size1 {t : Ty} (g : Gd 1 t) : size t ≤ 4 := by
  cases t with
  | var p k => rw [size]; omega
  | node l ks =>
    have h3 := kids_len3 g.wf
    have h3 : ks.length ≤ 3 := h3
    have := sizes_leaf (ks := ks) fun t ht => size0 (g.kid ht).wf (g.kid ht).dp
    rw [size]; omega
theorem clo_put {t : Ty} (g : Gd 1 t) : Clo (put false (lk false intD) t) := by
  have gi : ∀ k, k < 6 → Gd 0 (lk false intD k) := fun k hk => by rw [lk_int hk]; exact gd_plain _ _
  refine ⟨g.put gi, fun j hj => ?_, ?_⟩
  · obtain ⟨k, h1, h2⟩ := (occ_put t).mp hj
    rw [lk_int (g.lt k h1)] at h2
    obtain ⟨u, hu, _⟩ := occ_node.mp h2
    cases hu
  · have := size_put_le (w := false) (σ := lk false intD) (m := 1) (Nat.le_refl _) t fun k hk => by rw [lk_int (g.lt k hk), size, sizes]; omega
    have := size1 g
    omega
def filD (tri : Told) (c : Nat → Ty) : Told := (List.range 6).map fun k => (k, put false c (apv tri k))
def spFilled (K : PySem.W.Frag) : Sp := fun vs H Q _ => ∃ (p d : Addr) (raw tri : Told), vs = [.ref p, .ref d] ∧ Pot H p ∧ p ≠ d ∧ TolD K H d tri ∧ Lnk (Gd 4) raw tri ∧ ∀ d' H' c, But p H H' → Pot H' p → TolD K H' d' (filD tri c) → (∀ k, k < 6 → Clo (c k)) → Q (.ref d') H'
theorem ok_law_filled (D : Defs K mg) : FnOk P w K mg base CX0 40 D.law_filled.a D.law_filled.fd ["_law_pot_here", "_law_told"] (spFilled K) := by
  have G1 := ok_law_loose (P := P) (w := w) (base := base) D 1
  have G_law_put := ok_law_put (P := P) (w := w) (base := base) D 28
  have G_law_open := ok_law_open (P := P) (w := w) (base := base) D 34
  have sc := sc_law_filled
  refine D.law_filled.F.ok sc (fun vs H Q E h => ?_) (fun cdv A outer s H vs Q E hr h => ?_)
  · obtain ⟨p, d, raw, tri, rfl, _⟩ := h
    rfl
  obtain ⟨p, d, raw, tri, rfl, hp, npd, hT, L, q⟩ := h
  refine ⟨_, (pss_cons (ps_set (i := 2) sc.nd rfl (Or.inl rfl) pe_dnewK)
      (pss_cons (ps_for PassesOwn.never rfl (pi_range1 rfl D.z_range (pa_cons pe_int pa_nil)) (pg_name (i := 3) sc.nd rfl (Or.inl rfl)) (pss_one (ps_dput (hu_of hr) (pv 2) (pv 3) (pcall D.law_put G_law_put (hr.mono (by omega)) (by rfl) (pa_cons (pcall D.law_loose G1 (hr.mono (by omega)) (by rfl) (pa_cons (pv 0) (pa_cons pe_int pa_nil))) (pa_cons (pe_callTy (call_dictP rfl) (by rfl) D.z_dict (by decide +kernel) (pa_cons (pe_lc (own := [("_law_late", 5)]) rfl sc.nd (pi_range1 rfl D.z_range (pa_cons pe_int pa_nil)) (blkOk_by (own := [("_law_late", 5)]) (N := ["_law_pot_here", "_law_told", "_law_some", "_law_number", "_law_found", "_law_late"]) (sc := defScope s_law_filled) (by decide +kernel)) (fun _ _ _ _ _ => (pg_name (i := 5) sc.nd rfl (Or.inl rfl))) (fun _ _ _ _ _ => pts_nil) (fun _ _ _ _ _ => (pe_tup (pa_cons (pv 5) (pa_cons (pe_tup (pa_cons pe_str pa_nil)) pa_nil))))) pa_nil)) pa_nil))) rfl)))
      (pss_cons (ps_set (i := 4) sc.nd rfl (Or.inl rfl) pe_dnewK)
      (pss_cons (ps_for PassesOwn.never rfl (pi_range1 rfl D.z_range (pa_cons pe_int pa_nil)) (pg_name (i := 3) sc.nd rfl (Or.inl rfl)) (pss_one (ps_dput (hu_of hr) (pv 4) (pv 3) (pcall D.law_put G_law_put (hr.mono (by omega)) (by rfl) (pa_cons (pcall D.law_open G_law_open (hr.mono (by omega)) (by rfl) (pa_cons (pv 1) (pa_cons (pe_tup (pa_cons pe_str (pa_cons (pv 3) pa_nil))) pa_nil))) (pa_cons (pv 2) pa_nil))) rfl)))
      (pss_one (ps_ret (pv 4))))))), ?_⟩
  intro ds hds
  have S1 := same_new (H := H) (p := ds) (o := .dK []) hds
  have ndsp : ds ≠ p := Ne.symm (hp.fresh hds)
  refine ⟨6, rfl, by decide, by decide, ?_⟩
  rw [show (6 : Int).toNat = 6 from rfl]
  refine for_range (fun i σ H' => (∃ o3, σ = [some (.ref p), some (.ref d), some (.ref ds), o3, none, none]) ∧ But p H H' ∧ Pot H' p ∧ ∃ r, TolD K H' ds r ∧ keys r = List.range i ∧ ∀ x ∈ r, Clo x.2) ⟨⟨none, rfl⟩, but_same S1, hp.same S1, [], ⟨[], upd_same, DictIs.nil⟩, rfl, fun _ h => (nomatch h)⟩ (fun i σ H1 hi h => ?_) fun σ H1 h => ?_
  · obtain ⟨⟨o3, rfl⟩, B, hp1, r, hTr, hk, hc⟩ := h
    refine ⟨_, rfl, p, rfl, hp1, fun v t H2 B2 hp2 hv gt => ?_⟩
    refine ⟨6, rfl, by decide, by decide, fun L1 hL1 => ?_⟩
    refine lc_rows (K := K) (f := fun i => (i, .node (.plain .int) [])) (walk_range (lo := 0) (n := 6)) hL1 (by decide) (fun _ _ => trivial) (fun j x H3 H3' Q2 N hj S y hq => ?_) fun H3 xs S3 h3 hR => ?_
    · obtain ⟨rfl, rfl⟩ := y
      refine ⟨rfl, yes_run ?_⟩
      refine ⟨_, rfl, Nat.le_of_ble_eq_true rfl, fun a hA => ⟨Nat.le_of_ble_eq_true rfl, fun b hB => ?_⟩⟩
      have Sa := same_new (H := H3') (p := a) (o := .tup [.str "int"]) hA
      have Sb := same_new (H := upd H3' a (.tup [.str "int"])) (p := b) (o := .tup [.int (0 + (j : Int)), .ref a]) hB
      refine hq b _ (same_trans Sa Sb) ?_
      have e0 : V.int (0 + (j : Int)) = nV j := by rw [Int.zero_add]
      show RowIs K (upd (upd H3' a (.tup [.str "int"])) b (.tup [V.int (0 + (j : Int)), .ref a])) b (j, .node (.plain .int) [])
      rw [e0]
      exact row_new hB (Rep.mkFlat (l := .plain .int) rfl (.inl (.inl upd_same)) .nil)
    · obtain ⟨ps, kvs, rfl, g1, g2⟩ := rows_dict (r := intD) hR (by decide)
      refine ⟨L1, ps, kvs, rfl, .inl (.inl h3), g1, fun di hdi => ?_⟩
      have hTi := g2 di hdi
      have S4 := same_new (H := H3) (p := di) (o := .dK (mergeK [] kvs)) hdi
      have S24 := same_trans S3 S4
      refine ⟨v, t, di, intD, rfl, hv.mono (tst_same S24), gt.wf, hTi, by have := gt.dp; omega, fun y H5 S5 hy => ?_⟩
      have B5 : But p H1 H5 := B2.trans (but_same (same_trans S24 S5))
      have hTr5 : TolD K H5 ds r := by
        obtain ⟨kk, e, hh⟩ := hTr
        exact ⟨kk, B5 _ _ ndsp e, hh.mono (Pot.tst B5 hp1)⟩
      have rl : r.length = i := by
        have := congrArg List.length hk
        rwa [keys_len, List.length_range] at this
      obtain ⟨H6, pt, B6, hT6, _⟩ := hTr5.put (k := i) (look_keys (by rw [hk]; intro z; have := List.mem_range.mp z; omega)) hy (by omega)
      refine ⟨_, rfl, _, rfl, ds, H6, rfl, by
        show DPut H5 ds (.int (0 + (i : Int))) y H6
        rw [Int.zero_add]; exact pt, ⟨⟨_, rfl⟩, ?_, ?_, _, hT6, ?_, fun x hx => ?_⟩⟩
      · intro b o n e
        exact B6 b o (ne_of_none e hds) (B5 b o n (B b o n e))
      · exact ((hp2.same (same_trans S24 S5))).but B6 (Ne.symm ndsp)
      · rw [keys_snoc, hk, List.range_succ]
      · rcases List.mem_append.mp hx with hx | hx
        · exact hc x hx
        · rw [List.mem_singleton.mp hx]; exact clo_put gt
  obtain ⟨⟨o3, rfl⟩, B1, hp1, rs, hTs, hk, hc⟩ := h
  have T1 := Pot.tst B1 hp
  have hTd1 : TolD K H1 d tri := by
    obtain ⟨kk, e, hh⟩ := hT
    exact ⟨kk, B1 _ _ (Ne.symm npd) e, hh.mono T1⟩
  intro df hdf
  have S2 := same_new (H := H1) (p := df) (o := .dK []) hdf
  have Ls := L.selfw fun t g => g.w
  refine ⟨6, rfl, by decide, by decide, ?_⟩
  rw [show (6 : Int).toNat = 6 from rfl]
  refine for_range (fun i σ H' => (∃ o3, σ = [some (.ref p), some (.ref d), some (.ref ds), o3, some (.ref df), none]) ∧ Same H1 H' ∧ TolD K H' df ((List.range i).map fun k => (k, put false (lk false rs) (apv tri k)))) ⟨⟨_, rfl⟩, S2, ⟨[], upd_same, DictIs.nil⟩⟩ (fun i σ H2 hi h => ?_) fun σ H2 h => ?_
  · obtain ⟨⟨o3, rfl⟩, S, hTf⟩ := h
    refine ⟨_, rfl, _, rfl, Nat.le_of_ble_eq_true rfl, fun a hA => ?_⟩
    have Sa := same_new (H := H2) (p := a) (o := .tup [.str "unknown", .int (0 + (i : Int))]) hA
    have e0 : V.int (0 + (i : Int)) = nV i := by rw [Int.zero_add]
    rw [e0] at Sa ⊢
    have hi' : i < 6 := hi
    have dv := L.depth_le (d := 4) (fun t g => g.dp) 6 (.var false i) (L.rank _)
    have d0 : depth (.var false i) = 0 := by rw [depth]
    refine ⟨a |> V.ref, .var false i, d, Gw, tri, tri, 6, rfl, Rep.mkVar (p := false) (.inl (.inl upd_same)), (Gw.var hi').wf, (hTd1.same S).same Sa, Ls, fun t g => g.wf, Ls.rank _, by omega, fun y H3 S3 hy => ?_⟩
    have gv : Gw (ap tri (.var false i)) := Gw.ap (L.gw fun t g => g.w) (Gw.var hi')
    have S13 := same_trans S (same_trans Sa S3)
    refine ⟨_, rfl, y, _, ds, rs, rfl, hy, gv.wf, hTs.same S13, by omega, fun z H4 S4 hz => ?_⟩
    have hTf4 := hTf.same (same_trans Sa (same_trans S3 S4))
    obtain ⟨H5, pt, B5, hT5, _⟩ := hTf4.put (k := i) (look_keys (by
      unfold keys
      rw [List.map_map]
      intro zz
      obtain ⟨j, hj, e⟩ := List.mem_map.mp zz
      have := List.mem_range.mp hj
      have e : j = i := e
      omega)) hz (by rw [List.length_map, List.length_range]; omega)
    refine ⟨_, rfl, _, rfl, df, H5, rfl, pt, ⟨⟨_, rfl⟩, ?_, ?_⟩⟩
    · intro b o e
      exact B5 b o (ne_of_none e hdf) ((same_trans S13 S4) b o e)
    · rw [List.range_succ, List.map_append]
      exact hT5
  · obtain ⟨⟨o3, rfl⟩, S, hTf⟩ := h
    refine ⟨_, rfl, q df H2 (lk false rs) (B1.trans (but_same S)) (hp1.same S) hTf fun k hk6 => ?_⟩
    have hm : k ∈ keys rs := by rw [hk]; exact List.mem_range.mpr hk6
    unfold lk
    cases e : rs.lookup k with
    | none => exact absurd hm (look_none.mp e)
    | some t => exact hc (k, t) (look_mem e)
end
end UW

/-! Calls by one or two keywords alone; how long a type is shown. -/
namespace UD
open PySem PySem.Spec PyProof.Rows L2 U UV
section
variable {X : Cx} {k : Nat} {x : Str} {st : Stmt} {ps : List Str} {p pos : Pos}
theorem run_kw {fd : FuncData} {f : Addr} {sp : Sp} {s : Shared} {σ : L2.St} {H : Hp} {pins : List (Addr × Obj)} {Q : VK} {args : Args} {us : List Value} {vs : List V} (G : FnOk X.prog X.w X.K X.mg X.base CX0 k f fd ps sp) (hr : Room k X.A) (I : Inv X pins σ H s)
    (hb : BindsTo s fd args (ps.zip us)) (r : Vals vs us) (q : sp vs H Q E0) : wpAny (model X.prog X.w) X.A (call (.ref f) args.pos args.kw) (EP X pins σ Q) X.xe s := by
  refine wpAny_call (codeAny_mono (G.run X.A X.stack s H args us vs Q E0 hr I.env0 hb r q) fun r s' fin => ?_)
  cases r with
  | error _ => exact False.elim fin
  | ok fl =>
    cases fl with
    | ret _ => exact I.after fin
    | next => exact False.elim fin
    | brk => exact False.elim fin
    | cont => exact False.elim fin
theorem pcallK1 {k1 p1 : Str} {sp : Sp} {kws : List Keyword} {tk : TA} (d : Df X.K X.mg x st ps) (G : FnOk X.prog X.w X.K X.mg X.base CX0 k d.a d.fd [p1] sp) (hr : Room k X.A) (hb : ∀ a : Value, bindArgs d.fd ⟨[], [(k1, a)]⟩ = pure [(p1, a)]) (hg : Gl X x)
    (hkw : PK X kws tk) (hall : (backToKw pos (keywordEach kws X.env)).all (·.1.isSome) = true := by rfl) (hks : (backToKw pos (keywordEach kws X.env)).filterMap (·.1) = [k1] := by rfl) (hdb : (x == ("__debug__" : Str)) = false := by decide)
    (hpl : ((backTo pos (starEach [] X.env)).any (·.1) || (backToKw pos (keywordEach kws X.env)).any (·.1.isNone)) = false := by rfl) : PE X (.Call (.Name x p) [] kws pos) (fun σ H Q => tk σ H fun zs H2 => ∃ a, zs = [a] ∧ sp [a] H2 Q E0) := by
  constructor
  intro pins s σ H Q I h
  refine wpAny_Call_Name_kw (ld_glob I hg d.m (PySem.W.callWith_KW0 (h₀ := X.base) I.ok.mod.kin d.F.kp hall (thn (hkw.run pos pins s σ H _ I h) fun ws s2 ⟨zs, H2, I2, rz, q2⟩ => ⟨I2.kIn, ?_⟩) hpl) hdb)
  rw [hks]
  obtain ⟨a, rfl, q⟩ := q2
  obtain ⟨u, rfl, r1⟩ := Vals.one rz
  exact run_kw (args := ⟨[], [(k1, u)]⟩) (us := [u]) G hr I2 (BindsTo.of_eq (hb u)) (.cons r1 .nil) q
theorem pcallK2 {k1 k2 p1 p2 : Str} {sp : Sp} {kws : List Keyword} {tk : TA} (d : Df X.K X.mg x st ps) (G : FnOk X.prog X.w X.K X.mg X.base CX0 k d.a d.fd [p1, p2] sp) (hr : Room k X.A) (hb : ∀ a b : Value, bindArgs d.fd ⟨[], [(k1, a), (k2, b)]⟩ = pure [(p1, b), (p2, a)]) (hg : Gl X x)
    (hkw : PK X kws tk) (hall : (backToKw pos (keywordEach kws X.env)).all (·.1.isSome) = true := by rfl) (hks : (backToKw pos (keywordEach kws X.env)).filterMap (·.1) = [k1, k2] := by rfl) (hdb : (x == ("__debug__" : Str)) = false := by decide)
    (hpl : ((backTo pos (starEach [] X.env)).any (·.1) || (backToKw pos (keywordEach kws X.env)).any (·.1.isNone)) = false := by rfl) : PE X (.Call (.Name x p) [] kws pos) (fun σ H Q => tk σ H fun zs H2 => ∃ a b, zs = [a, b] ∧ sp [b, a] H2 Q E0) := by
  constructor
  intro pins s σ H Q I h
  refine wpAny_Call_Name_kw (ld_glob I hg d.m (PySem.W.callWith_KW0 (h₀ := X.base) I.ok.mod.kin d.F.kp hall (thn (hkw.run pos pins s σ H _ I h) fun ws s2 ⟨zs, H2, I2, rz, q2⟩ => ⟨I2.kIn, ?_⟩) hpl) hdb)
  rw [hks]
  obtain ⟨a, b, rfl, q⟩ := q2
  obtain ⟨u, v, rfl, r1, r2⟩ := Vals.two rz
  exact run_kw (args := ⟨[], [(k1, u), (k2, v)]⟩) (us := [v, u]) G hr I2 (BindsTo.of_eq (hb u v)) (.cons r2 (.cons r1 .nil)) q
end
/-- how three defs bind keywords -/
structure Kws {K : PySem.W.Frag} {mg : Str → Option Value} (D : Defs K mg) : Prop where
  unified : ∀ a b : Value, bindArgs D.unified.fd ⟨[], [("other", a), ("one", b)]⟩ = (pure [("one", b), ("other", a)] : Sem (List (Str × Value)))
  unknowns_of : ∀ a : Value, bindArgs D.unknowns_of.fd ⟨[], [("loose", a)]⟩ = (pure [("loose", a)] : Sem (List (Str × Value)))
  is_instance : ∀ a b : Value, bindArgs D.is_instance.fd ⟨[], [("loose", a), ("scheme", b)]⟩ = (pure [("scheme", b), ("loose", a)] : Sem (List (Str × Value)))

/-! ### shown -/
theorem short_str (x : Str) (h : (x.cps.toList.all fun c => decide (c < 16 ^ 8)) = true) : PyData.leavesShort 8 (.str x) = true := by rw [PyData.leavesShort]; exact h
theorem short_all {B : Nat} {ds : List PyData} (h : ∀ d ∈ ds, PyData.leavesShort B d = true) : PyData.leavesShortAll B ds = true := by
  induction ds with
  | nil => rfl
  | cons d ds ih => rw [PyData.leavesShortAll, h d List.mem_cons_self, ih fun e he => h e (List.mem_cons_of_mem _ he)]; rfl
theorem show_all {ds : List PyData} (h : ∀ d ∈ ds, PyData.showable d = true) : PyData.showableAll ds = true := by
  induction ds with
  | nil => rfl
  | cons d ds ih => rw [PyData.showableAll, h d List.mem_cons_self, ih fun e he => h e (List.mem_cons_of_mem _ he)]; rfl
theorem weight_le {m : Nat} {ds : List PyData} (h : ∀ d ∈ ds, PyData.weight d + 1 ≤ m) : PyData.weightAll ds ≤ m * ds.length := by
  induction ds with
  | nil => rw [PyData.weightAll]; omega
  | cons d ds ih =>
    rw [PyData.weightAll, List.length_cons, Nat.mul_succ]
    have := h d List.mem_cons_self
    have := ih fun e he => h e (List.mem_cons_of_mem _ he)
    omega
theorem weight_map {f : Ty → PyData} {ks : List Ty} (h : ∀ t ∈ ks, PyData.weight (f t) + 1 ≤ 30 * size t) : PyData.weightAll (ks.map f) ≤ 30 * sizes ks := by
  induction ks with
  | nil => rw [List.map_nil, PyData.weightAll]; omega
  | cons t ts ih =>
    rw [List.map_cons, PyData.weightAll, sizes]
    have := h t List.mem_cons_self
    have := ih fun u hu => h u (List.mem_cons_of_mem _ hu)
    omega
theorem word_short (t : Ty) : PyData.leavesShort 8 (.str (word t)) = true ∧ PyData.weight (.str (word t)) ≤ 8 := by
  have hv : ∀ p : Bool, PyData.leavesShort 8 (.str (varW p)) = true ∧ PyData.weight (.str (varW p)) ≤ 8 := by decide +kernel
  have hp : ∀ p : Pl, PyData.leavesShort 8 (.str (plW p)) = true ∧ PyData.weight (.str (plW p)) ≤ 8 := fun p => by cases p <;> decide +kernel
  have ho : ∀ p : Bool, PyData.leavesShort 8 (.str (labW (.one p))) = true ∧ PyData.weight (.str (labW (.one p))) ≤ 8 := by decide +kernel
  cases t with
  | var p k => exact hv p
  | node l ks =>
    cases l with
    | fn => exact (by decide +kernel : PyData.leavesShort 8 (.str (labW .fn)) = true ∧ PyData.weight (.str (labW .fn)) ≤ 8)
    | tup => exact (by decide +kernel : PyData.leavesShort 8 (.str (labW .tup)) = true ∧ PyData.weight (.str (labW .tup)) ≤ 8)
    | data n => exact (by decide +kernel : PyData.leavesShort 8 (.str (labW (.data .list))) = true ∧ PyData.weight (.str (labW (.data .list))) ≤ 8)
    | plain p => exact hp p
    | one p => exact ho p
theorem nm_short (n : Nm) : PyData.leavesShort 8 (.str (nmW n)) = true ∧ PyData.weight (.str (nmW n)) ≤ 8 := by cases n <;> decide +kernel
theorem int_short {k : Nat} (h : k < 6) : PyData.leavesShort 8 (.int (k : Int)) = true ∧ PyData.weight (.int (k : Int)) ≤ 8 ∧ PyData.showable (.int (k : Int)) = true := by
  match k, h with
  | 0, _ => decide +kernel
  | 1, _ => decide +kernel
  | 2, _ => decide +kernel
  | 3, _ => decide +kernel
  | 4, _ => decide +kernel
  | 5, _ => decide +kernel
structure Shw (d : PyData) (n : Nat) : Prop where
  sh : PyData.leavesShort 8 d = true
  sw : PyData.showable d = true
  wt : PyData.weight d + 1 ≤ 30 * n
theorem shw_ty : ∀ t : Ty, (∀ k, occ false k t → k < 6) → (∀ k, ¬ occ true k t) → Shw (tyD t) (size t) := Ty.ind (fun p k h hn => by
    cases p with
    | true => exact absurd (occ_var.mpr ⟨rfl, rfl⟩) (hn k)
    | false =>
      obtain ⟨i1, i2, i3⟩ := int_short (h k (occ_var.mpr ⟨rfl, rfl⟩))
      obtain ⟨w1, w2⟩ := word_short (.var false k)
      rw [tyD_var, size]
      refine ⟨?_, ?_, ?_⟩
      · rw [PyData.leavesShort]
        exact short_all fun d hd => by
          rcases List.mem_cons.mp hd with e | hd
          · rw [e]; exact w1
          · rw [List.mem_singleton.mp hd]; exact i1
      · rw [PyData.showable]
        exact show_all fun d hd => by
          rcases List.mem_cons.mp hd with e | hd
          · rw [e]; rfl
          · rw [List.mem_singleton.mp hd]; exact i3
      · rw [PyData.weight, PyData.weightAll, PyData.weightAll, PyData.weightAll]
        have : PyData.weight (.str (varW false)) ≤ 8 := w2
        omega) fun l ks ih h hn => by
    have ihk : ∀ t ∈ ks, Shw (tyD t) (size t) := fun t ht => ih t ht (fun k hk => h k (occ_node.mpr ⟨t, ht, hk⟩)) fun k hk => hn k (occ_node.mpr ⟨t, ht, hk⟩)
    have a1 : ∀ d ∈ ks.map tyD, PyData.leavesShort 8 d = true := fun d hd => by obtain ⟨t, ht, rfl⟩ := List.mem_map.mp hd; exact (ihk t ht).sh
    have a2 : ∀ d ∈ ks.map tyD, PyData.showable d = true := fun d hd => by obtain ⟨t, ht, rfl⟩ := List.mem_map.mp hd; exact (ihk t ht).sw
    have a3 := weight_map (f := tyD) (ks := ks) fun t ht => (ihk t ht).wt
    obtain ⟨w1, w2⟩ := word_short (.node l ks)
    have w2 : PyData.weight (.str (labW l)) ≤ 8 := w2
    have inner : Shw (.tuple (ks.map tyD)) (sizes ks + 1) := ⟨by rw [PyData.leavesShort]; exact short_all a1, by rw [PyData.showable]; exact show_all a2, by rw [PyData.weight]; omega⟩
    have hs : size (.node l ks) = 1 + sizes ks := by rw [size]
    by_cases hf : flatL l = true
    · rw [tyD_flat hf, hs]
      refine ⟨?_, ?_, ?_⟩
      · rw [PyData.leavesShort, PyData.leavesShortAll, short_all a1, Bool.and_true]; exact w1
      · rw [PyData.showable, PyData.showableAll, show_all a2]; rfl
      · rw [PyData.weight, PyData.weightAll]; omega
    · cases l with
      | tup =>
        rw [tyD_tup, hs]
        refine ⟨?_, ?_, ?_⟩
        · rw [PyData.leavesShort, PyData.leavesShortAll, PyData.leavesShortAll, PyData.leavesShortAll, inner.sh, Bool.and_true, Bool.and_true]; exact w1
        · rw [PyData.showable, PyData.showableAll, PyData.showableAll, PyData.showableAll, inner.sw]; rfl
        · rw [PyData.weight, PyData.weightAll, PyData.weightAll, PyData.weightAll]
          have e : PyData.weight (.tuple (ks.map tyD)) = PyData.weightAll (ks.map tyD) := by rw [PyData.weight]
          have : PyData.weight (.str "tuple") ≤ 8 := w2
          omega
      | data n =>
        obtain ⟨n1, n2⟩ := nm_short n
        rw [tyD_data, hs]
        refine ⟨?_, ?_, ?_⟩
        · rw [PyData.leavesShort, PyData.leavesShortAll, PyData.leavesShortAll, PyData.leavesShortAll, PyData.leavesShortAll, inner.sh, n1, Bool.and_true, Bool.and_true, Bool.and_true]; exact w1
        · rw [PyData.showable, PyData.showableAll, PyData.showableAll, PyData.showableAll, PyData.showableAll, inner.sw]; rfl
        · rw [PyData.weight, PyData.weightAll, PyData.weightAll, PyData.weightAll, PyData.weightAll]
          have e : PyData.weight (.tuple (ks.map tyD)) = PyData.weightAll (ks.map tyD) := by rw [PyData.weight]
          have : PyData.weight (.str "data") ≤ 8 := w2
          omega
      | fn => exact absurd rfl hf
      | plain p => exact absurd rfl hf
      | one b => exact absurd rfl hf
end UD

/-! law_general_right. -/
namespace UW
open PySem PySem.Spec PyProof.Rows L2 U UV UD UX
section
variable {P : Program} {w : World} {K : PySem.W.Frag} {mg : Str → Option Value} {base : Heap}

/-! ### the scheme of a type -/
theorem parD_at {ns : List Nat} (hn : ns.Nodup) {i : Nat} (hi : i < ns.length) : lk false (parD ns) ns[i] = .var true i := by
  unfold lk
  have : (parD ns).lookup ns[i] = some (.var true i) := by
    refine mem_look (by rw [parD_keys]; exact hn) ?_
    unfold parD
    refine List.mem_map.mpr ⟨i, List.mem_range.mpr hi, ?_⟩
    rw [List.getD_eq_getElem?_getD, List.getElem?_eq_getElem hi]; rfl
  rw [this]; rfl
def idx (ns : List Nat) (k : Nat) : Nat := match lk false (parD ns) k with
  | .var _ j => j
  | .node _ _ => 0
theorem idx_at {ns : List Nat} (hn : ns.Nodup) {i : Nat} (hi : i < ns.length) : idx ns ns[i] = i := by
  unfold idx
  rw [parD_at hn hi]
theorem parD_mem {ns : List Nat} (hn : ns.Nodup) {k : Nat} (hk : k ∈ ns) : lk false (parD ns) k = .var true (idx ns k) ∧ idx ns k < ns.length := by
  obtain ⟨i, hi, rfl⟩ := List.mem_iff_getElem.mp hk
  rw [parD_at hn hi, idx_at hn hi]
  exact ⟨rfl, hi⟩
theorem occ_put_any {σ : Nat → Ty} {j : Nat} (a : Ty) (h : occ true j (put false σ a)) : ∃ k, True ∧ (occ true j a ∨ (occ false k a ∧ occ true j (σ k))) := by
  revert a
  refine Ty.ind (fun p k h => ?_) fun l ks ih h => ?_
  · by_cases e : p = false
    · subst e
      rw [put_var] at h
      exact ⟨k, trivial, .inr ⟨occ_var.mpr ⟨rfl, rfl⟩, h⟩⟩
    · rw [put_other _ _ e] at h
      exact ⟨0, trivial, .inl h⟩
  · rw [put_node] at h
    obtain ⟨t, ht, h⟩ := occ_node.mp h
    obtain ⟨u, hu, rfl⟩ := List.mem_map.mp ht
    obtain ⟨k, _, q⟩ := ih u hu h
    rcases q with q | ⟨q1, q2⟩
    · exact ⟨k, trivial, .inl (occ_node.mpr ⟨u, hu, q⟩)⟩
    · exact ⟨k, trivial, .inr ⟨occ_node.mpr ⟨u, hu, q1⟩, q2⟩⟩
def bodyOf (a : Ty) : Ty := put false (lk false (parD (nums false a))) a
theorem body_ok {a : Ty} (ga : Gw a) (hs : size a ≤ 49) (hd : depth a ≤ 4) : Oks 40 (nums false a).length (bodyOf a) ∧ depth (bodyOf a) ≤ 4 := by
  have hn := nodup_nums (w := false) a
  have par : ∀ k, occ false k a → lk false (parD (nums false a)) k = .var true (idx (nums false a) k) ∧ idx (nums false a) k < (nums false a).length := fun k hk => parD_mem hn ((mem_nums a).mpr hk)
  have dp : depth (bodyOf a) ≤ depth a + 0 := depth_put_le a fun k hk => by rw [(par k hk).1, depth]; omega
  have occT : ∀ j, occ true j (bodyOf a) → j < (nums false a).length := fun j hj => by
    obtain ⟨k, h1, h2⟩ := occ_put_any a hj
    rcases h2 with h2 | ⟨h2, h3⟩
    · exact absurd h2 (ga.nop j)
    · rw [(par k h2).1] at h3
      rw [← (occ_var.mp h3).2]; exact (par k h2).2
  refine ⟨⟨wf_put a ga.wf fun k hk => by rw [(par k hk).1, wf]; trivial, fun j hj => ?_, fun j hj => ?_, ?_, by omega, ?_⟩, by omega⟩
  · obtain ⟨k, h1, h2⟩ := (occ_put a).mp hj
    rw [(par k h1).1] at h2
    exact nomatch (occ_var.mp h2).1
  · have := occT j hj
    have := nums6 ga
    omega
  · have := size_put_le (w := false) (σ := lk false (parD (nums false a))) (m := 1) (Nat.le_refl _) a fun k hk => by rw [(par k hk).1, size]; omega
    show size (bodyOf a) ≤ 200
    unfold bodyOf
    omega
  · have e := nums_map (w := false) (v := true) (f := idx (nums false a)) (σ := lk false (parD (nums false a))) a (fun k hk => (par k hk).1) (fun _ => ga.nop) fun x y hx hy e => by
      obtain ⟨i, hi, rfl⟩ := List.mem_iff_getElem.mp ((mem_nums a).mpr hx)
      obtain ⟨j, hj, rfl⟩ := List.mem_iff_getElem.mp ((mem_nums a).mpr hy)
      rw [idx_at hn hi, idx_at hn hj] at e
      subst e; rfl
    show nums true (put false (lk false (parD (nums false a))) a) = _
    rw [e]
    refine List.ext_getElem? fun i => ?_
    rw [List.getElem?_map]
    by_cases hi : i < (nums false a).length
    · rw [List.getElem?_eq_getElem hi, List.getElem?_range hi]
      show some (idx _ _) = _
      rw [idx_at hn hi]
    · rw [List.getElem?_eq_none (by omega), List.getElem?_eq_none (by rw [List.length_range]; omega)]; rfl

def spGR (K : PySem.W.Frag) : Sp := fun vs H Q _ => ∃ v a, vs = [v] ∧ Rep K H v a ∧ Gw a ∧ size a ≤ 49 ∧ depth a ≤ 4 ∧ ∀ H', Same H H' → Q (.bl true) H'
theorem gw_okt {n : Nat} {t : Ty} (g : Gw t) (hs : size t ≤ 200) (hd : depth t ≤ n) : Okt n t := ⟨g.wf, g.nop, hs, hd⟩
theorem show_bools (x y : Bool) : PyData.canLay0 (.str (PyData.shown (.list [.bool x, .bool y]))) = true ∧ (PyData.shown (.list [.bool x, .bool y])).length ≤ sizeLine := by
  rw [sizeLine_eq]
  cases x <;> cases y <;> decide +kernel
theorem dep_bools (x y : Bool) : PyData.depth (.list [.bool x, .bool y]) ≤ 62 := by cases x <;> cases y <;> decide +kernel
theorem ok_law_general_right (D : Defs K mg) (KB : Kws D) : FnG P w K mg base 95 D.law_general_right.a D.law_general_right.fd ["_law_one"] (spGR K) := by
  have G_law_numbers := ok_law_numbers (P := P) (w := w) (base := base) D 4
  have G_general := ok_general (P := P) (w := w) (base := base) D 40
  have G_law_put := ok_law_put (P := P) (w := w) (base := base) D 4
  have G_unknowns_of := ok_unknowns_of (P := P) (w := w) (base := base) D 40
  have G_law_size := ok_law_size (P := P) (w := w) (base := base) D 4
  have G_law_matched := ok_law_matched (P := P) (w := w) (base := base) D 40
  have G_is_instance := ok_is_instance (P := P) (w := w) (base := base) D 40 (by decide)
  have sc := sc_law_general_right
  refine okG D.law_general_right.F sc (fun vs H Q E h => ?_) (fun cdv A outer s H vs Q hg hr h => ?_)
  · obtain ⟨v, a, rfl, _⟩ := h
    rfl
  obtain ⟨v, a, rfl, h, ga, hs, hd, q⟩ := h
  refine ⟨_, (pss_cons (ps_set (i := 1) sc.nd rfl (Or.inl rfl) (pcall D.law_numbers G_law_numbers (hr.mono (by omega)) (by rfl) (pa_cons (pv 0) pa_nil)))
      (pss_cons (ps_set (i := 2) sc.nd rfl (Or.inl rfl) (pe_callTy (call_dictP rfl) (by rfl) D.z_dict (by decide +kernel) (pa_cons (pe_lc (own := [("_law_at", 7), ("_law_number", 8)]) rfl sc.nd (pi_enum (by rfl) D.z_enumerate (pa_cons (pv 1) pa_nil)) (blkOk_by (own := [("_law_at", 7), ("_law_number", 8)]) (N := ["_law_one", "_law_numbers_here", "_law_some", "_law_scheme", "_law_further", "_law_late", "_law_due", "_law_at", "_law_number"]) (sc := defScope s_law_general_right) (by decide +kernel)) (fun _ _ _ _ _ => (show PG _ _ (gTup K 2 (gCons (gName 7) (gCons (gName 8) gNil))) from pg_tup rfl (pgs_cons (pg_name (i := 7) sc.nd rfl (Or.inl rfl)) (pgs_cons (pg_name (i := 8) sc.nd rfl (Or.inl rfl)) pgs_nil)))) (fun _ _ _ _ _ => pts_nil) (fun _ _ _ _ _ => (pe_tup (pa_cons (pv 8) (pa_cons (pe_tup (pa_cons pe_str (pa_cons (pv 7) pa_nil))) pa_nil))))) pa_nil)))
      (pss_cons (ps_set (i := 3) sc.nd rfl (Or.inl rfl) (pcall D.general G_general (hr.mono (by omega)) (by rfl) (pa_cons (pv 0) pa_nil)))
      (pss_cons (ps_if (PW.pt (pw_or (pt_cmpR (op_neG (room_eq hr)) (pv 3) (pe_tup (pa_cons (pe_callB call_len_seq (by rfl) D.z_len (by decide +kernel) (pa_cons (pv 1) pa_nil)) (pa_cons (pcall D.law_put G_law_put (hr.mono (by omega)) (by rfl) (pa_cons (pv 0) (pa_cons (pv 2) pa_nil))) pa_nil))) (nomark _)) (pw_or1 (pt_cmpR (op_neG (room_eq hr)) (pcallK1 D.unknowns_of G_unknowns_of (hr.mono (by omega)) KB.unknowns_of (by rfl) (pk_cons (pv 0) pk_nil)) (pv 1) (nomark _))))) (pss_one (ps_ret pe_bl)) pss_nil)
      (pss_cons (ps_set (i := 4) sc.nd rfl (Or.inl rfl) (pe_ifExp (pt_cmpR op_lt (pcall D.law_size G_law_size (hr.mono (by omega)) (by rfl) (pa_cons (pv 0) pa_nil)) pe_int (nomark _)) (pe_tup (pa_cons pe_str (pa_cons (pv 0) (pa_cons (pv 0) pa_nil)))) (pe_tup (pa_cons pe_str (pa_cons (pv 0) pa_nil)))))
      (pss_cons (ps_for PassesOwn.never rfl (pi_list (pe_lst (pa_cons (pv 0) (pa_cons (pv 4) (pa_cons (pe_tup (pa_cons pe_str (pa_cons (pv 0) pa_nil))) pa_nil))))) (pg_name (i := 5) sc.nd rfl (Or.inl rfl)) (pss_cons (ps_set (i := 6) sc.nd rfl (Or.inl rfl) (pcall D.law_matched G_law_matched (hr.mono (by omega)) (by rfl) (pa_cons (pe_ix ix_tup (pv 3) pe_int (fun _ _ => rfl)) (pa_cons (pv 5) (pa_cons pe_dnewK pa_nil)))))
      (pss_one (ps_if (pt_cmpR (op_neG (room_eq hr)) (pe_callB (UR.cr_reprD hg (Room.units hr)) (by rfl) D.z_repr (by decide +kernel) (pa_cons (pe_lst (pa_cons (pcall D.is_instance G_is_instance (hr.mono (by omega)) (by rfl) (pa_cons (pv 3) (pa_cons (pv 5) pa_nil))) (pa_cons (pcallK2 D.is_instance G_is_instance (hr.mono (by omega)) KB.is_instance (by rfl) (pk_cons (pv 5) (pk_cons (pv 3) pk_nil))) pa_nil))) pa_nil)) (pe_callB (UR.cr_reprD hg (Room.units hr)) (by rfl) D.z_repr (by decide +kernel) (pa_cons (pe_lst (pa_cons (pv 6) (pa_cons (pv 6) pa_nil))) pa_nil)) (nomark _)) (pss_one (ps_ret pe_bl)) pss_nil))))
      (pss_one (ps_ret pe_bl)))))))), ?_⟩
  obtain ⟨bo, bd⟩ := body_ok ga hs hd
  have few := few6 ga
  have oka : Okt 40 a := gw_okt ga (by omega) (by omega)
  refine ⟨_, rfl, v, a, rfl, h, ga.wf, few, hd, fun l H1 S1 hl0 hl => ?_⟩
  -- the dict
  refine ⟨_, rfl, l, _, rfl, .inl (.inl hl), fun D3 hD3 => ?_⟩
  refine lc_rows (K := K) (f := fun i => ((nums false a).getD i 0, .var true i)) (walk_enum (xs := (nums false a).map nV)) hD3 (by rw [List.length_map]; exact few.len) (fun H S => .inl (.inl (S _ _ hl))) (fun i x H' H2' Q2 N hi S y hq => ?_) fun H3 xs S3 h3 hR => ?_
  · obtain ⟨T, x1, y1, rfl, hT, rfl, ex, ey⟩ := y
    have ey : (List.map nV (nums false a))[i]? = some y1 := ey
    rw [List.getElem?_map] at ey
    obtain ⟨k, ek, rfl⟩ := Option.map_eq_some_iff.mp ey
    cases ex
    have ST := same_new (H := H') (p := T) (o := .tup [.int (i : Nat), nV k]) hT
    refine ⟨T, _, rfl, .inl (.inl upd_same), rfl, _, _, rfl, _, _, rfl, rfl, rfl, yes_run ?_⟩
    refine ⟨_, rfl, _, rfl, Nat.le_of_ble_eq_true rfl, fun p hp => ⟨Nat.le_of_ble_eq_true rfl, fun p2 hp2 => ?_⟩⟩
    have Sp := same_new (H := upd H' T (.tup [.int (i : Nat), nV k])) (p := p) (o := .tup [.str "param", nV i]) hp
    have Sp2 := same_new (H := upd (upd H' T (.tup [.int (i : Nat), nV k])) p (.tup [.str "param", nV i])) (p := p2) (o := .tup [nV k, .ref p]) hp2
    refine hq p2 _ (same_trans ST (same_trans Sp Sp2)) ?_
    have : (nums false a).getD i 0 = k := by rw [List.getD_eq_getElem?_getD, ek]; rfl
    rw [this]
    exact row_new hp2 (Rep.mkVar (p := true) (.inl (.inl upd_same)))
  rw [List.length_map] at hR
  obtain ⟨ps, kvs, rfl, g1, g2⟩ := rows_dict hR (by rw [show (List.range (nums false a).length).map (fun i => ((nums false a).getD i 0, Ty.var true i)) = parD (nums false a) from rfl, parD_keys]; exact nodup_nums a)
  refine ⟨D3, ps, kvs, rfl, .inl (.inl h3), g1, fun d hd0 => ?_⟩
  have hT := g2 d hd0
  have S4 := same_new (H := H3) (p := d) (o := .dK (mergeK [] kvs)) hd0
  have S14 := same_trans S1 (same_trans S3 S4)
  have hl4 := (same_trans S3 S4) _ _ hl
  -- the scheme
  refine ⟨_, rfl, v, a, rfl, h.mono (tst_same S14), oka, few, fun sa v' H5 S5 hsa hv' => ?_⟩
  have hl5 := S5 _ _ hl4
  have S15 := same_trans S14 S5
  refine ⟨_, rfl, _, rfl, l, _, rfl, .inl (.inl (.inl hl5)), _, rfl, _, rfl, v, a, d, parD (nums false a), rfl, h.mono (tst_same S15), ga.wf, hT.same S5, hd, fun y H6 S6 hy => ⟨Nat.le_of_ble_eq_true rfl, fun t6 ht6 => ?_⟩⟩
  have S7 := same_new (H := H6) (p := t6) (o := .tup [.int ((nums false a).map nV).length, y]) ht6
  have S67 := same_trans S6 S7
  refine ⟨.tuple [.int ((nums false a).length : Nat), tyD (bodyOf a)], .tuple [.int ((nums false a).length : Nat), tyD (bodyOf a)], .tup (tst_seq (tst_same S67) hsa) (.cons (.int _) (.cons (hv'.mono (tst_same S67)) .nil)), .tup (.inl (.inl upd_same)) (.cons (by rw [List.length_map]; exact .int _) (.cons (hy.mono (tst_same S7)) .nil)), ?_, ?_, ?_, _, rfl, ?_⟩
  · rw [PyData.canLay0]
    exact lay_all fun d hd => by
      rcases List.mem_cons.mp hd with e | hd
      · rw [e]; rfl
      · rw [List.mem_singleton.mp hd]; exact lay_tyD _
  · rw [PyData.canLay0]
    exact lay_all fun d hd => by
      rcases List.mem_cons.mp hd with e | hd
      · rw [e]; rfl
      · rw [List.mem_singleton.mp hd]; exact lay_tyD _
  · rw [PyData.depth]
    have := depthAll_pd (n := 20) (ds := [.int ((nums false a).length : Nat), tyD (bodyOf a)]) fun d hd => by
      rcases List.mem_cons.mp hd with e | hd
      · rw [e, PyData.depth]; omega
      · rw [List.mem_singleton.mp hd]
        have := depth_tyD (bodyOf a) bo.wf
        omega
    omega
  have eqs : PyData.eqv (.tuple [.int ((nums false a).length : Nat), tyD (bodyOf a)]) (.tuple [.int ((nums false a).length : Nat), tyD (bodyOf a)]) = true := by
    rw [PyData.eqv, PyData.eqvAll, PyData.eqvAll, eqv_T, eqv_int, decide_eq_true rfl]; rfl
  rw [eqs]
  refine iteF ?_
  have S17 := same_trans S15 S67
  have hl7 := S67 _ _ hl5
  refine ⟨_, rfl, _, rfl, v, a, rfl, h.mono (tst_same S17), oka, few, fun l8 H8 S8 hl80 hl8 => ⟨_, rfl, ?_⟩⟩
  have hl7' := S8 _ _ hl7
  refine ⟨.list ((nums false a).map pI), .list ((nums false a).map pI), .lst (.inl (.inl hl8)) (dp_nums _), .lst (.inl (.inl hl7')) (dp_nums _), lay_nums _, lay_nums _, depth_nums _, _, rfl, ?_⟩
  rw [eqv_nums]
  refine iteB0 (notT rfl) ?_
  have S18 := same_trans S17 S8
  have h8 := h.mono (tst_same S18)
  have hsa8 := tst_seq (tst_same (same_trans S67 S8)) hsa
  have hv8 := hv'.mono (tst_same (same_trans S67 S8))
  -- further
  refine ⟨_, rfl, v, a, rfl, h8, ga.wf, hd, fun H9 S9 => ⟨_, _, rfl, rfl, _, rfl, ?_⟩⟩
  refine iteB1 (decide_eq_true (by omega)) ?_
  refine ⟨_, rfl, _, rfl, Nat.le_of_ble_eq_true rfl, fun fa hfa => ?_⟩
  have S10 := same_new (H := H9) (p := fa) (o := .tup [.str "fun", v, v]) hfa
  have S810 := same_trans S9 S10
  have h10 := h8.mono (tst_same S810)
  have rfun : Rep K (upd H9 fa (.tup [.str "fun", v, v])) (.ref fa) (.node .fn [a, a]) := Rep.mkFlat rfl (.inl (.inl upd_same)) (.cons h10 (.cons h10 .nil))
  refine ⟨_, rfl, _, rfl, _, rfl, Nat.le_of_ble_eq_true rfl, fun ra hra => ⟨Nat.le_of_ble_eq_true rfl, fun L hL => ?_⟩⟩
  have S11 := same_new (H := upd H9 fa (.tup [.str "fun", v, v])) (p := ra) (o := .tup [.str "ref", v]) hra
  have S12 := same_new (p := L) (o := .lst [v, .ref fa, .ref ra]) hL
  have S1012 := same_trans S11 S12
  have h12 := h10.mono (tst_same S1012)
  have reps : Reps K (upd (upd (upd H9 fa (.tup [.str "fun", v, v])) ra (.tup [.str "ref", v])) L (.lst [v, .ref fa, .ref ra])) [v, .ref fa, .ref ra] [a, .node .fn [a, a], .node (.one true) [a]] :=
    .cons h12 (.cons (rfun.mono (tst_same S1012)) (.cons (Rep.mkFlat rfl (tst_seq (tst_same S12) (.inl (.inl upd_same))) (.cons h12 .nil)) .nil))
  have gds : ∀ t ∈ [a, .node .fn [a, a], .node (.one true) [a]], Okt 40 t := fun t ht => by
    have f1 : Gw (.node .fn [a, a]) := Gw.nokid (fun t ht => by
      rcases List.mem_cons.mp ht with e | ht
      · rw [e]; exact ga
      · rw [List.mem_singleton.mp ht]; exact ga) rfl
    have f2 : Gw (.node (.one true) [a]) := Gw.nokid (fun t ht => by rw [List.mem_singleton.mp ht]; exact ga) rfl
    rcases List.mem_cons.mp ht with e | ht
    · rw [e]; exact oka
    rcases List.mem_cons.mp ht with e | ht
    · rw [e]; exact gw_okt f1 (by rw [size, sizes, sizes, sizes]; omega) (by rw [depth, depths, depths, depths]; omega)
    · rw [List.mem_singleton.mp ht]; exact gw_okt f2 (by rw [size, sizes, sizes]; omega) (by rw [depth, depths, depths]; omega)
  have S812 := same_trans S810 S1012
  have hsa12 := tst_seq (tst_same S812) hsa8
  have hv12 := hv8.mono (tst_same S812)
  have S012 := same_trans S18 S812
  refine ⟨L, rfl, ⟨_, .inl (.inl upd_same)⟩, ?_⟩
  refine for_list (xs := [v, .ref fa, .ref ra]) (fun i σ H' => (∃ o5 o6, σ = [some v, some (.ref l), some (.ref d), some (.ref sa), some (.ref fa), o5, o6, none, none]) ∧ Same (upd (upd (upd H9 fa (.tup [.str "fun", v, v])) ra (.tup [.str "ref", v])) L (.lst [v, .ref fa, .ref ra])) H') ⟨⟨none, none, rfl⟩, fun _ _ z => z⟩ (fun i σ H' _ hh => .inl (.inl (hh.2 _ _ upd_same))) (fun i x σ H' e hh => ?_) fun σ H' hh => ?_
  · obtain ⟨⟨o5, o6, rfl⟩, S⟩ := hh
    obtain ⟨t, et, ht⟩ := reps.at e
    have ok := gds t (List.mem_of_getElem? et)
    have hx := ht.mono (tst_same S)
    have hsx := tst_seq (tst_same S) hsa12
    have hvx := hv12.mono (tst_same S)
    refine ⟨_, rfl, _, _, 1, _, rfl, rfl, hsx, atI_nat (j := 1) rfl, _, rfl, fun e1 he1 => ?_⟩
    have S13 := same_new (H := H') (p := e1) (o := .dK []) he1
    refine ⟨v', x, bodyOf a, t, e1, [], rfl, hvx.mono (tst_same S13), hx.mono (tst_same S13), bo.wf, ok.wf, bo.only, bo.few, bo.dp, by have := ok.dp; omega, by have := bo.dp; omega, ⟨[], upd_same, DictIs.nil⟩, DOk.nil, fun r H14 D14 B14 hT14 hD14 m => ?_⟩
    have S14 : Same H' H14 := same_but he1 ((but_same S13).trans B14)
    have hsx14 := tst_seq (tst_same S14) hsx
    have due : r = true ↔ ∃ ρ, put true ρ (bodyOf a) = t := by
      rw [m.iff]
      constructor
      · rintro ⟨ρ, e⟩; exact ⟨ρ, by injection e⟩
      · rintro ⟨ρ, e⟩; exact ⟨ρ, by rw [← e]; rfl⟩
    refine ⟨_, rfl, _, rfl, sa, v', _, bodyOf a, x, t, rfl, hsx14, hvx.mono (tst_same S14), bo, hx.mono (tst_same S14), ok, fun r1 H15 S15' hr1 => ?_⟩
    have S1415 := same_trans S14 S15'
    refine ⟨_, rfl, _, rfl, _, _, rfl, sa, v', _, bodyOf a, x, t, rfl, tst_seq (tst_same S1415) hsx, hvx.mono (tst_same S1415), bo, hx.mono (tst_same S1415), ok, fun r2 H16 S16 hr2 => ⟨Nat.le_of_ble_eq_true rfl, fun q1 hq1 => ?_⟩⟩
    have e1' : r1 = r := by
      have := hr1.trans due.symm
      cases r1 <;> cases r <;> simp_all
    have e2' : r2 = r := by
      have := hr2.trans due.symm
      cases r2 <;> cases r <;> simp_all
    subst e1' e2'
    obtain ⟨sb1, sb2⟩ := show_bools r2 r2
    refine ⟨q1, .list [.bool r2, .bool r2], rfl, .lst (.inl (.inl upd_same)) (.cons (.bl _) (.cons (.bl _) .nil)), rfl, rfl, dep_bools _ _, sb2, ?_⟩
    have S17' := same_new (H := H16) (p := q1) (o := .lst [.bl r2, .bl r2]) hq1
    refine ⟨_, rfl, _, rfl, Nat.le_of_ble_eq_true rfl, fun q2 hq2 => ?_⟩
    have S18' := same_new (H := upd H16 q1 (.lst [.bl r2, .bl r2])) (p := q2) (o := .lst [.bl r2, .bl r2]) hq2
    refine ⟨q2, .list [.bool r2, .bool r2], rfl, .lst (.inl (.inl upd_same)) (.cons (.bl _) (.cons (.bl _) .nil)), rfl, rfl, dep_bools _ _, sb2, ?_⟩
    refine ⟨.str _, .str _, .str _, .str _, sb1, sb1, Nat.zero_le _, _, rfl, ?_⟩
    rw [eqv_str]
    refine iteB0 (notT rfl) ⟨⟨_, _, rfl⟩, ?_⟩
    exact same_trans S (same_trans S1415 (same_trans S16 (same_trans S17' S18')))
  · obtain ⟨⟨o5, o6, rfl⟩, S⟩ := hh
    exact q H' (same_trans S012 S)
end
end UW

/-! law_told_right. -/
namespace UW
open PySem PySem.Spec PyProof.Rows L2 U UV UD UX
section
variable {P : Program} {w : World} {K : PySem.W.Frag} {mg : Str → Option Value} {base : Heap}

/-- a comprehension that makes types -/
theorem lc_tys {J : It} {n : Nat} {G : Hp → Prop} {Y : Nat → Hp → V → Hp → Prop} (wk : Walk J n G Y) {D : Addr} {σ : L2.St} {vs : List Nat} {g : TG} {te : TE} {H1 : Hp} {Qd : Hp → Prop} {f : Nat → Ty} (hD : H1 D = none) (hn : n ≤ 1000) (hG : ∀ H, Same H1 H → G H)
    (hs : ∀ (i : Nat) (x : V) (H H' : Hp) (Q : VK) (N : Hp → Prop), i < n → Same H1 H → Y i H x H' → (∀ y H2, Same H H2 → Rep K H2 y (f i) → Q y H2) → g x (wipe σ vs) H' fun σ2 H2 => wipe σ2 vs = wipe σ vs ∧ tYes σ2 H2 fun b H3 => if b = true then te σ2 H3 Q else N H3)
    (hd : ∀ H' xs, Same H1 H' → H' D = some (.lst xs) → Reps K H' xs ((List.range n).map f) → Qd H') :
    ∃ W : Nat → Nat → Hp → Prop, (∃ m, W 0 m (upd H1 D (.lst []))) ∧ ∀ i m H, W i m H →
      (J.stop i H ∧ Qd H) ∨ (J.go i H ∧ ∃ Nx : Hp → Prop, (∀ H', Nx H' → ∃ m', m' < m ∧ W (i + 1) m' H') ∧ ∀ x H', J.yld i H x H' → g x (wipe σ vs) H' fun σ2 H2 => wipe σ2 vs = wipe σ vs ∧ tYes σ2 H2 fun b H3 =>
        if b = true then te σ2 H3 fun y H4 => ∃ acc, H4 D = some (.lst acc) ∧ acc.length < sizeLine ∧ Nx (upd H4 D (.lst (acc ++ [y]))) else Nx H3) := by
  refine lc_it wk (fun i H => Same H1 H ∧ ∃ acc, H D = some (.lst acc) ∧ Reps K H acc ((List.range i).map f)) ⟨same_new hD, [], upd_same, .nil⟩ (fun i H _ h => hG H h.1) (fun i x H H' hi h y => ?_) fun H h => ?_
  · obtain ⟨S, acc, hA, hR⟩ := h
    refine hs i x H H' _ _ hi S y fun p H2 S2 hp => ?_
    have al := hR.length
    rw [List.length_map, List.length_range] at al
    have T : Tst H2 (upd H2 D (.lst (acc ++ [p]))) := tst_but (but_upd _) (by rw [S2 _ _ hA]; exact notup_lst)
    refine ⟨acc, S2 _ _ hA, by rw [sizeLine_eq]; omega, same_mut (same_trans S S2) hD, acc ++ [p], upd_same, ?_⟩
    rw [List.range_succ, List.map_append]
    exact Reps.append ((hR.mono (tst_same S2)).mono T) (.cons (hp.mono T) .nil)
  · obtain ⟨S, acc, hA, hR⟩ := h
    exact hd H acc S hA hR
theorem zadd (i : Nat) : V.int (0 + (i : Int)) = nV i := by rw [Int.zero_add]
theorem rep_zvar {H : Hp} {p : Addr} {i : Nat} (h : SqT K H p [.str "unknown", .int (0 + (i : Int))]) : Rep K H (.ref p) (.var false i) := by
  rw [zadd] at h
  exact Rep.mkVar (p := false) h
theorem rgw_rows {raw tri tri0 : Told} {a b : Ty} {ns : List Nat} (L : Lnk (Gd 3) raw tri) (h : ns.Perm (keys tri)) (m : Mgu tri a b) (m0 : Mgu tri0 a b) (hs : ∀ k, k < 6 → size (apv tri0 k) ≤ 49) : RGw (rowsOf tri ns) := by
  have lt : ∀ k ∈ ns, k < 6 := fun k hk => L.lt k (by rw [L.keys]; exact h.mem_iff.mp hk)
  have nl : ns.length ≤ 6 := by
    have := L.len
    rw [h.length_eq, keys_len]; exact this
  have nd : ns.Nodup := h.nodup_iff.mpr (by rw [← L.keys]; exact L.nodup)
  refine ⟨⟨by rw [rowsOf_keys]; exact nd, by unfold rowsOf; rw [List.length_map]; exact nl, fun q hq => ?_⟩, fun q hq => ?_, fun k hk => ?_⟩
  · obtain ⟨k, hk, rfl⟩ := List.mem_map.mp hq
    obtain ⟨g1, g2⟩ := Lnk.gw3 L (lt k hk)
    refine gw_okt g1 ?_ (by show depth (apv tri k) ≤ 40; omega)
    have e : size (apv tri k) = size (apv tri0 k) := m.size_eq m0 (.var false k)
    have := hs k (lt k hk)
    show size (apv tri k) ≤ 200
    omega
  · obtain ⟨k, hk, rfl⟩ := List.mem_map.mp hq
    exact (Lnk.gw3 L (lt k hk)).1
  · rw [rowsOf_keys] at hk; exact lt k hk
def fillRows (tri : Told) (c : Nat → Ty) (ms : List Nat) : Told := ms.map fun k => (k, put false c (apv tri k))
theorem fill_keys (tri : Told) (c : Nat → Ty) (ms : List Nat) : keys (fillRows tri c ms) = ms := by
  unfold keys fillRows
  rw [List.map_map]
  exact List.map_id _
theorem fill_look {tri : Told} {c : Nat → Ty} {ms : List Nat} (hn : ms.Nodup) {k : Nat} (hk : k ∈ ms) : lk false (fillRows tri c ms) k = put false c (apv tri k) := by
  unfold lk
  have hm : (k, put false c (apv tri k)) ∈ fillRows tri c ms := List.mem_map_of_mem (f := fun k => (k, put false c (apv tri k))) hk
  rw [mem_look (by rw [fill_keys]; exact hn) hm]; rfl
theorem perm_range {ms : List Nat} (h : ms.Perm (List.range 6)) : ms.Nodup ∧ ms.length = 6 ∧ ∀ k, k ∈ ms ↔ k < 6 := ⟨h.nodup_iff.mpr List.nodup_range, by rw [h.length_eq, List.length_range], fun k => by rw [h.mem_iff, List.mem_range]⟩
theorem pS_eq (x y : Bool) (h : x = y) : (if x then ("True" : Str) else "False") = (if y then ("True" : Str) else "False") := by rw [h]
theorem lay_bS (x : Bool) : PyData.canLay0 (.str (if x then ("True" : Str) else "False")) = true := by cases x <;> decide +kernel
def spTR (K : PySem.W.Frag) : Sp := fun vs H Q _ => ∃ (p d : Addr) (v u : V) (a b : Ty) (raw tri : Told), vs = [.ref p, v, u, .ref d] ∧ Pot H p ∧ p ≠ d ∧ Rep K H v a ∧ Rep K H u b ∧ POk a b ∧ TolD K H d tri ∧ Lnk (Gd 4) raw tri ∧ Mgu tri a b ∧ size (ap tri a) ≤ 49 ∧ size (ap tri b) ≤ 49 ∧ (∀ k, k < 6 → size (apv tri k) ≤ 49) ∧ ∀ H', Q (.bl true) H'
theorem ok_law_told_right (D : Defs K mg) : FnOk P w K mg base CX0 95 D.law_told_right.a D.law_told_right.fd ["_law_pot_here", "_law_one", "_law_other", "_law_told"] (spTR K) := by
  have G_unified := ok_unified (P := P) (w := w) (base := base) D
  have G_is_unifier := ok_is_unifier (P := P) (w := w) (base := base) D
  have G_is_most_general := ok_is_most_general (P := P) (w := w) (base := base) D
  have G_law_alike := ok_law_alike (P := P) (w := w) (base := base) D
  have G_replaced := ok_replaced (P := P) (w := w) (base := base) D
  have G_law_open := ok_law_open (P := P) (w := w) (base := base) D 40
  have G_law_filled := ok_law_filled (P := P) (w := w) (base := base) D
  have G_law_put := ok_law_put (P := P) (w := w) (base := base) D 40
  have G_law_numbers := ok_law_numbers (P := P) (w := w) (base := base) D 40
  have sc := sc_law_told_right
  refine D.law_told_right.F.ok sc (fun vs H Q E h => ?_) (fun cdv A outer s H vs Q E hr h => ?_)
  · obtain ⟨p, d, v, u, a, b, raw, tri, rfl, _⟩ := h
    rfl
  obtain ⟨p, d, v, u, a, b, raw, tri, rfl, hp, npd, ha, hb, pk, hT, L, mT, sa, sb, sv, q⟩ := h
  refine ⟨_, (pss_cons (ps_set (i := 4) sc.nd rfl (Or.inl rfl) (pcall D.unified G_unified (hr.mono (by omega)) (by rfl) (pa_cons (pv 1) (pa_cons (pv 2) pa_nil))))
      (pss_cons (ps_if (PW.pt (pw_or (pt_not (pt_val (pe_callB call_isi (by rfl) D.z_isinstance (by decide +kernel) (pa_cons (pv 4) (pa_cons (pe_bltn (v := .ty "list") (u := .type "list") (by rfl) D.z_list (by decide +kernel) rfl) pa_nil))))) (pw_or1 (pt_cmpR op_notBl (pcall D.is_unifier G_is_unifier (hr.mono (by omega)) (by rfl) (pa_cons (pv 1) (pa_cons (pv 2) (pa_cons (pv 4) pa_nil)))) pe_bl (nomark _))))) (pss_one (ps_ret pe_bl)) pss_nil)
      (pss_cons (ps_if (pt_cmpR op_notBl (pcall D.is_most_general G_is_most_general (hr.mono (by omega)) (by rfl) (pa_cons (pv 1) (pa_cons (pv 2) (pa_cons (pv 4) pa_nil)))) pe_bl (nomark _)) (pss_one (ps_ret pe_bl)) pss_nil)
      (pss_cons (ps_setLc (i := 5) (own := [("_law_number", 10)]) rfl sc.nd rfl rfl (sw_true rfl rfl rfl (by decide +kernel)) (pi_range1 rfl D.z_range (pa_cons pe_int pa_nil)) (blkOk_by (own := [("_law_number", 10)]) (N := ["_law_pot_here", "_law_one", "_law_other", "_law_told", "_law_found", "_law_both", "_law_late", "_law_filled_here", "_law_some", "_law_rows", "_law_number", "_law_left"]) (sc := defScope s_law_told_right) (by decide +kernel)) (fun _ _ _ _ _ => (pg_name (i := 10) sc.nd rfl (Or.inl rfl))) (fun _ _ _ _ _ => pts_nil) (fun _ _ _ _ _ => (pe_tup (pa_cons pe_str (pa_cons (pe_tup (pa_cons (pv 1) (pa_cons (pe_tup (pa_cons pe_str (pa_cons (pv 10) pa_nil))) pa_nil))) pa_nil)))))
      (pss_cons (ps_for PassesOwn.never rfl (pi_list (pv 5)) (pg_name (i := 6) sc.nd rfl (Or.inl rfl)) (pss_one (ps_if (pt_not (pt_val (pcall D.law_alike G_law_alike (hr.mono (by omega)) (by rfl) (pa_cons (pcall D.replaced G_replaced (hr.mono (by omega)) (by rfl) (pa_cons (pv 6) (pa_cons (pv 4) pa_nil))) (pa_cons (pcall D.law_open G_law_open (hr.mono (by omega)) (by rfl) (pa_cons (pv 3) (pa_cons (pv 6) pa_nil))) pa_nil))))) (pss_one (ps_ret pe_bl)) pss_nil)))
      (pss_cons (ps_set (i := 7) sc.nd rfl (Or.inr rfl) (pcall D.law_filled G_law_filled (hr.mono (by omega)) (by rfl) (pa_cons (pv 0) (pa_cons (pv 3) pa_nil))))
      (pss_cons (ps_setLc (i := 8) (own := [("_law_number", 10)]) rfl sc.nd rfl rfl (sw_true rfl rfl rfl (by decide +kernel)) (pi_list (pe_callB cr_sorted (by rfl) D.z_sorted (by decide +kernel) (pa_cons (pe_callTy (call_list_dK rfl) (by rfl) D.z_list (by decide +kernel) (pa_cons (pv 7) pa_nil)) pa_nil))) (blkOk_by (own := [("_law_number", 10)]) (N := ["_law_pot_here", "_law_one", "_law_other", "_law_told", "_law_found", "_law_both", "_law_late", "_law_filled_here", "_law_some", "_law_rows", "_law_number", "_law_left"]) (sc := defScope s_law_told_right) (by decide +kernel)) (fun _ _ _ _ _ => (pg_name (i := 10) sc.nd rfl (Or.inl rfl))) (fun _ _ _ _ _ => pts_nil) (fun _ _ _ _ _ => (pe_tup (pa_cons (pv 10) (pa_cons (pe_dget (hu_of hr) (pv 7) (pv 10) (fun _ _ => rfl)) pa_nil)))))
      (pss_cons (ps_if (pt_cmpR op_notBl (pcall D.is_unifier G_is_unifier (hr.mono (by omega)) (by rfl) (pa_cons (pv 1) (pa_cons (pv 2) (pa_cons (pv 8) pa_nil)))) pe_bl (nomark _)) (pss_one (ps_ret pe_bl)) pss_nil)
      (pss_cons (ps_set (i := 9) sc.nd rfl (Or.inl rfl) (pe_callTy (call_dictP rfl) (by rfl) D.z_dict (by decide +kernel) (pa_cons (pv 4) pa_nil)))
      (pss_cons (ps_for PassesOwn.never rfl (pi_range1 rfl D.z_range (pa_cons pe_int pa_nil)) (pg_name (i := 10) sc.nd rfl (Or.inl rfl)) (pss_one (ps_if (pt_cmpR (op_neG (room_eq hr)) (pcall D.law_put G_law_put (hr.mono (by omega)) (by rfl) (pa_cons (pcall D.law_put G_law_put (hr.mono (by omega)) (by rfl) (pa_cons (pe_tup (pa_cons pe_str (pa_cons (pv 10) pa_nil))) (pa_cons (pv 9) pa_nil))) (pa_cons (pv 7) pa_nil))) (pe_dget (hu_of hr) (pv 7) (pv 10) (fun _ _ => rfl)) (nomark _)) (pss_one (ps_ret pe_bl)) pss_nil)))
      (pss_cons (ps_set (i := 11) sc.nd rfl (Or.inl rfl) (pe_lst pa_nil))
      (pss_cons (ps_for PassesOwn.never rfl (pi_range1 rfl D.z_range (pa_cons pe_int pa_nil)) (pg_name (i := 10) sc.nd rfl (Or.inl rfl)) (pss_one (ps_expr (pe_bm PySem.F.plainAttrs_list PySem.F.slot_list_extend PySem.F.type_list_extend mt_extend (pv 11) (pa_cons (pcall D.law_numbers G_law_numbers (hr.mono (by omega)) (by rfl) (pa_cons (pcall D.law_open G_law_open (hr.mono (by omega)) (by rfl) (pa_cons (pv 3) (pa_cons (pe_tup (pa_cons pe_str (pa_cons (pv 10) pa_nil))) pa_nil))) pa_nil)) pa_nil)))))
      (pss_one (ps_ret (pe_cmpR (op_eqG (room_eq hr)) (pe_callB UR.cr_reprB (by rfl) D.z_repr (by decide +kernel) (pa_cons (pcall D.is_most_general G_is_most_general (hr.mono (by omega)) (by rfl) (pa_cons (pv 1) (pa_cons (pv 2) (pa_cons (pv 8) pa_nil)))) pa_nil)) (pe_callB UR.cr_reprB (by rfl) D.z_repr (by decide +kernel) (pa_cons (pe_cmpR (op_eqG (room_eq hr)) (pv 11) (pe_lst pa_nil) (nomark _)) pa_nil)) (nomark _)))))))))))))))), ?_⟩
  have da : depth a ≤ 4 ∧ depth b ≤ 4 := by rcases pk.dp with ⟨h1, h2⟩ | ⟨h1, h2, _⟩ <;> omega
  have sza : size a ≤ 49 := Nat.le_trans (by rw [ap_put]; exact size_put_ge a) sa
  have szb : size b ≤ 49 := Nat.le_trans (by rw [ap_put]; exact size_put_ge b) sb
  have oka : Okt 40 a := gw_okt pk.wa (by omega) (by omega)
  have okb : Okt 40 b := gw_okt pk.wb (by omega) (by omega)
  have gtri := L.gw fun t g => g.w
  have gv : ∀ k, k < 6 → Gw (apv tri k) := fun k hk => Gw.ap gtri (Gw.var hk)
  have dv : ∀ k, depth (apv tri k) ≤ 24 := fun k => by
    have := L.depth_le (d := 4) (fun t g => g.dp) 6 (.var false k) (L.rank _)
    have e0 : depth (.var false k) = 0 := by rw [depth]
    have : depth (apv tri k) ≤ depth (.var false k) + 6 * 4 := this
    omega
  have Ls := L.selfw fun t g => g.w
  -- found
  refine ⟨_, rfl, _, rfl, v, u, a, b, rfl, ha, hb, oka, okb, pk, fun H1 S1 no => absurd ((mT.iff _).mp mT.tri.sat) (no _), fun H1 l xs rawF triF ns S1 hl hR hpm LF mF => ?_⟩
  have rg := rgw_rows LF hpm mF mT sv
  have elF : ∀ k, lk false (rowsOf triF ns) k = apv triF k := lk_rows fun k hk => fun z => hk (hpm.mem_iff.mpr z)
  have elF' : lk false (rowsOf triF ns) = apv triF := funext elF
  have unF : put false (lk false (rowsOf triF ns)) a = put false (lk false (rowsOf triF ns)) b := by rw [elF', ← ap_put, ← ap_put]; exact mF.unifies
  refine ⟨_, rfl, _, _, .type "list", .type "list", true, rfl, .ty "list", ty_lst (.inl (.inl hl)), kit_ty kit_lst, _, rfl, iteF ?_⟩
  refine ⟨_, rfl, _, rfl, _, rfl, v, u, l, a, b, xs, rowsOf triF ns, rfl, ha.mono (tst_same S1), hb.mono (tst_same S1), oka, okb, .inl (.inl hl), hR, rg.ok, fun c2 H2 S2 hc2 => ⟨c2, true, rfl, rfl, _, rfl, ?_⟩⟩
  rw [hc2.mpr unF]
  refine iteB0 (notT rfl) ?_
  have S12 := same_trans S1 S2
  have hl2 := S2 _ _ hl
  have hR2 := hR.mono (tst_same S2)
  refine ⟨_, rfl, _, rfl, _, rfl, v, u, l, a, b, xs, rowsOf triF ns, rfl, ha.mono (tst_same S12), hb.mono (tst_same S12), oka, okb, pk, .inl (.inl hl2), hR2, rg, fun H3 S3 ne => absurd unF ne, fun c3 H3 raw3 tri3 S3 _ L3 m3 hc3 => ⟨c3, true, rfl, rfl, _, rfl, ?_⟩⟩
  rw [hc3.mpr ⟨apv tri3, fun k _ => by rw [elF]; exact mF.goes m3 k⟩]
  refine iteB0 (notT rfl) ?_
  have S13 := same_trans S12 S3
  have hl3 := S3 _ _ hl2
  have hR3 := hR2.mono (tst_same S3)
  have ha3 := ha.mono (tst_same S13)
  -- both
  refine ⟨6, rfl, by decide, by decide, fun L4 hL4 => ?_⟩
  refine lc_tys (K := K) (f := fun i => .node .tup [a, .var false i]) (walk_range (lo := 0) (n := 6)) hL4 (by decide) (fun _ _ => trivial) (fun i x H' H'' Q2 N hi S y hq => ?_) fun H4 ys S4 h4 hY => ?_
  · obtain ⟨rfl, rfl⟩ := y
    refine ⟨rfl, yes_run ?_⟩
    refine ⟨_, rfl, _, rfl, Nat.le_of_ble_eq_true rfl, fun p1 hp1 => ⟨Nat.le_of_ble_eq_true rfl, fun p2 hp2 => ⟨Nat.le_of_ble_eq_true rfl, fun p3 hp3 => ?_⟩⟩⟩
    have s1 := same_new (H := H'') (p := p1) (o := .tup [.str "unknown", .int (0 + (i : Int))]) hp1
    have s2 := same_new (p := p2) (o := .tup [v, .ref p1]) hp2
    have s3 := same_new (p := p3) (o := .tup [.str "tuple", .ref p2]) hp3
    have s23 := same_trans s2 s3
    have s13 := same_trans s1 s23
    refine hq _ _ s13 (Rep.mkTup (.inl (.inl upd_same)) (.inl (.inl (s3 _ _ upd_same))) (.cons (ha3.mono (tst_same (same_trans S s13))) (.cons (rep_zvar (.inl (.inl (s23 _ _ upd_same)))) .nil)))
  have S14 := same_trans S13 S4
  have hl4 := S4 _ _ hl3
  have hR4 := hR3.mono (tst_same S4)
  refine ⟨_, rfl, L4, rfl, ⟨_, .inl (.inl h4)⟩, ?_⟩
  refine for_list (xs := ys) (fun i σ H' => (∃ o6, σ = [some (.ref p), some v, some u, some (.ref d), some (.ref l), some (.ref L4), o6, none, none, none, none, none]) ∧ Same H4 H') ⟨⟨none, rfl⟩, fun _ _ z => z⟩ (fun i σ H' _ hh => .inl (.inl (hh.2 _ _ h4))) (fun i x σ H' e hh => ?_) fun σ H' hh => ?_
  · obtain ⟨⟨o6, rfl⟩, S⟩ := hh
    obtain ⟨t, et, ht⟩ := hY.at e
    rw [List.getElem?_map] at et
    obtain ⟨n, en, rfl⟩ := Option.map_eq_some_iff.mp et
    have n6 : n < 6 := List.mem_range.mp (List.mem_of_getElem? en)
    have gt : Gw (.node .tup [a, .var false n]) := Gw.nokid (fun t ht => by
      rcases List.mem_cons.mp ht with z | ht
      · rw [z]; exact pk.wa
      · rw [List.mem_singleton.mp ht]; exact Gw.var n6) rfl
    have szt : size (.node .tup [a, .var false n]) = 1 + (size a + (1 + 0)) := by rw [size, sizes, sizes, sizes, size]
    have dpt : depth (.node .tup [a, .var false n]) ≤ 5 := by
      rw [depth]
      refine depths_le fun t ht => ?_
      rcases List.mem_cons.mp ht with z | ht
      · rw [z]; omega
      · rw [List.mem_singleton.mp ht, depth]; omega
    have ht' := ht.mono (tst_same S)
    refine ⟨_, rfl, _, rfl, x, l, _, xs, rowsOf triF ns, rfl, ht', gw_okt gt (by omega) (by omega), .inl (.inl (.inl (S _ _ hl4))), hR4.mono (tst_same S), rg.ok, fun y1 H5 S5 hy1 => ?_⟩
    have S45 := same_trans S S5
    have dd := L.depth_le (d := 4) (fun t g => g.dp) 6 (.node .tup [a, .var false n]) (L.rank _)
    refine ⟨_, rfl, _, rfl, x, _, d, Gw, tri, tri, 6, rfl, ht'.mono (tst_same S5), gt.wf, hT.same (same_trans S14 S45), Ls, fun t g => g.wf, Ls.rank _, by omega, fun y2 H6 S6 hy2 => ?_⟩
    have eA : put false (lk false (rowsOf triF ns)) (.node .tup [a, .var false n]) = ap triF (.node .tup [a, .var false n]) := by rw [elF', ← ap_put]
    have dF := LF.depth_le (d := 3) (fun t g => g.dp) 6 (.node .tup [a, .var false n]) (LF.rank _)
    rw [eA] at hy1
    refine ⟨y1, y2, _, _, rfl, hy1.mono (tst_same S6), hy2, Gw.ap (LF.gw fun t g => g.w) gt, Gw.ap gtri gt, by omega, by omega, fun c6 H7 S7 hc6 => ⟨_, rfl, ?_⟩⟩
    rw [hc6.mpr (mF.alike mT _)]
    exact iteF ⟨⟨_, rfl⟩, same_trans S45 (same_trans S6 S7)⟩
  obtain ⟨⟨o6, rfl⟩, S⟩ := hh
  have S05 := same_trans S14 S
  have hp5 := hp.same S05
  -- filled
  refine ⟨_, rfl, _, rfl, p, d, raw, tri, rfl, hp5, npd, hT.same S05, L, fun dF H6 c B6 hp6 hTF hclo => ?_⟩
  have T6 := Pot.tst B6 hp5
  have TT := (tst_same S05).trans T6
  have npl : p ≠ l := by
    obtain ⟨x, y, e, _⟩ := hp5
    intro z
    rw [z] at e
    rw [S _ _ hl4] at e
    injection e with e; injection e with e
    rw [e] at hR
    obtain ⟨p1, q1, z1, _⟩ := hR.at (i := 0) rfl
    cases z1
  have hl6 : H6 l = some (.lst xs) := B6 _ _ (Ne.symm npl) (S _ _ hl4)
  have hR6 := hR4.mono ((tst_same S).trans T6)
  have hT6 : TolD K H6 d tri := by
    obtain ⟨kk, e, hh⟩ := hT.same S05
    exact ⟨kk, B6 _ _ (Ne.symm npd) e, hh.mono T6⟩
  have ha6 := ha.mono TT
  have hb6 := hb.mono TT
  -- some
  obtain ⟨kvF, eF, hkF⟩ := hTF
  have hTF : TolD K H6 dF (filD tri c) := ⟨kvF, eF, hkF⟩
  have kfil : keys (filD tri c) = List.range 6 := fill_keys tri c (List.range 6)
  refine ⟨_, rfl, dF, kvF, rfl, eF, fun l7 hl7 => ?_⟩
  rw [dictIs_keys hkF, kfil]
  have S7 := same_new (H := H6) (p := l7) (o := .lst ((List.range 6).map nV)) hl7
  refine ⟨l7, (List.range 6).map zI, rfl, .inl (.inl (by rw [← nat_ints]; exact upd_same)), by decide, fun ns8 l8 hp8 _ hl8 => ?_⟩
  obtain ⟨ms, rfl, hpm8⟩ := perm_nats hp8
  rw [← nat_ints]
  obtain ⟨mnd, mlen, mmem⟩ := perm_range hpm8
  have S8 := same_new (p := l8) (o := .lst (ms.map nV)) hl8
  have S78 := same_trans S7 S8
  refine ⟨l8, rfl, ⟨_, .inl (.inl upd_same)⟩, fun D9 hD9 => ?_⟩
  refine lc_rows (K := K) (f := fun i => (ms.getD i 0, put false c (apv tri (ms.getD i 0)))) (walk_list (K := K) (a := l8) (xs := ms.map nV)) hD9 (by rw [List.length_map]; omega) (fun H' S' => .inl (.inl (S' _ _ upd_same))) (fun i x H' H'' Q2 N hi S' y hq => ?_) fun H9 zs S9 h9 hZ => ?_
  · obtain ⟨rfl, ex⟩ := y
    rw [List.getElem?_map] at ex
    obtain ⟨k, ek, rfl⟩ := Option.map_eq_some_iff.mp ex
    have egd : ms.getD i 0 = k := by rw [List.getD_eq_getElem?_getD, ek]; rfl
    rw [egd] at hq
    have k6 := (mmem k).mp (List.mem_of_getElem? ek)
    obtain ⟨z, gz, hz⟩ := (hTF.same (same_trans S78 S')).yes (mem_look (by rw [kfil]; exact List.nodup_range) (List.mem_map_of_mem (List.mem_range.mpr k6)))
    refine ⟨rfl, yes_run ⟨_, rfl, _, rfl, _, rfl, dF, z, rfl, gz, Nat.le_of_ble_eq_true rfl, fun p1 hp1 => ?_⟩⟩
    exact hq p1 _ (same_new hp1) (row_new hp1 hz)
  rw [List.length_map, mlen] at hZ
  have er : (List.range 6).map (fun i => (ms.getD i 0, put false c (apv tri (ms.getD i 0)))) = fillRows tri c ms := by
    unfold fillRows
    refine List.ext_getElem? fun i => ?_
    rw [List.getElem?_map, List.getElem?_map]
    by_cases hi : i < 6
    · rw [List.getElem?_range hi, List.getElem?_eq_getElem (by omega)]
      simp [mlen, hi]
    · rw [List.getElem?_eq_none (by rw [List.length_range]; omega), List.getElem?_eq_none (by omega)]
      rfl
  rw [er] at hZ
  have S79 := same_trans S78 S9
  -- what fills
  have fl : Fill tri c (lk false (fillRows tri c ms)) := ⟨fun k hk => fill_look mnd ((mmem k).mpr hk), fun k hk => (hclo k hk).no⟩
  have unR := fl.unify mT pk.wa pk.wb
  have rgR : RGw (fillRows tri c ms) := by
    have lt : ∀ k ∈ ms, k < 6 := fun k hk => (mmem k).mp hk
    have gg : ∀ k, k < 6 → Gw (put false c (apv tri k)) := fun k hk => (gv k hk).put fun j hj => (hclo j hj).g.w
    refine ⟨⟨by rw [fill_keys]; exact mnd, by unfold fillRows; rw [List.length_map]; omega, fun x hx => ?_⟩, fun x hx => ?_, fun k hk => by rw [fill_keys] at hk; exact lt k hk⟩
    · obtain ⟨k, hk, rfl⟩ := List.mem_map.mp hx
      have k6 := lt k hk
      refine gw_okt (gg k k6) ?_ ?_
      · have := size_put_le (w := false) (σ := c) (m := 4) (by decide) (apv tri k) fun j hj => (hclo j ((gv k k6).lt j hj)).sz
        have := sv k k6
        show size (put false c (apv tri k)) ≤ 200
        omega
      · have := depth_put_le (w := false) (σ := c) (m := 1) (apv tri k) fun j hj => (hclo j ((gv k k6).lt j hj)).g.dp
        have := dv k
        show depth (put false c (apv tri k)) ≤ 40
        omega
    · obtain ⟨k, hk, rfl⟩ := List.mem_map.mp hx
      exact gg k (lt k hk)
  refine ⟨_, rfl, _, rfl, _, rfl, v, u, D9, a, b, zs, fillRows tri c ms, rfl, ha6.mono (tst_same S79), hb6.mono (tst_same S79), oka, okb, .inl (.inl h9), hZ, rgR.ok, fun c10 H10 S10 hc10 => ⟨c10, true, rfl, rfl, _, rfl, ?_⟩⟩
  rw [hc10.mpr unR]
  refine iteB0 (notT rfl) ?_
  have S710 := same_trans S79 S10
  -- rows
  obtain ⟨ps, kvs, exs, g1, g2⟩ := rows_dict (hR6.mono (tst_same S710)) rg.ok.nd
  refine ⟨_, rfl, l, ps, kvs, rfl, .inl (.inl (by rw [← exs]; exact S710 _ _ hl6)), g1, fun dR hdR => ?_⟩
  have hTR := g2 dR hdR
  have S11 := same_new (H := H10) (p := dR) (o := .dK (mergeK [] kvs)) hdR
  have S711 := same_trans S710 S11
  have lkF : ∀ k, k < 6 → lk false (filD tri c) k = put false c (apv tri k) := fun k hk => fill_look List.nodup_range (List.mem_range.mpr hk)
  refine ⟨6, rfl, by decide, by decide, ?_⟩
  rw [show (6 : Int).toNat = 6 from rfl]
  refine for_range (fun i σ H' => (∃ o10, σ = [some (.ref p), some v, some u, some (.ref d), some (.ref l), some (.ref L4), o6, some (.ref dF), some (.ref D9), some (.ref dR), o10, none]) ∧ Same (upd H10 dR (.dK (mergeK [] kvs))) H') ⟨⟨none, rfl⟩, fun _ _ z => z⟩ (fun i σ H' hi hh => ?_) fun σ H' hh => ?_
  · obtain ⟨⟨o10, rfl⟩, S'⟩ := hh
    have hi : i < 6 := hi
    refine ⟨_, rfl, Nat.le_of_ble_eq_true rfl, fun p1 hp1 => ?_⟩
    have s1 := same_new (H := H') (p := p1) (o := .tup [.str "unknown", .int (0 + (i : Int))]) hp1
    have hvar : Rep K (upd H' p1 (.tup [.str "unknown", .int (0 + (i : Int))])) (.ref p1) (.var false i) := rep_zvar (.inl (.inl upd_same))
    refine ⟨_, rfl, _, _, dR, rowsOf triF ns, rfl, hvar, (Gw.var hi).wf, hTR.same (same_trans S' s1), by rw [depth]; omega, fun y1 H12 S12 hy1 => ?_⟩
    rw [put_var, elF] at hy1
    have s12 := same_trans s1 S12
    have gF := (Lnk.gw3 LF hi)
    have hTF12 := hTF.same (same_trans S711 (same_trans S' s12))
    refine ⟨_, rfl, y1, _, dF, filD tri c, rfl, hy1, gF.1.wf, hTF12, Nat.le_trans gF.2 (by decide), fun y2 H13 S13 hy2 => ?_⟩
    obtain ⟨z, gz, hz⟩ := (hTF12.same S13).yes (mem_look (by rw [kfil]; exact List.nodup_range) (List.mem_map_of_mem (List.mem_range.mpr hi)))
    have e1 : put false (lk false (filD tri c)) (apv triF i) = put false c (apv tri i) := by
      have e2 : put false (lk false (filD tri c)) (apv triF i) = put false (lk false (fillRows tri c ms)) (apv triF i) := put_congr _ fun k hk => by
        have k6 := gF.1.lt k hk
        rw [lkF k k6, fl.eq k k6]
      rw [e2, mF.back unR, fl.eq i hi]
    rw [e1] at hy2
    have wz := (rgR.ok.ok (i, put false c (apv tri i)) (List.mem_map_of_mem ((mmem i).mpr hi)))
    refine ⟨_, rfl, _, rfl, dF, z, rfl, by show DGet H13 dF (.int (0 + (i : Int))) _; rw [Int.zero_add]; exact gz, _, _, hy2, hz, lay_tyD _, lay_tyD _, depth_t wz.wf (Nat.le_trans wz.dp (by decide)), _, rfl, ?_⟩
    rw [eqv_T]
    exact iteF ⟨⟨_, rfl⟩, same_trans S' (same_trans s12 S13)⟩
  obtain ⟨⟨o10, rfl⟩, S12⟩ := hh
  have S712 := same_trans S711 S12
  -- left
  refine ⟨Nat.zero_le _, fun L13 hL13 => ?_⟩
  have S13' := same_new (H := H') (p := L13) (o := .lst []) hL13
  refine ⟨6, rfl, by decide, by decide, ?_⟩
  rw [show (6 : Int).toNat = 6 from rfl]
  have lf : ∀ i, i ≤ 6 → (allNums ((List.range i).map (apv tri))).length ≤ 36 := fun i hi => by
    have := allNums_len (ts := (List.range i).map (apv tri)) fun t ht => by
      obtain ⟨k, hk, rfl⟩ := List.mem_map.mp ht
      exact gv k (by have := List.mem_range.mp hk; omega)
    rw [List.length_map, List.length_range] at this
    omega
  refine for_range (fun i σ H'' => (∃ o10, σ = [some (.ref p), some v, some u, some (.ref d), some (.ref l), some (.ref L4), o6, some (.ref dF), some (.ref D9), some (.ref dR), o10, some (.ref L13)]) ∧ Same H' H'' ∧ H'' L13 = some (.lst ((allNums ((List.range i).map (apv tri))).map nV))) ⟨⟨_, rfl⟩, S13', upd_same⟩ (fun i σ H'' hi hh => ?_) fun σ H'' hh => ?_
  · obtain ⟨⟨o10', rfl⟩, S', hA⟩ := hh
    have hi : i < 6 := hi
    refine ⟨_, rfl, .inl ⟨rfl, _, .inl (.inl hA)⟩, ?_⟩
    refine ⟨_, rfl, _, rfl, Nat.le_of_ble_eq_true rfl, fun p1 hp1 => ?_⟩
    have s1 := same_new (H := H'') (p := p1) (o := .tup [.str "unknown", .int (0 + (i : Int))]) hp1
    have hvar : Rep K (upd H'' p1 (.tup [.str "unknown", .int (0 + (i : Int))])) (.ref p1) (.var false i) := rep_zvar (.inl (.inl upd_same))
    have dvi := dv i
    have dvi' : depth (ap tri (.var false i)) ≤ 24 := dvi
    refine ⟨.ref p1, _, d, Gw, tri, tri, 6, rfl, hvar, (Gw.var hi).wf, hT6.same (same_trans S712 (same_trans S' s1)), Ls, fun t g => g.wf, Ls.rank _, by omega, fun y1 H14 S14 hy1 => ?_⟩
    refine ⟨y1, _, rfl, hy1, (gv i hi).wf, few6 (gv i hi), by have : depth (apv tri i) ≤ 24 := dvi; show depth (apv tri i) ≤ 40; omega, fun m H15 S15 hm0 hm => ?_⟩
    have s15 := same_trans s1 (same_trans S14 S15)
    have hA15 := s15 _ _ hA
    have an : allNums ((List.range (i + 1)).map (apv tri)) = allNums ((List.range i).map (apv tri)) ++ nums false (apv tri i) := by
      rw [List.range_succ, List.map_append]; unfold allNums; rw [List.flatMap_append]; simp
    refine ⟨L13, m, _, _, rfl, rfl, hA15, hm, ?_, ⟨_, rfl⟩, same_mut (same_trans S' s15) hL13, ?_⟩
    · rw [List.length_map, List.length_map, sizeLine_eq]
      have := lf (i + 1) (by omega)
      rw [an, List.length_append] at this
      have e9 : (nums false (ap tri (.var false i))).length = (nums false (apv tri i)).length := rfl
      omega
    · rw [upd_same, an, List.map_append]; rfl
  obtain ⟨⟨o10', rfl⟩, S14, hA⟩ := hh
  have S714 := same_trans S712 S14
  have SZ := same_trans S10 (same_trans S11 (same_trans S12 S14))
  refine ⟨_, rfl, _, rfl, _, rfl, v, u, D9, a, b, zs, fillRows tri c ms, rfl, ha6.mono (tst_same S714), hb6.mono (tst_same S714), oka, okb, pk, .inl (.inl (SZ _ _ h9)), hZ.mono (tst_same SZ), rgR, fun H15 _ ne => absurd unR ne, fun c15 H15 raw15 tri15 S15 _ L15 m15 hc15 => ⟨c15, rfl, ?_⟩⟩
  refine ⟨_, rfl, Nat.zero_le _, fun e16 he16 => ?_⟩
  have S16 := same_new (H := H15) (p := e16) (o := .lst []) he16
  have hA16 := S16 _ _ (S15 _ _ hA)
  refine ⟨.list ((allNums ((List.range 6).map (apv tri))).map pI), .list [], .lst (.inl (.inl hA16)) (dp_nums _), .lst (.inl (.inl upd_same)) .nil, lay_nums _, lay_nil, depth_nums _, _, rfl, ?_⟩
  refine ⟨.str _, .str _, .str _, .str _, lay_bS _, lay_bS _, Nat.zero_le _, ?_⟩
  rw [eqv_str, eqv_nil]
  refine vT (Q := Q) ?_ (q _)
  refine pS_eq _ _ ?_
  have key := fl.most gv mT m15
  have cnt : (∃ ρ, ∀ k, Counts a b (fillRows tri c ms) k → put false ρ (lk false (fillRows tri c ms) k) = apv tri15 k) ↔ ∃ ρ, ∀ k, k < 6 → put false ρ (lk false (fillRows tri c ms) k) = apv tri15 k := by
    constructor
    · rintro ⟨ρ, h⟩; exact ⟨ρ, fun k hk => h k (.inr (.inr (.inr (by rw [fill_keys]; exact (mmem k).mpr hk))))⟩
    · rintro ⟨ρ, h⟩
      refine ⟨ρ, fun k hk => h k ?_⟩
      rcases hk with hk | hk | ⟨x, hx, hk⟩ | hk
      · exact pk.wa.lt k hk
      · exact pk.wb.lt k hk
      · exact (rgR.gw x hx).lt k hk
      · exact rgR.lt k hk
  have em : ((allNums ((List.range 6).map (apv tri))).map pI).isEmpty = true ↔ ∀ k, k < 6 → nums false (apv tri k) = [] := by
    rw [List.isEmpty_iff, List.map_eq_nil_iff]
    unfold allNums
    rw [List.flatMap_eq_nil_iff]
    constructor
    · intro h k hk; exact h _ (List.mem_map_of_mem (List.mem_range.mpr hk))
    · intro h t ht
      obtain ⟨k, hk, rfl⟩ := List.mem_map.mp ht
      exact h k (List.mem_range.mp hk)
  have := (hc15.trans cnt).trans (key.trans em.symm)
  cases c15 <;> cases hx : ((allNums ((List.range 6).map (apv tri))).map pI).isEmpty <;> simp_all
end
end UW

/-! law_right and law. -/
namespace UW
open PySem PySem.Spec PyProof.Rows L2 U UV UD UX
section
variable {P : Program} {w : World} {K : PySem.W.Frag} {mg : Str → Option Value} {base : Heap}

theorem show_two {a b : Ty} (ga : Gw a) (gb : Gw b) (da : depth a ≤ 4) (db : depth b ≤ 4) :
    PyData.showable (.list [tyD a, tyD b]) = true ∧ PyData.hasDict (.list [tyD a, tyD b]) = false ∧ PyData.depth (.list [tyD a, tyD b]) ≤ 62 ∧ (PyData.shown (.list [tyD a, tyD b])).length ≤ sizeLine := by
  have ha := shw_ty a ga.lt ga.nop
  have hb := shw_ty b gb.lt gb.nop
  have sa : size a ≤ 1024 := Nat.le_trans (size_le a ga.wf) (Nat.le_trans (pow_le (show depth a + 1 ≤ 5 by omega)) (by decide))
  have sb : size b ≤ 1024 := Nat.le_trans (size_le b gb.wf) (Nat.le_trans (pow_le (show depth b + 1 ≤ 5 by omega)) (by decide))
  have lay : PyData.canLay0 (.list [tyD a, tyD b]) = true := by
    rw [PyData.canLay0]
    exact lay_all fun d hd => by
      rcases List.mem_cons.mp hd with e | hd
      · rw [e]; exact lay_tyD _
      · rw [List.mem_singleton.mp hd]; exact lay_tyD _
  refine ⟨?_, PyData.hasDict_of_canLay _ lay, ?_, ?_⟩
  · rw [PyData.showable, PyData.showableAll, PyData.showableAll, PyData.showableAll, ha.sw, hb.sw]; rfl
  · rw [PyData.depth]
    have := depthAll_pd (n := 20) (ds := [tyD a, tyD b]) fun d hd => by
      have h1 := depth_tyD a ga.wf
      have h2 := depth_tyD b gb.wf
      rcases List.mem_cons.mp hd with e | hd
      · rw [e]; omega
      · rw [List.mem_singleton.mp hd]; omega
    omega
  · refine PyData.shown_fits (B := 8) (by decide) (by decide) ?_ ?_
    · rw [PyData.leavesShort, PyData.leavesShortAll, PyData.leavesShortAll, PyData.leavesShortAll, ha.sh, hb.sh]; rfl
    · rw [PyData.weight, PyData.weightAll, PyData.weightAll, PyData.weightAll]
      have := ha.wt
      have := hb.wt
      have e : (2 : Nat) ^ 20 = 1048576 := by decide
      omega
/-! ### numbers exchanged -/
def exD : Told := (List.range 6).map fun i => (i, .var false (5 - i))
theorem lk_ex : lk false exD = exF := by
  funext k
  unfold lk exF
  by_cases h : k < 6
  · rw [if_pos h]
    have hm : (k, Ty.var false (5 - k)) ∈ exD := List.mem_map_of_mem (f := fun i => (i, Ty.var false (5 - i))) (List.mem_range.mpr h)
    rw [mem_look (by decide) hm]; rfl
  · rw [if_neg h, look_keys (by
      intro z
      have : keys exD = List.range 6 := rfl
      rw [this] at z
      exact h (List.mem_range.mp z))]
    rfl
theorem ex_rok : ROk 40 exD := by
  refine ⟨by decide, by decide, fun q hq => ?_⟩
  obtain ⟨k, _, rfl⟩ := List.mem_map.mp hq
  refine ⟨by show wf (.var false (5 - k)); rw [wf]; trivial, fun j hj => (nomatch (occ_var.mp hj).1), by show size (.var false (5 - k)) ≤ 200; rw [size]; omega, by show depth (.var false (5 - k)) ≤ 40; rw [depth]; omega⟩
theorem ne_bools {H : Hp} {x y : Bool} {Q : Bool → Hp → Prop} (h : x = y) (q : Q false H) : rNeG K (.bl x) (.bl y) H fun z H' => ∃ k, z = .bl k ∧ Q k H' := by
  subst h
  refine ⟨.bool x, .bool x, .bl _, .bl _, rfl, rfl, by cases x <;> decide, _, rfl, ?_⟩
  rw [show PyData.eqv (.bool x) (.bool x) = true by cases x <;> rfl]
  exact q
theorem LU.iff0 {tri raw : Told} {a b : Ty} {r : Bool} (h : LU [] tri [a] [b] r) (L : Lnk (Gd 4) raw tri) : r = true ↔ ∃ θ : Nat → Ty, put false θ a = put false θ b := by
  constructor
  · intro e
    exact ⟨apv tri, one_map.mp ((h.yes e _).mp L.istri.sat).2⟩
  · rintro ⟨θ, hθ⟩
    cases r with
    | true => rfl
    | false => exact absurd (one_map.mpr hθ) (h.no rfl θ fun p hp => (nomatch hp))
theorem uni_of {H : Hp} {v u : V} {a b : Ty} {r : Bool} {Q : VK} (ha : Rep K H v a) (hb : Rep K H u b) (oa : Okt 40 a) (ob : Okt 40 b) (pk : POk a b) (so : r = true ↔ ∃ θ : Nat → Ty, put false θ a = put false θ b) (q : ∀ x H', Same H H' → (!decide (x = V.non)) = r → Q x H') : spUni K [v, u] H Q E0 := by
  refine ⟨v, u, a, b, rfl, ha, hb, oa, ob, pk, fun H' S no => q _ H' S ?_, fun H' l xs raw tri ns S _ _ _ _ mg => q _ H' S ?_⟩
  · rw [notT rfl]
    cases r with
    | false => rfl
    | true => obtain ⟨θ, e⟩ := so.mp rfl; exact absurd e (no θ)
  · rw [notF (fun z => nomatch z)]
    exact (so.mpr ⟨_, (mg.iff _).mp mg.tri.sat⟩).symm
abbrev rNotNone : R2 := fun x y H Q => y = .non ∧ Q (.bl (!decide (x = .non))) H
/-- (unified(..) is not None) != is_so -/
theorem t_uniA {σ : L2.St} {H : Hp} {ta : TA} {a b : Ty} {r : Bool} {j : Nat} {Qt : Bool → Hp → Prop} (hta : ∀ R : List V → Hp → Prop, (∀ v u H', Same H H' → Rep K H' v a → Rep K H' u b → R [v, u] H') → ta σ H R) (hj : σ[j]? = some (some (.bl r)))
    (oa : Okt 40 a) (ob : Okt 40 b) (pk : POk a b) (so : r = true ↔ ∃ θ : Nat → Ty, put false θ a = put false θ b) (q : ∀ H', Same H H' → Qt false H') : tTest (tOp (rNeG K) (tOp rNotNone (tCall (spUni K) [] E0 ta) (tC .non)) (tVar j)) σ H Qt :=
  hta _ fun v u H1 S1 ha hb => uni_of ha hb oa ob pk so fun x H2 S2 hx => ⟨rfl, _, hj, ne_bools hx (q H2 (same_trans S1 S2))⟩
/-- the same by keywords, the sides exchanged -/
theorem t_uniB {σ : L2.St} {H : Hp} {ta : TA} {a b : Ty} {r : Bool} {j : Nat} {Qt : Bool → Hp → Prop} (hta : ∀ R : List V → Hp → Prop, (∀ v u H', Same H H' → Rep K H' v a → Rep K H' u b → R [v, u] H') → ta σ H R) (hj : σ[j]? = some (some (.bl r)))
    (oa : Okt 40 a) (ob : Okt 40 b) (pk : POk b a) (so : r = true ↔ ∃ θ : Nat → Ty, put false θ b = put false θ a) (q : ∀ H', Same H H' → Qt false H') : tTest (tOp (rNeG K) (tOp rNotNone (fun σ H Q => ta σ H fun zs H2 => ∃ a b, zs = [a, b] ∧ spUni K [b, a] H2 Q E0) (tC .non)) (tVar j)) σ H Qt :=
  hta _ fun v u H1 S1 ha hb => ⟨v, u, rfl, uni_of hb ha ob oa pk so fun x H2 S2 hx => ⟨rfl, _, hj, ne_bools hx (q H2 (same_trans S1 S2))⟩⟩
def spR (K : PySem.W.Frag) : Sp := fun vs H Q _ => ∃ p : Addr, vs = [.ref p] ∧ Pot H p ∧ ∀ H', Q (.bl true) H'
theorem ok_law_right (D : Defs K mg) (KB : Kws D) : FnG P w K mg base 230 D.law_right.a D.law_right.fd ["_law_pot_here"] (spR K) := by
  have G_law_two := ok_law_two (P := P) (w := w) (base := base) D
  have G_law_unite := ok_law_unite (P := P) (w := w) (base := base) D 184
  have G_law_open := ok_law_open (P := P) (w := w) (base := base) D 40
  have G_law_size := ok_law_size (P := P) (w := w) (base := base) D 40
  have G_unified := ok_unified (P := P) (w := w) (base := base) D
  have G_law_general_right := ok_law_general_right (P := P) (w := w) (base := base) D KB
  have G_replaced := ok_replaced (P := P) (w := w) (base := base) D
  have G_law_put := ok_law_put (P := P) (w := w) (base := base) D 40
  have G_law_told_right := ok_law_told_right (P := P) (w := w) (base := base) D
  have sc := sc_law_right
  refine okG D.law_right.F sc (fun vs H Q E h => ?_) (fun cdv A outer s H vs Q hg hr h => ?_)
  · obtain ⟨p, rfl, _⟩ := h
    rfl
  obtain ⟨p, rfl, hp, q⟩ := h
  refine ⟨_, (pss_cons (ps_asg (pcall D.law_two G_law_two (hr.mono (by omega)) (by rfl) (pa_cons (pv 0) pa_nil)) (pg_tup rfl (pgs_cons (pg_name (i := 1) sc.nd rfl (Or.inl rfl)) (pgs_cons (pg_name (i := 2) sc.nd rfl (Or.inl rfl)) pgs_nil))))
      (pss_cons (ps_asg (pe_tup (pa_cons (pe_callB (UR.cr_reprD hg (Room.units hr)) (by rfl) D.z_repr (by decide +kernel) (pa_cons (pe_lst (pa_cons (pv 1) (pa_cons (pv 2) pa_nil))) pa_nil)) (pa_cons pe_dnewK pa_nil))) (pg_tup rfl (pgs_cons (pg_name (i := 3) sc.nd rfl (Or.inl rfl)) (pgs_cons (pg_name (i := 4) sc.nd rfl (Or.inr rfl)) pgs_nil))))
      (pss_cons (ps_set (i := 5) sc.nd rfl (Or.inl rfl) (pcall D.law_unite G_law_unite (hr.mono (by omega)) (by rfl) (pa_cons (pv 4) (pa_cons (pv 1) (pa_cons (pv 2) pa_nil)))))
      (pss_cons (ps_set (i := 6) sc.nd rfl (Or.inl rfl) (pe_op op_cat (pe_lst (pa_cons (pv 1) (pa_cons (pv 2) pa_nil))) (pe_lc (own := [("_law_number", 8)]) rfl sc.nd (pi_range1 rfl D.z_range (pa_cons pe_int pa_nil)) (blkOk_by (own := [("_law_number", 8)]) (N := ["_law_pot_here", "_law_one", "_law_other", "_law_shown", "_law_told", "_law_is_so", "_law_opened", "_law_late", "_law_number"]) (sc := defScope s_law_right) (by decide +kernel)) (fun _ _ _ _ _ => (pg_name (i := 8) sc.nd rfl (Or.inl rfl))) (fun _ _ _ _ _ => pts_nil) (fun _ _ _ _ _ => (pe_tup (pa_cons pe_str (pa_cons (pv 8) pa_nil)))))))
      (pss_cons (ps_if (pt_cmpR op_gt (pe_callB (cr_max rfl) (by rfl) D.z_max (by decide +kernel) (pa_cons (pe_lc (own := [("_law_late", 7)]) rfl sc.nd (pi_list (pv 6)) (blkOk_by (own := [("_law_late", 7)]) (N := ["_law_pot_here", "_law_one", "_law_other", "_law_shown", "_law_told", "_law_is_so", "_law_opened", "_law_late", "_law_number"]) (sc := defScope s_law_right) (by decide +kernel)) (fun _ _ _ _ _ => (pg_name (i := 7) sc.nd rfl (Or.inl rfl))) (fun _ _ _ _ _ => pts_nil) (fun _ _ _ _ _ => (pcall D.law_size G_law_size (hr.mono (by omega)) (by rfl) (pa_cons (pcall D.law_open G_law_open (hr.mono (by omega)) (by rfl) (pa_cons (pv 4) (pa_cons (pv 7) pa_nil))) pa_nil)))) pa_nil)) pe_int (nomark _)) (pss_one (ps_ret pe_bl)) pss_nil)
      (pss_cons (ps_if (PW.pt (pw_or (pt_cmpR (op_neG (room_eq hr)) (pe_cmpR op_notN (pcall D.unified G_unified (hr.mono (by omega)) (by rfl) (pa_cons (pv 1) (pa_cons (pv 2) pa_nil))) pe_non (nomark _)) (pv 5) (nomark _)) (pw_or1 (pt_cmpR (op_neG (room_eq hr)) (pe_cmpR op_notN (pcallK2 D.unified G_unified (hr.mono (by omega)) KB.unified (by rfl) (pk_cons (pv 1) (pk_cons (pv 2) pk_nil))) pe_non (nomark _)) (pv 5) (nomark _))))) (pss_one (ps_ret pe_bl)) pss_nil)
      (pss_cons (ps_if (PW.pt (pw_or (pt_not (pt_val (pcallG hg D.law_general_right G_law_general_right (hr.mono (by omega)) (by rfl) (pa_cons (pv 1) pa_nil)))) (pw_or1 (pt_cmpR op_ne (pe_callB (UR.cr_reprD hg (Room.units hr)) (by rfl) D.z_repr (by decide +kernel) (pa_cons (pe_lst (pa_cons (pv 1) (pa_cons (pv 2) pa_nil))) pa_nil)) (pv 3) (nomark _))))) (pss_one (ps_ret pe_bl)) pss_nil)
      (pss_cons (ps_setLc (i := 7) (own := [("_law_number", 8)]) rfl sc.nd rfl rfl (sw_true rfl rfl rfl (by decide +kernel)) (pi_range1 rfl D.z_range (pa_cons pe_int pa_nil)) (blkOk_by (own := [("_law_number", 8)]) (N := ["_law_pot_here", "_law_one", "_law_other", "_law_shown", "_law_told", "_law_is_so", "_law_opened", "_law_late", "_law_number"]) (sc := defScope s_law_right) (by decide +kernel)) (fun _ _ _ _ _ => (pg_name (i := 8) sc.nd rfl (Or.inl rfl))) (fun _ _ _ _ _ => pts_nil) (fun _ _ _ _ _ => (pe_tup (pa_cons (pv 8) (pa_cons (pe_tup (pa_cons pe_str (pa_cons (pe_op op_sub pe_int (pv 8)) pa_nil))) pa_nil)))))
      (pss_cons (ps_if (PW.pt (pw_or (pt_cmpR (op_neG (room_eq hr)) (pcall D.replaced G_replaced (hr.mono (by omega)) (by rfl) (pa_cons (pv 1) (pa_cons (pv 7) pa_nil))) (pcall D.law_put G_law_put (hr.mono (by omega)) (by rfl) (pa_cons (pv 1) (pa_cons (pe_callTy (call_dictP rfl) (by rfl) D.z_dict (by decide +kernel) (pa_cons (pv 7) pa_nil)) pa_nil))) (nomark _)) (pw_or1 (pt_cmpR (op_neG (room_eq hr)) (pcall D.replaced G_replaced (hr.mono (by omega)) (by rfl) (pa_cons (pcall D.replaced G_replaced (hr.mono (by omega)) (by rfl) (pa_cons (pv 1) (pa_cons (pv 7) pa_nil))) (pa_cons (pe_callTy call_tuple_of (by rfl) D.z_tuple (by decide +kernel) (pa_cons (pv 7) pa_nil)) pa_nil))) (pv 1) (nomark _))))) (pss_one (ps_ret pe_bl)) pss_nil)
      (pss_cons (ps_if (pt_cmpR (op_neG (room_eq hr)) (pe_cmpR op_notN (pcall D.unified G_unified (hr.mono (by omega)) (by rfl) (pa_cons (pcall D.replaced G_replaced (hr.mono (by omega)) (by rfl) (pa_cons (pv 1) (pa_cons (pv 7) pa_nil))) (pa_cons (pcall D.replaced G_replaced (hr.mono (by omega)) (by rfl) (pa_cons (pv 2) (pa_cons (pv 7) pa_nil))) pa_nil))) pe_non (nomark _)) (pv 5) (nomark _)) (pss_one (ps_ret pe_bl)) pss_nil)
      (pss_one (ps_ret (pe_or (pe_not (pv 5)) (pe_one (pcall D.law_told_right G_law_told_right (hr.mono (by omega)) (by rfl) (pa_cons (pv 0) (pa_cons (pv 1) (pa_cons (pv 2) (pa_cons (pv 4) pa_nil))))))))))))))))))), ?_⟩
  refine ⟨_, rfl, p, rfl, hp, fun a0 v u a b H1 B1 hp1 hS1 ha1 hb1 pk => ⟨a0, _, rfl, hS1, rfl, _, _, rfl, _, _, rfl, rfl, ?_⟩⟩
  have da : depth a ≤ 4 ∧ depth b ≤ 4 := by rcases pk.dp with ⟨h1, h2⟩ | ⟨h1, h2, _⟩ <;> omega
  obtain ⟨w1, w2, w3, w4⟩ := show_two pk.wa pk.wb da.1 da.2
  -- shown, told
  refine ⟨_, rfl, _, rfl, Nat.le_of_ble_eq_true rfl, fun l2 hl2 => ?_⟩
  have S2 := same_new (H := H1) (p := l2) (o := .lst [v, u]) hl2
  refine ⟨l2, .list [tyD a, tyD b], rfl, .lst (.inl (.inl upd_same)) (.cons (ha1.mono (tst_same S2)) (.cons (hb1.mono (tst_same S2)) .nil)), w1, w2, w3, w4, ?_⟩
  intro d hd
  have S3 := same_new (p := d) (o := .dK []) hd
  refine ⟨Nat.le_of_ble_eq_true rfl, fun t4 ht4 => ⟨t4, _, rfl, .inl (.inl upd_same), rfl, _, _, rfl, _, _, rfl, rfl, ?_⟩⟩
  have S4 := same_new (p := t4) (o := .tup [.str (PyData.shown (.list [tyD a, tyD b])), .ref d]) ht4
  have S34 := same_trans S3 S4
  have S24 := same_trans S2 S34
  have hp4 := hp1.same S24
  have npd : p ≠ d := (hp1.same S2).fresh hd
  have hT4 : TolD K _ d [] := TolD.same ⟨[], upd_same, DictIs.nil⟩ S4
  have ha4 := ha1.mono (tst_same S24)
  have hb4 := hb1.mono (tst_same S24)
  have ga4 : Gd 4 a := ⟨pk.wa.wf, pk.wa.nop, pk.wa.lt, da.1⟩
  have gb4 : Gd 4 b := ⟨pk.wb.wf, pk.wb.nop, pk.wb.lt, da.2⟩
  have mu0 : mU [] a ≤ 184 := by
    have := da.1
    show 30 * (6 - 0) + depth a ≤ 184
    omega
  refine ⟨_, rfl, _, rfl, _, rfl, d, v, u, a, b, [], [], rfl, ha4, hb4, hT4, .nil, Via.of ga4, Via.of gb4, pk.wa, pk.wb, mu0, fun r H5 raw tri B5 hT5 L _ lu => ?_⟩
  have T5 := tst_d B5 hT4
  have hp5 := hp4.but B5 npd
  have ha5 := ha4.mono T5
  have hb5 := hb4.mono T5
  have so := LU.iff0 lu L
  -- opened
  refine ⟨_, rfl, _, rfl, Nat.le_of_ble_eq_true rfl, fun l6 hl6 => ?_⟩
  have S6 := same_new (H := H5) (p := l6) (o := .lst [v, u]) hl6
  refine ⟨6, rfl, by decide, by decide, fun l7 hl7 => ?_⟩
  refine lc_tys (K := K) (f := fun i => .var false i) (walk_range (lo := 0) (n := 6)) hl7 (by decide) (fun _ _ => trivial) (fun i x H' H'' Q2 N hi S y hq => ?_) fun H7 ys S7 h7 hY => ?_
  · obtain ⟨rfl, rfl⟩ := y
    refine ⟨rfl, yes_run ?_⟩
    exact ⟨_, rfl, Nat.le_of_ble_eq_true rfl, fun p1 hp1 => hq _ _ (same_new hp1) (rep_zvar (.inl (.inl upd_same)))⟩
  have yl := hY.length
  rw [List.length_map, List.length_range] at yl
  refine ⟨l6, l7, _, _, rfl, rfl, S7 _ _ upd_same, h7, by rw [yl, sizeLine_eq]; simp, fun l8 hl8 => ?_⟩
  have S8 := same_new (H := H7) (p := l8) (o := .lst ([v, u] ++ ys)) hl8
  have S58 := same_trans S6 (same_trans S7 S8)
  have ha8 := ha5.mono (tst_same S58)
  have hb8 := hb5.mono (tst_same S58)
  have hAll : Reps K (upd H7 l8 (.lst ([v, u] ++ ys))) ([v, u] ++ ys) ([a, b] ++ (List.range 6).map fun i => Ty.var false i) := Reps.append (.cons ha8 (.cons hb8 .nil)) (hY.mono (tst_same S8))
  have gall : ∀ t ∈ [a, b] ++ (List.range 6).map (fun i => Ty.var false i), Gd 4 t := fun t ht => by
    rcases List.mem_append.mp ht with ht | ht
    · rcases List.mem_cons.mp ht with e | ht
      · rw [e]; exact ga4
      · rw [List.mem_singleton.mp ht]; exact gb4
    · obtain ⟨k, hk, rfl⟩ := List.mem_map.mp ht
      exact Gd.var (List.mem_range.mp hk)
  have Ls := L.selfw fun t g => g.w
  have gtri := L.gw fun t g => g.w
  have hT8 := hT5.same S58
  -- the sizes
  refine ⟨_, rfl, l8, rfl, ⟨_, .inl (.inl upd_same)⟩, fun l9 hl9 => ?_⟩
  refine lc_list (xs := [v, u] ++ ys) (fun i H' => Same (upd H7 l8 (.lst ([v, u] ++ ys))) H' ∧ H' l9 = some (.lst ((([a, b] ++ (List.range 6).map fun i => Ty.var false i).take i).map fun t => nV (size (ap tri t))))) ⟨same_new hl9, upd_same⟩ (fun i H' _ hh => .inl (.inl (hh.1 _ _ upd_same))) (fun i x H' e hh => ?_) fun H9 hh => ?_
  · obtain ⟨S, hA⟩ := hh
    obtain ⟨t, et, ht⟩ := hAll.at e
    have gt := gall t (List.mem_of_getElem? et)
    have dd := L.depth_le (d := 4) (fun t g => g.dp) 6 t (L.rank t)
    have dt := gt.dp
    refine ⟨rfl, yes_run ?_⟩
    refine ⟨_, rfl, _, rfl, x, t, d, Gw, tri, tri, 6, rfl, ht.mono (tst_same S), gt.wf, hT8.same S, Ls, fun t g => g.wf, Ls.rank t, by omega, fun y1 H10 S10 hy1 => ?_⟩
    refine ⟨y1, _, rfl, hy1, (Gw.ap gtri gt.w).wf, by omega, fun H11 S11 => ?_⟩
    have S' := same_trans S10 S11
    refine ⟨_, S' _ _ hA, ?_, same_mut (same_trans S S') hl9, ?_⟩
    · rw [List.length_map, List.length_take, sizeLine_eq, List.length_append, List.length_map, List.length_range]
      simp only [List.length_cons, List.length_nil]
      omega
    · rw [upd_same, List.take_add_one, et, List.map_append]; rfl
  obtain ⟨S9, hA9⟩ := hh
  have lall : ([v, u] ++ ys).length = ([a, b] ++ (List.range 6).map fun i => Ty.var false i).length := hAll.length
  rw [lall, List.take_length] at hA9
  refine ⟨l9, ([a, b] ++ (List.range 6).map fun i => Ty.var false i).map (fun t => ((size (ap tri t) : Nat) : Int)), rfl, .inl (.inl (by rw [List.map_map]; exact hA9)), by rw [List.length_map]; simp, fun m hm hmax => ⟨_, _, rfl, rfl, _, rfl, ?_⟩⟩
  by_cases hbig : (49 : Int) < m
  · exact iteB1 (decide_eq_true hbig) (q _)
  refine iteB0 (decide_eq_false hbig) ?_
  have small : ∀ t ∈ [a, b] ++ (List.range 6).map (fun i => Ty.var false i), size (ap tri t) ≤ 49 := fun t ht => by
    have := hmax _ (List.mem_map_of_mem (f := fun t => ((size (ap tri t) : Nat) : Int)) ht)
    omega
  have sa := small a (by simp)
  have sb := small b (by simp)
  have sv : ∀ k, k < 6 → size (apv tri k) ≤ 49 := fun k hk => small (.var false k) (List.mem_append_right _ (List.mem_map_of_mem (f := fun i => Ty.var false i) (List.mem_range.mpr hk)))
  have sza : size a ≤ 49 := Nat.le_trans (by rw [ap_put]; exact size_put_ge a) sa
  have szb : size b ≤ 49 := Nat.le_trans (by rw [ap_put]; exact size_put_ge b) sb
  have oka : Okt 40 a := gw_okt pk.wa (by omega) (by omega)
  have okb : Okt 40 b := gw_okt pk.wb (by omega) (by omega)
  have S59 := same_trans S58 S9
  clear hmax hA9 hAll hY lall small hm hbig
  have ha9 := ha8.mono (tst_same S9)
  have hb9 := hb8.mono (tst_same S9)
  have nba : (r = true ↔ ∃ θ : Nat → Ty, put false θ b = put false θ a) := so.trans ⟨fun ⟨θ, e⟩ => ⟨θ, e.symm⟩, fun ⟨θ, e⟩ => ⟨θ, e.symm⟩⟩
  refine t_uniA (K := K) (ta := tCons (tVar 1) (tCons (tVar 2) tNil)) (j := 5) (a := a) (b := b) (r := r) (fun R r => ?_) ?_ oka okb pk so fun H10 S10 => ?_
  · exact ⟨_, rfl, _, rfl, r v u H9 (fun _ _ z => z) ha9 hb9⟩
  · rfl
  refine iteF ?_
  have ha10 := ha9.mono (tst_same S10)
  have hb10 := hb9.mono (tst_same S10)
  refine t_uniB (K := K) (ta := tCons (tVar 1) (tCons (tVar 2) tNil)) (j := 5) (a := a) (b := b) (r := r) (fun R r => ?_) ?_ oka okb pk.symm nba fun H11 S11 => ?_
  · exact ⟨_, rfl, _, rfl, r v u H10 (fun _ _ z => z) ha10 hb10⟩
  · rfl
  refine iteF ?_
  have S911 := same_trans S10 S11
  have ha11 := ha9.mono (tst_same S911)
  have hb11 := hb9.mono (tst_same S911)
  -- general ones
  refine ⟨_, rfl, v, a, rfl, ha11, pk.wa, sza, da.1, fun H12 S12 => ⟨_, rfl, iteF ?_⟩⟩
  have S912 := same_trans S911 S12
  refine ⟨_, rfl, _, rfl, Nat.le_of_ble_eq_true rfl, fun l13 hl13 => ?_⟩
  have S13 := same_new (H := H12) (p := l13) (o := .lst [v, u]) hl13
  have S913 := same_trans S912 S13
  have ha13 := ha9.mono (tst_same S913)
  have hb13 := hb9.mono (tst_same S913)
  refine ⟨l13, .list [tyD a, tyD b], rfl, .lst (.inl (.inl upd_same)) (.cons ha13 (.cons hb13 .nil)), w1, w2, w3, w4, _, rfl, rfl, _, rfl, ?_⟩
  refine iteB0 (notT rfl) ?_
  -- late
  refine ⟨6, rfl, by decide, by decide, fun L14 hL14 => ?_⟩
  refine lc_rows (K := K) (f := fun i => (i, .var false (5 - i))) (walk_range (lo := 0) (n := 6)) hL14 (by decide) (fun _ _ => trivial) (fun i x H' H'' Q2 N hi S y hq => ?_) fun H14 xs S14 h14 hR => ?_
  · obtain ⟨rfl, rfl⟩ := y
    refine ⟨rfl, yes_run ?_⟩
    refine ⟨_, rfl, _, rfl, _, _, rfl, rfl, Nat.le_of_ble_eq_true rfl, fun p1 hp1 => ⟨Nat.le_of_ble_eq_true rfl, fun p2 hp2 => ?_⟩⟩
    have e5 : V.int (5 - (0 + (i : Int))) = nV (5 - i) := by
      show V.int _ = V.int _
      rw [show (5 : Int) - (0 + (i : Int)) = ((5 - i : Nat) : Int) by omega]
    have s1 := same_new (H := H'') (p := p1) (o := .tup [.str "unknown", .int (5 - (0 + (i : Int)))]) hp1
    have s2 := same_new (H := upd H'' p1 (.tup [.str "unknown", .int (5 - (0 + (i : Int)))])) (p := p2) (o := .tup [.int (0 + (i : Int)), .ref p1]) hp2
    refine hq p2 _ (same_trans s1 s2) ?_
    show RowIs K (upd (upd H'' p1 (.tup [.str "unknown", .int (5 - (0 + (i : Int)))])) p2 (.tup [V.int (0 + (i : Int)), .ref p1])) p2 (i, .var false (5 - i))
    rw [e5, zadd]
    have hp2' : upd H'' p1 (.tup [.str "unknown", .int (5 - (0 + (i : Int)))]) p2 = none := hp2
    rw [e5] at hp2'
    exact row_new hp2' (Rep.mkVar (p := false) (.inl (.inl upd_same)))
  have hR : RowsAre K H14 xs exD := hR
  have S914 := same_trans S913 S14
  have ha14 := ha9.mono (tst_same S914)
  have hb14 := hb9.mono (tst_same S914)
  have exok : ∀ {t : Ty}, Okt 40 t → Gw t → Okt 40 (put false (lk false exD) t) := fun {t} o g => by
    rw [lk_ex]
    have := ex_size t
    have := ex_depth t
    have := o.sz
    have := o.dp
    exact gw_okt (ex_gw g) (by omega) (by omega)
  -- replaced(one, late) != put(one, dict(late))
  refine ⟨_, rfl, _, rfl, v, L14, a, xs, exD, rfl, ha14, oka, .inl (.inl (.inl h14)), hR, ex_rok, fun y1 H15 S15 hy1 => ?_⟩
  obtain ⟨ps, kvs, exs, g1, g2⟩ := rows_dict (hR.mono (tst_same S15)) ex_rok.nd
  refine ⟨_, rfl, _, rfl, L14, ps, kvs, rfl, .inl (.inl (by rw [← exs]; exact S15 _ _ h14)), g1, fun d16 hd16 => ?_⟩
  have hT16 := g2 d16 hd16
  have S16 := same_new (H := H15) (p := d16) (o := .dK (mergeK [] kvs)) hd16
  have S1516 := same_trans S15 S16
  refine ⟨v, a, d16, exD, rfl, ha14.mono (tst_same S1516), pk.wa.wf, hT16, by omega, fun y2 H17 S17 hy2 => ?_⟩
  have oke := exok oka pk.wa
  refine ⟨_, _, hy1.mono (tst_same (same_trans S16 S17)), hy2, lay_tyD _, lay_tyD _, depth_t oke.wf (by have := oke.dp; omega), _, rfl, ?_⟩
  rw [eqv_T]
  refine iteF ?_
  have S1417 := same_trans S1516 S17
  -- replaced(replaced(one, late), tuple(late)) != one
  have h17 := S1417 _ _ h14
  have hR17 := hR.mono (tst_same S1417)
  have ha17 := ha14.mono (tst_same S1417)
  have hb17 := hb14.mono (tst_same S1417)
  refine ⟨_, rfl, _, rfl, v, L14, a, xs, exD, rfl, ha17, oka, .inl (.inl (.inl h17)), hR17, ex_rok, fun y3 H18 S18 hy3 => ?_⟩
  refine ⟨_, rfl, L14, xs, rfl, .inl ⟨.inl (.inl (S18 _ _ h17)), fun c19 hc19 => ?_⟩⟩
  have S19 := same_new (H := H18) (p := c19) (o := .tup xs) hc19
  refine ⟨y3, c19, _, xs, exD, rfl, hy3.mono (tst_same S19), oke, .inr (.inl (.inl upd_same)), (hR17.mono (tst_same S18)).mono (tst_same S19), ex_rok, fun y4 H20 S20 hy4 => ?_⟩
  have S1820 := same_trans S18 (same_trans S19 S20)
  have ha20 := ha17.mono (tst_same S1820)
  have hb20 := hb17.mono (tst_same S1820)
  rw [lk_ex, ex_twice pk.wa] at hy4
  refine ⟨_, rfl, _, _, hy4, ha20, lay_tyD _, lay_tyD _, depth_t pk.wa.wf (by omega), _, rfl, ?_⟩
  rw [eqv_T]
  refine iteF ?_
  have h20 := S1820 _ _ h17
  have hR20 := hR17.mono (tst_same S1820)
  -- the replaced ones made one
  have okeb := exok okb pk.wb
  rw [lk_ex] at oke okeb
  refine t_uniA (K := K) (ta := tCons (tCall (spRepd K) [] E0 (tCons (tVar 1) (tCons (tVar 7) tNil))) (tCons (tCall (spRepd K) [] E0 (tCons (tVar 2) (tCons (tVar 7) tNil))) tNil)) (j := 5) (a := put false exF a) (b := put false exF b) (r := r) (fun R r => ?_) ?_ oke okeb (ex_pok pk) (so.trans (ex_unify pk.wa pk.wb).symm) fun H23 S2023 => ?_
  · refine ⟨_, rfl, _, rfl, v, L14, a, xs, exD, rfl, ha20, oka, .inl (.inl (.inl h20)), hR20, ex_rok, fun y5 H21 S21 hy5 => ?_⟩
    refine ⟨_, rfl, _, rfl, u, L14, b, xs, exD, rfl, hb20.mono (tst_same S21), okb, .inl (.inl (.inl (S21 _ _ h20))), hR20.mono (tst_same S21), ex_rok, fun y6 H22 S22 hy6 => ?_⟩
    rw [lk_ex] at hy5 hy6
    exact r y5 y6 H22 (same_trans S21 S22) (hy5.mono (tst_same S22)) hy6
  · rfl
  refine iteF ?_
  have S923 : Same H9 H23 := same_trans S914 (same_trans S1417 (same_trans S1820 S2023))
  have S523 := same_trans S59 S923
  -- not is_so or told_right
  refine ⟨_, rfl, r, rfl, !r, rfl, ?_⟩
  cases r with
  | false => exact iteT (q _)
  | true =>
    refine iteF ?_
    have mT : Mgu tri a b := ⟨L.istri, fun θ => by
      rw [lu.yes rfl θ, one_map]
      exact ⟨fun e => e.2, fun e => ⟨fun p hp => (nomatch hp), e⟩⟩⟩
    exact ⟨_, rfl, _, rfl, _, rfl, _, rfl, p, d, v, u, a, b, raw, tri, rfl, hp5.same S523, npd, ha5.mono (tst_same S523), hb5.mono (tst_same S523), pk, hT5.same S523, L, mT, sa, sb, sv, q⟩

/-! ### law -/
def spLaw (K : PySem.W.Frag) : Sp := fun vs H Q _ => ∃ (a : Addr) (ns : List Int), vs = [.ref a] ∧ SqL K H a (ns.map V.int) ∧ ∀ H', Q (.bl true) H'
theorem ok_law (D : Defs K mg) (KB : Kws D) : FnG P w K mg base 231 D.law.a D.law.fd ["_law_script"] (spLaw K) := by
  have G_law_right := ok_law_right (P := P) (w := w) (base := base) D KB
  have G_law_pot := ok_law_pot (P := P) (w := w) (base := base) D
  have sc := sc_law
  refine okG D.law.F sc (fun vs H Q E h => ?_) (fun cdv A outer s H vs Q hg hr h => ?_)
  · obtain ⟨a, ns, rfl, _⟩ := h
    rfl
  obtain ⟨a, ns, rfl, hS, q⟩ := h
  refine ⟨_, (pss_one (ps_ret (pcallG hg D.law_right G_law_right (hr.mono (by omega)) (by rfl) (pa_cons (pcall D.law_pot G_law_pot (hr.mono (by omega)) (by rfl) (pa_cons (pv 0) (pa_cons pe_int pa_nil))) pa_nil)))), ?_⟩
  exact ⟨_, rfl, a, ns, rfl, hS, fun p H' _ _ hp => ⟨p, rfl, hp, q⟩⟩
end
end UW

/-! From the promise of law to the goal that the head leaves. -/
namespace UZ
open PySem PySem.Spec PyProof.Rows L2 U UV UD UW
section
variable {P : Program} {w : World} {K : PySem.W.Frag} {mg mb : Str → Option Value} {k : Nat} {fa a : Addr} {fd : FuncData} {x : Str} {sp : Sp} {s : Shared} {vs : List Value} {ns : List Int}
/-- the script, where it is no object of the module -/
abbrev scr (vs : List Value) (ns : List Int) : HO := .frz { cls := .type "list", data := .seq vs.toArray } (.lst (ns.map V.int))
open Classical in
noncomputable def hpS (K : PySem.W.Frag) (a : Addr) (vs : List Value) (ns : List Int) : Hp := fun b => if b = a ∧ K.lookup a = none then some (scr vs ns) else none
theorem hpS_some {b : Addr} {u : HO} (h : hpS K a vs ns b = some u) : b = a ∧ K.lookup a = none ∧ u = scr vs ns := by
  unfold hpS at h
  split at h
  · rename_i c
    exact ⟨c.1, c.2, (Option.some.inj h).symm⟩
  · cases h
theorem hpS_none {b : Addr} (h : b = a → K.lookup a ≠ none) : hpS K a vs ns b = none := by
  unfold hpS
  rw [if_neg]
  rintro ⟨h1, h2⟩
  exact h h1 h2
theorem callG (KX : K.In s.heap) (hns : s.heap.Ns mainGlobals mg) (hb : s.heap.Ns builtinsNs mb) (hbb : ∀ x : Str, x ≠ "__name__" → mb x = bootBuiltins x) (hlim : s.heap.NoLimit) (hg : s.gens = #[])
    (ha : s.heap.get? a = some { cls := .type "list", data := .seq vs.toArray }) (hi : IntsAre vs ns) (hl : ns.length ≤ sizeLine) (hr : Room k callerA)
    (F : ∀ base : Heap, FnG P w K mg base k fa fd [x] sp) (hbind : ∀ (s : Shared) (u : Value), BindsTo s fd ⟨[u], []⟩ [(x, u)])
    (hsp : ∀ H : Hp, SqL K H a (ns.map V.int) → sp [.ref a] H (fun v _ => v = .bl true) E0) :
    codeAny (model P w) callerA (.call (.ref fa) ⟨[.ref a], []⟩) (fun r s' => r = .ok (.ret (.bool true)) ∧ OldK s.heap s'.heap ∧ s'.os = s.os ∧ AllBare s'.gens) s := by
  have rv : Vals (ns.map V.int) vs := vals_ints hi
  -- the heap's own part stays in the base
  have stays : ∀ {b : Addr} {o : Obj}, s.heap.get? b = some o → (b = a → K.lookup a ≠ none) → (hidT s.heap (hpS K a vs ns)).get? b = some o := fun e n => hidT_get e (hpS_none n)
  have dicts : ∀ {b : Addr} {m : Str → Option Value}, s.heap.Ns b m → (hidT s.heap (hpS K a vs ns)).Ns b m := fun {b m} q => by
    obtain ⟨o, es, ep, e, d, r⟩ := q
    refine ⟨o, es, ep, stays e fun z => ?_, d, r⟩
    subst z
    rw [ha] at e
    cases e
    cases d
  have kin : K.In (hidT s.heap (hpS K a vs ns)) := fun b o e => stays (KX b o e) fun z n => by
    subst z
    rw [n] at e; cases e
  have hM : Mod K mg (hidT s.heap (hpS K a vs ns)) := ⟨kin, dicts hns, ⟨mb, dicts hb, hbb⟩, by
    obtain ⟨mc, h1, h2⟩ := hlim
    exact ⟨mc, dicts h1, h2⟩⟩
  have hok : HOk P w (hpS K a vs ns) s.heap := fun b u e => by
    obtain ⟨rfl, _, rfl⟩ := hpS_some e
    exact ⟨ha, by rw [List.length_map]; exact hl, vs, _, rv, ha⟩
  have hS : SqL K (hpS K a vs ns) a (ns.map V.int) := by
    cases e : K.lookup a with
    | none =>
      refine .inl (.inr ⟨{ cls := .type "list", data := .seq vs.toArray }, ?_⟩)
      unfold hpS
      rw [if_pos ⟨rfl, e⟩]
    | some o =>
      have := KX a o e
      rw [ha] at this
      cases this
      exact .inr ⟨_, vs.toArray, _, e, rfl, rfl, rfl, by rw [List.size_toArray, ← rv.length, List.length_map]; exact hl, by simpa using rv⟩
  have e0 : Env0 P w K mg (hidT s.heap (hpS K a vs ns)) callerA [] s (hpS K a vs ns) := ⟨rfl, hM, fun b o e => of_hidT e, Nat.le_of_eq (hidT_size _ _), trivial, fun b hb => (nomatch hb), hok, .of_eq hg⟩
  refine codeAny_mono ((F _).run callerA [] s _ ⟨[.ref a], []⟩ [.ref a] [.ref a] _ rfl hr e0 (hbind s (.ref a)) (.cons rfl .nil) (hsp _ hS)) fun r s' fin => ?_
  match r, fin with
  | .error _, fin => exact False.elim fin
  | .ok .next, fin => exact False.elim fin
  | .ok .brk, fin => exact False.elim fin
  | .ok .cont, fin => exact False.elim fin
  | .ok (.ret u), ⟨v, H', os, bare, un, hok', rel, q⟩ =>
    obtain rfl : v = .bl true := q
    obtain rfl : u = Value.bool true := rel
    refine ⟨rfl, OldK.of_keep fun b o e => ?_, os, bare⟩
    cases t : hpS K a vs ns b with
    | none => exact un.keep b o e t (fun z => nomatch z) (fun z => nomatch z)
    | some u =>
      obtain ⟨rfl, _, rfl⟩ := hpS_some t
      obtain ⟨e1, _⟩ := hok' b _ (un.frzs b _ _ t)
      rw [ha] at e
      rw [← e]; exact e1
end
/-- what k_head leaves, from such a promise -/
theorem walkG {l : PySem.W.OpenLaw} {n k : Nat} {q : Program} {loose : List Str} {XP : (Str → Option Value) → Heap → Prop} {YP : World → Heap → Prop} {d : DefRec} {K : Params → PySem.W.Frag} {sp : PySem.W.Frag → Sp} {x : Str}
    (hn : l.most = some n) (hn2 : n ≤ sizeLine) (hdf : d.params.defaults = []) (hr : Room k callerA) (hY : ∀ (w : World) (h : Heap), YP w h → (K w.params).In h)
    (F : ∀ (w : World) (mg : Str → Option Value) (fa : Addr) (h : Heap), (K w.params).In h → h.Ns mainGlobals mg → mg d.name = some (.ref fa) →
      ∃ fd : FuncData, (∀ (s : Shared) (u : Value), BindsTo s fd ⟨[u], []⟩ [(x, u)]) ∧ ∀ base : Heap, FnG l.prog w (K w.params) mg base k fa fd [x] (sp (K w.params)))
    (hsp : ∀ (K : PySem.W.Frag) (H : Hp) (a : Addr) (ns : List Int), SqL K H a (ns.map V.int) → sp K [.ref a] H (fun v _ => v = .bl true) E0) :
    PySem.W.WalkO q loose XP YP l.row.toRowW d [] (fun f vs => PySem.call f vs) := by
  refine Att.attach_call hn hdf fun w s₀ s₁ mg mb fa o pm cd doc a vs ns G Y ho hd hcd hmg hobj hints hlen hg => ?_
  have KX := hY w _ Y
  obtain ⟨fd, hb, hF⟩ := F w mg fa _ KX G.T.g hmg
  exact callG KX G.T.g G.T.b G.T.builtins G.T.nolimit hg hobj hints (Nat.le_trans hlen hn2) hr hF hb fun H hS => hsp _ H a ns hS
end UZ

/-! All defs at once (printed by gen.py). -/
namespace UZ
open PySem PySem.Spec PyProof.Rows L2 U UV UD UW
section
variable {K : PySem.W.Frag} {h : Heap} {mg : Str → Option Value}
theorem dfMk {x : Str} {st : Stmt} {ps : List Str} {f : Addr} {oc : Value} {od an : Option Addr} {osl : Array (Option Value)} {kV doc pm cdv ct : Value} {R : Df K mg x st ps → Prop} (X : K.In h) (G : h.Ns mainGlobals mg)
    (a : PySem.W.nsIn K mainGlobals x = some (some (.ref f))) (l : K.lookup f = some ⟨oc, od, .func (PySem.W.fnOf x x (defArgs st) (defBody st) (defScope st) .none kV doc pm an cdv ct), osl⟩)
    (c : PySem.W.codeIn K cdv x = true) (k : PySem.W.keepIn K (.ref f) = true) (b : ∀ us : List Value, us.length = ps.length → bindArgs (PySem.W.fnOf x x (defArgs st) (defBody st) (defScope st) .none kV doc pm an cdv ct) ⟨us, []⟩ = pure (ps.zip us))
    (r : R ⟨f, _, fun_mk l c k, PySem.W.mg_of X G a, Binds.all b⟩) : ∃ d : Df K mg x st ps, R d := ⟨_, r⟩
theorem tupMk {x : Str} {f : Addr} {od : Option Addr} {osl : Array (Option Value)} {its : Array Value} {n : Nat} {xs : List V} (X : K.In h) (G : h.Ns mainGlobals mg) (a : PySem.W.nsIn K mainGlobals x = some (some (.ref f))) (l : K.lookup f = some ⟨.type "tuple", od, .seq its n, osl⟩)
    (hz : its.size ≤ sizeLine) (hv : Vals xs its.toList) : Nonempty (TupC K mg x xs) := ⟨⟨f, PySem.W.mg_of X G a, fun H => .inr ⟨_, its, n, l, rfl, rfl, hz, hv⟩⟩⟩
theorem all_mk
    (d_is_integer : ∃ d : Df K mg "is_integer" s_is_integer ["value"], True)
    (d_is_count : ∃ d : Df K mg "is_count" s_is_count ["value"], True)
    (d_is_list : ∃ d : Df K mg "is_list" s_is_list ["value"], True)
    (d_is_lettered : ∃ d : Df K mg "is_lettered" s_is_lettered ["value", "firsts"], True)
    (d_is_name : ∃ d : Df K mg "is_name" s_is_name ["value"], True)
    (d_is_big : ∃ d : Df K mg "is_big" s_is_big ["value"], True)
    (d_last_of_long : ∃ d : Df K mg "last_of_long" s_last_of_long ["value"], True)
    (d_is_long_name : ∃ d : Df K mg "is_long_name" s_is_long_name ["value"], True)
    (d_loose_within : ∃ d : Df K mg "loose_within" s_loose_within ["one"], True)
    (d_made_with : ∃ d : Df K mg "made_with" s_made_with ["one", "types"], True)
    (d_opened : ∃ d : Df K mg "opened" s_opened ["one", "told"], True)
    (d_with_unknowns : ∃ d : Df K mg "with_unknowns" s_with_unknowns ["one", "types"], True)
    (d_numbers_in : ∃ d : Df K mg "numbers_in" s_numbers_in ["one", "word"], True)
    (d_are_loose_within : ∃ d : Df K mg "are_loose_within" s_are_loose_within ["value", "word", "left"], True)
    (d_type_parts : ∃ d : Df K mg "type_parts" s_type_parts ["value", "word", "left"], True)
    (d_is_made_right : ∃ d : Df K mg "is_made_right" s_is_made_right ["value"], True)
    (d_is_loose_type : ∃ d : Df K mg "is_loose_type" s_is_loose_type ["value"], True)
    (d_is_scheme_of_type : ∃ d : Df K mg "is_scheme_of_type" s_is_scheme_of_type ["value"], True)
    (d_want_loose : ∃ d : Df K mg "want_loose" s_want_loose ["value"], True)
    (d_want_scheme : ∃ d : Df K mg "want_scheme" s_want_scheme ["value"], True)
    (d_general_of : ∃ d : Df K mg "general_of" s_general_of ["loose", "kept"], True)
    (d_matched : ∃ d : Df K mg "matched" s_matched ["one", "other", "word", "found"], True)
    (d_unknowns_of : ∃ d : Df K mg "unknowns_of" s_unknowns_of ["loose"], ∀ a : Value, bindArgs d.fd ⟨[], [("loose", a)]⟩ = (pure [("loose", a)] : Sem (List (Str × Value))))
    (d_general : ∃ d : Df K mg "general" s_general ["loose"], True)
    (d_is_instance : ∃ d : Df K mg "is_instance" s_is_instance ["scheme", "loose"], ∀ a b : Value, bindArgs d.fd ⟨[], [("loose", a), ("scheme", b)]⟩ = (pure [("scheme", b), ("loose", a)] : Sem (List (Str × Value))))
    (d_opened_head : ∃ d : Df K mg "opened_head" s_opened_head ["told", "one"], True)
    (d_stands_within : ∃ d : Df K mg "stands_within" s_stands_within ["told", "number", "one"], True)
    (d_tell_unknown : ∃ d : Df K mg "tell_unknown" s_tell_unknown ["told", "number", "one"], True)
    (d_unite : ∃ d : Df K mg "unite" s_unite ["told", "one", "other"], True)
    (d_is_replacement : ∃ d : Df K mg "is_replacement" s_is_replacement ["value"], True)
    (d_most_general : ∃ d : Df K mg "most_general" s_most_general ["one", "other"], True)
    (d_unifies : ∃ d : Df K mg "unifies" s_unifies ["one", "other", "value"], True)
    (d_goes_on_to : ∃ d : Df K mg "goes_on_to" s_goes_on_to ["one", "other", "value", "found"], True)
    (d_replaced : ∃ d : Df K mg "replaced" s_replaced ["loose", "parts"], True)
    (d_unified : ∃ d : Df K mg "unified" s_unified ["one", "other"], ∀ a b : Value, bindArgs d.fd ⟨[], [("other", a), ("one", b)]⟩ = (pure [("one", b), ("other", a)] : Sem (List (Str × Value))))
    (d_is_unifier : ∃ d : Df K mg "is_unifier" s_is_unifier ["one", "other", "value"], True)
    (d_is_most_general : ∃ d : Df K mg "is_most_general" s_is_most_general ["one", "other", "value"], True)
    (d_law_pot : ∃ d : Df K mg "_law_pot" s_law_pot ["_law_script", "_law_k"], True)
    (d_law_draw : ∃ d : Df K mg "_law_draw" s_law_draw ["_law_pot_here", "_law_many"], True)
    (d_law_pick : ∃ d : Df K mg "_law_pick" s_law_pick ["_law_pot_here", "_law_some"], True)
    (d_law_within : ∃ d : Df K mg "_law_within" s_law_within ["_law_one"], True)
    (d_law_made : ∃ d : Df K mg "_law_made" s_law_made ["_law_one", "_law_some"], True)
    (d_law_open : ∃ d : Df K mg "_law_open" s_law_open ["_law_told", "_law_one"], True)
    (d_law_numbers : ∃ d : Df K mg "_law_numbers" s_law_numbers ["_law_one"], True)
    (d_law_put : ∃ d : Df K mg "_law_put" s_law_put ["_law_one", "_law_some"], True)
    (d_law_unite : ∃ d : Df K mg "_law_unite" s_law_unite ["_law_told", "_law_one", "_law_other"], True)
    (d_law_loose : ∃ d : Df K mg "_law_loose" s_law_loose ["_law_pot_here", "_law_deep"], True)
    (d_law_alike : ∃ d : Df K mg "_law_alike" s_law_alike ["_law_one", "_law_other"], True)
    (d_law_two : ∃ d : Df K mg "_law_two" s_law_two ["_law_pot_here"], True)
    (d_law_filled : ∃ d : Df K mg "_law_filled" s_law_filled ["_law_pot_here", "_law_told"], True)
    (d_law_told_right : ∃ d : Df K mg "_law_told_right" s_law_told_right ["_law_pot_here", "_law_one", "_law_other", "_law_told"], True)
    (d_law_matched : ∃ d : Df K mg "_law_matched" s_law_matched ["_law_near", "_law_far", "_law_some"], True)
    (d_law_size : ∃ d : Df K mg "_law_size" s_law_size ["_law_one"], True)
    (d_law_general_right : ∃ d : Df K mg "_law_general_right" s_law_general_right ["_law_one"], True)
    (d_law_right : ∃ d : Df K mg "_law_right" s_law_right ["_law_pot_here"], True)
    (d_law : ∃ d : Df K mg "law" s_law ["_law_script"], ∀ u : Value, bindArgs d.fd ⟨[u], []⟩ = (pure [("_law_script", u)] : Sem (List (Str × Value))))
    (z_isinstance : mg "isinstance" = none)
    (z_len : mg "len" = none)
    (z_all : mg "all" = none)
    (z_tuple : mg "tuple" = none)
    (z_list : mg "list" = none)
    (z_dict : mg "dict" = none)
    (z_enumerate : mg "enumerate" = none)
    (z_zip : mg "zip" = none)
    (z_sorted : mg "sorted" = none)
    (z_set : mg "set" = none)
    (z_range : mg "range" = none)
    (z_abs : mg "abs" = none)
    (z_max : mg "max" = none)
    (z_divmod : mg "divmod" = none)
    (z_repr : mg "repr" = none)
    (z_sum : mg "sum" = none)
    (z_int : mg "int" = none)
    (z_bool : mg "bool" = none)
    (z_str : mg "str" = none)
    (c_MOST_TYPE_PARTS : ∃ t, mg "MOST_TYPE_PARTS" = some (.int 200 t))
    (c_MOST_REPLACED : ∃ t, mg "MOST_REPLACED" = some (.int 60 t))
    (c_MOST_LETTERS : ∃ t, mg "MOST_LETTERS" = some (.int 20 t))
    (c_DIGITS : ∃ t, mg "DIGITS" = some (.str "0123456789" t))
    (c_GREAT : ∃ t, mg "GREAT" = some (.str "ABCDEFGHIJKLMNOPQRSTUVWXYZ" t))
    (c_SMALL : ∃ t, mg "SMALL" = some (.str "abcdefghijklmnopqrstuvwxyz" t))
    (c_KEYWORDS : Nonempty (TupC K mg "KEYWORDS" [.str "and", .str "array", .str "ask", .str "at", .str "bool", .str "do", .str "else", .str "end", .str "exception", .str "exn", .str "false", .str "fn", .str "if", .str "in", .str "int", .str "let", .str "match", .str "mod", .str "module", .str "not", .str "of", .str "place", .str "raise", .str "rec", .str "ref", .str "same", .str "show", .str "size", .str "tell", .str "then", .str "true", .str "try", .str "type", .str "unit", .str "with"]))
    (c_ONE_KINDS : Nonempty (TupC K mg "ONE_KINDS" [.str "ref", .str "array"]))
    (c_PLAIN_KINDS : Nonempty (TupC K mg "PLAIN_KINDS" [.str "int", .str "bool", .str "unit", .str "exn"]))
    : ∃ D : Defs K mg, Kws D ∧ ∀ u : Value, bindArgs D.law.fd ⟨[u], []⟩ = (pure [("_law_script", u)] : Sem (List (Str × Value))) := by
  obtain ⟨d_is_integer, r_is_integer⟩ := d_is_integer
  obtain ⟨d_is_count, r_is_count⟩ := d_is_count
  obtain ⟨d_is_list, r_is_list⟩ := d_is_list
  obtain ⟨d_is_lettered, r_is_lettered⟩ := d_is_lettered
  obtain ⟨d_is_name, r_is_name⟩ := d_is_name
  obtain ⟨d_is_big, r_is_big⟩ := d_is_big
  obtain ⟨d_last_of_long, r_last_of_long⟩ := d_last_of_long
  obtain ⟨d_is_long_name, r_is_long_name⟩ := d_is_long_name
  obtain ⟨d_loose_within, r_loose_within⟩ := d_loose_within
  obtain ⟨d_made_with, r_made_with⟩ := d_made_with
  obtain ⟨d_opened, r_opened⟩ := d_opened
  obtain ⟨d_with_unknowns, r_with_unknowns⟩ := d_with_unknowns
  obtain ⟨d_numbers_in, r_numbers_in⟩ := d_numbers_in
  obtain ⟨d_are_loose_within, r_are_loose_within⟩ := d_are_loose_within
  obtain ⟨d_type_parts, r_type_parts⟩ := d_type_parts
  obtain ⟨d_is_made_right, r_is_made_right⟩ := d_is_made_right
  obtain ⟨d_is_loose_type, r_is_loose_type⟩ := d_is_loose_type
  obtain ⟨d_is_scheme_of_type, r_is_scheme_of_type⟩ := d_is_scheme_of_type
  obtain ⟨d_want_loose, r_want_loose⟩ := d_want_loose
  obtain ⟨d_want_scheme, r_want_scheme⟩ := d_want_scheme
  obtain ⟨d_general_of, r_general_of⟩ := d_general_of
  obtain ⟨d_matched, r_matched⟩ := d_matched
  obtain ⟨d_unknowns_of, r_unknowns_of⟩ := d_unknowns_of
  obtain ⟨d_general, r_general⟩ := d_general
  obtain ⟨d_is_instance, r_is_instance⟩ := d_is_instance
  obtain ⟨d_opened_head, r_opened_head⟩ := d_opened_head
  obtain ⟨d_stands_within, r_stands_within⟩ := d_stands_within
  obtain ⟨d_tell_unknown, r_tell_unknown⟩ := d_tell_unknown
  obtain ⟨d_unite, r_unite⟩ := d_unite
  obtain ⟨d_is_replacement, r_is_replacement⟩ := d_is_replacement
  obtain ⟨d_most_general, r_most_general⟩ := d_most_general
  obtain ⟨d_unifies, r_unifies⟩ := d_unifies
  obtain ⟨d_goes_on_to, r_goes_on_to⟩ := d_goes_on_to
  obtain ⟨d_replaced, r_replaced⟩ := d_replaced
  obtain ⟨d_unified, r_unified⟩ := d_unified
  obtain ⟨d_is_unifier, r_is_unifier⟩ := d_is_unifier
  obtain ⟨d_is_most_general, r_is_most_general⟩ := d_is_most_general
  obtain ⟨d_law_pot, r_law_pot⟩ := d_law_pot
  obtain ⟨d_law_draw, r_law_draw⟩ := d_law_draw
  obtain ⟨d_law_pick, r_law_pick⟩ := d_law_pick
  obtain ⟨d_law_within, r_law_within⟩ := d_law_within
  obtain ⟨d_law_made, r_law_made⟩ := d_law_made
  obtain ⟨d_law_open, r_law_open⟩ := d_law_open
  obtain ⟨d_law_numbers, r_law_numbers⟩ := d_law_numbers
  obtain ⟨d_law_put, r_law_put⟩ := d_law_put
  obtain ⟨d_law_unite, r_law_unite⟩ := d_law_unite
  obtain ⟨d_law_loose, r_law_loose⟩ := d_law_loose
  obtain ⟨d_law_alike, r_law_alike⟩ := d_law_alike
  obtain ⟨d_law_two, r_law_two⟩ := d_law_two
  obtain ⟨d_law_filled, r_law_filled⟩ := d_law_filled
  obtain ⟨d_law_told_right, r_law_told_right⟩ := d_law_told_right
  obtain ⟨d_law_matched, r_law_matched⟩ := d_law_matched
  obtain ⟨d_law_size, r_law_size⟩ := d_law_size
  obtain ⟨d_law_general_right, r_law_general_right⟩ := d_law_general_right
  obtain ⟨d_law_right, r_law_right⟩ := d_law_right
  obtain ⟨d_law, r_law⟩ := d_law
  obtain ⟨c_KEYWORDS⟩ := c_KEYWORDS
  obtain ⟨c_ONE_KINDS⟩ := c_ONE_KINDS
  obtain ⟨c_PLAIN_KINDS⟩ := c_PLAIN_KINDS
  exact ⟨⟨d_is_integer, d_is_count, d_is_list, d_is_lettered, d_is_name, d_is_big, d_last_of_long, d_is_long_name, d_loose_within, d_made_with, d_opened, d_with_unknowns, d_numbers_in, d_are_loose_within, d_type_parts, d_is_made_right, d_is_loose_type, d_is_scheme_of_type, d_want_loose, d_want_scheme, d_general_of, d_matched, d_unknowns_of, d_general, d_is_instance, d_opened_head, d_stands_within, d_tell_unknown, d_unite, d_is_replacement, d_most_general, d_unifies, d_goes_on_to, d_replaced, d_unified, d_is_unifier, d_is_most_general, d_law_pot, d_law_draw, d_law_pick, d_law_within, d_law_made, d_law_open, d_law_numbers, d_law_put, d_law_unite, d_law_loose, d_law_alike, d_law_two, d_law_filled, d_law_told_right, d_law_matched, d_law_size, d_law_general_right, d_law_right, d_law, z_isinstance, z_len, z_all, z_tuple, z_list, z_dict, z_enumerate, z_zip, z_sorted, z_set, z_range, z_abs, z_max, z_divmod, z_repr, z_sum, z_int, z_bool, z_str, c_MOST_TYPE_PARTS, c_MOST_REPLACED, c_MOST_LETTERS, c_DIGITS, c_GREAT, c_SMALL, c_KEYWORDS, c_ONE_KINDS, c_PLAIN_KINDS⟩, ⟨r_unified, r_unknowns_of, r_is_instance⟩, r_law⟩
theorem fin {P : Program} {w : World} {fa : Addr} (hfa : mg "law" = some (.ref fa)) (hD : ∃ D : Defs K mg, Kws D ∧ ∀ u : Value, bindArgs D.law.fd ⟨[u], []⟩ = (pure [("_law_script", u)] : Sem (List (Str × Value)))) :
    ∃ fd : FuncData, (∀ (s : Shared) (u : Value), BindsTo s fd ⟨[u], []⟩ [("_law_script", u)]) ∧ ∀ base : Heap, FnG P w K mg base 231 fa fd ["_law_script"] (spLaw K) := by
  obtain ⟨D, KB, hfd⟩ := hD
  have e := hfa.symm.trans D.law.m
  cases e
  exact ⟨D.law.fd, fun s u => .of_eq (hfd u), fun base => ok_law (P := P) (w := w) (base := base) D KB⟩
end
end UZ

open PySem PySem.W PyProof.Rows
set_option maxRecDepth 100000 in
set_option maxHeartbeats 0 in
theorem PySem.Challenge.cw_changedsame_k22_whole_types_made_one_holds : PySem.Challenge.rw_changedsame_k22_whole_types_made_one.Holds := by
  w_on; o_law; k_head; (case hw => w_witness2)
  k_fill
  refine UZ.walkG (l := PySem.Challenge.rw_changedsame_k22_whole_types_made_one) (n := 63) (k := 231) (x := "_law_script") (sp := UW.spLaw) rfl (by decide) rfl ⟨rfl, by decide, by decide⟩ (fun w h Y => PySem.W.kIn_of Y) ?F (fun K H a ns hS => ⟨a, ns, rfl, hS, fun _ => rfl⟩)
  case F =>
    intro w mg fa h KX G hmg
    refine' UZ.fin hmg (UZ.all_mk ?d_is_integer ?d_is_count ?d_is_list ?d_is_lettered ?d_is_name ?d_is_big ?d_last_of_long ?d_is_long_name ?d_loose_within ?d_made_with ?d_opened ?d_with_unknowns ?d_numbers_in ?d_are_loose_within ?d_type_parts ?d_is_made_right ?d_is_loose_type ?d_is_scheme_of_type ?d_want_loose ?d_want_scheme ?d_general_of ?d_matched ?d_unknowns_of ?d_general ?d_is_instance ?d_opened_head ?d_stands_within ?d_tell_unknown ?d_unite ?d_is_replacement ?d_most_general ?d_unifies ?d_goes_on_to ?d_replaced ?d_unified ?d_is_unifier ?d_is_most_general ?d_law_pot ?d_law_draw ?d_law_pick ?d_law_within ?d_law_made ?d_law_open ?d_law_numbers ?d_law_put ?d_law_unite ?d_law_loose ?d_law_alike ?d_law_two ?d_law_filled ?d_law_told_right ?d_law_matched ?d_law_size ?d_law_general_right ?d_law_right ?d_law ?z_isinstance ?z_len ?z_all ?z_tuple ?z_list ?z_dict ?z_enumerate ?z_zip ?z_sorted ?z_set ?z_range ?z_abs ?z_max ?z_divmod ?z_repr ?z_sum ?z_int ?z_bool ?z_str ?c_MOST_TYPE_PARTS ?c_MOST_REPLACED ?c_MOST_LETTERS ?c_DIGITS ?c_GREAT ?c_SMALL ?c_KEYWORDS ?c_ONE_KINDS ?c_PLAIN_KINDS)
    case d_is_integer =>
      refine' UZ.dfMk KX G ?a ?l ?c ?k ?b ?r; (case a => k_is); (case l => k_is); (case c => k_is); (case k => k_is); (case b => intro us hl; match us, hl with | [_], _ => rfl)
      (case r => exact trivial)
    case d_is_count =>
      refine' UZ.dfMk KX G ?a ?l ?c ?k ?b ?r; (case a => k_is); (case l => k_is); (case c => k_is); (case k => k_is); (case b => intro us hl; match us, hl with | [_], _ => rfl)
      (case r => exact trivial)
    case d_is_list =>
      refine' UZ.dfMk KX G ?a ?l ?c ?k ?b ?r; (case a => k_is); (case l => k_is); (case c => k_is); (case k => k_is); (case b => intro us hl; match us, hl with | [_], _ => rfl)
      (case r => exact trivial)
    case d_is_lettered =>
      refine' UZ.dfMk KX G ?a ?l ?c ?k ?b ?r; (case a => k_is); (case l => k_is); (case c => k_is); (case k => k_is); (case b => intro us hl; match us, hl with | [_, _], _ => rfl)
      (case r => exact trivial)
    case d_is_name =>
      refine' UZ.dfMk KX G ?a ?l ?c ?k ?b ?r; (case a => k_is); (case l => k_is); (case c => k_is); (case k => k_is); (case b => intro us hl; match us, hl with | [_], _ => rfl)
      (case r => exact trivial)
    case d_is_big =>
      refine' UZ.dfMk KX G ?a ?l ?c ?k ?b ?r; (case a => k_is); (case l => k_is); (case c => k_is); (case k => k_is); (case b => intro us hl; match us, hl with | [_], _ => rfl)
      (case r => exact trivial)
    case d_last_of_long =>
      refine' UZ.dfMk KX G ?a ?l ?c ?k ?b ?r; (case a => k_is); (case l => k_is); (case c => k_is); (case k => k_is); (case b => intro us hl; match us, hl with | [_], _ => rfl)
      (case r => exact trivial)
    case d_is_long_name =>
      refine' UZ.dfMk KX G ?a ?l ?c ?k ?b ?r; (case a => k_is); (case l => k_is); (case c => k_is); (case k => k_is); (case b => intro us hl; match us, hl with | [_], _ => rfl)
      (case r => exact trivial)
    case d_loose_within =>
      refine' UZ.dfMk KX G ?a ?l ?c ?k ?b ?r; (case a => k_is); (case l => k_is); (case c => k_is); (case k => k_is); (case b => intro us hl; match us, hl with | [_], _ => rfl)
      (case r => exact trivial)
    case d_made_with =>
      refine' UZ.dfMk KX G ?a ?l ?c ?k ?b ?r; (case a => k_is); (case l => k_is); (case c => k_is); (case k => k_is); (case b => intro us hl; match us, hl with | [_, _], _ => rfl)
      (case r => exact trivial)
    case d_opened =>
      refine' UZ.dfMk KX G ?a ?l ?c ?k ?b ?r; (case a => k_is); (case l => k_is); (case c => k_is); (case k => k_is); (case b => intro us hl; match us, hl with | [_, _], _ => rfl)
      (case r => exact trivial)
    case d_with_unknowns =>
      refine' UZ.dfMk KX G ?a ?l ?c ?k ?b ?r; (case a => k_is); (case l => k_is); (case c => k_is); (case k => k_is); (case b => intro us hl; match us, hl with | [_, _], _ => rfl)
      (case r => exact trivial)
    case d_numbers_in =>
      refine' UZ.dfMk KX G ?a ?l ?c ?k ?b ?r; (case a => k_is); (case l => k_is); (case c => k_is); (case k => k_is); (case b => intro us hl; match us, hl with | [_, _], _ => rfl)
      (case r => exact trivial)
    case d_are_loose_within =>
      refine' UZ.dfMk KX G ?a ?l ?c ?k ?b ?r; (case a => k_is); (case l => k_is); (case c => k_is); (case k => k_is); (case b => intro us hl; match us, hl with | [_, _, _], _ => rfl)
      (case r => exact trivial)
    case d_type_parts =>
      refine' UZ.dfMk KX G ?a ?l ?c ?k ?b ?r; (case a => k_is); (case l => k_is); (case c => k_is); (case k => k_is); (case b => intro us hl; match us, hl with | [_, _, _], _ => rfl)
      (case r => exact trivial)
    case d_is_made_right =>
      refine' UZ.dfMk KX G ?a ?l ?c ?k ?b ?r; (case a => k_is); (case l => k_is); (case c => k_is); (case k => k_is); (case b => intro us hl; match us, hl with | [_], _ => rfl)
      (case r => exact trivial)
    case d_is_loose_type =>
      refine' UZ.dfMk KX G ?a ?l ?c ?k ?b ?r; (case a => k_is); (case l => k_is); (case c => k_is); (case k => k_is); (case b => intro us hl; match us, hl with | [_], _ => rfl)
      (case r => exact trivial)
    case d_is_scheme_of_type =>
      refine' UZ.dfMk KX G ?a ?l ?c ?k ?b ?r; (case a => k_is); (case l => k_is); (case c => k_is); (case k => k_is); (case b => intro us hl; match us, hl with | [_], _ => rfl)
      (case r => exact trivial)
    case d_want_loose =>
      refine' UZ.dfMk KX G ?a ?l ?c ?k ?b ?r; (case a => k_is); (case l => k_is); (case c => k_is); (case k => k_is); (case b => intro us hl; match us, hl with | [_], _ => rfl)
      (case r => exact trivial)
    case d_want_scheme =>
      refine' UZ.dfMk KX G ?a ?l ?c ?k ?b ?r; (case a => k_is); (case l => k_is); (case c => k_is); (case k => k_is); (case b => intro us hl; match us, hl with | [_], _ => rfl)
      (case r => exact trivial)
    case d_general_of =>
      refine' UZ.dfMk KX G ?a ?l ?c ?k ?b ?r; (case a => k_is); (case l => k_is); (case c => k_is); (case k => k_is); (case b => intro us hl; match us, hl with | [_, _], _ => rfl)
      (case r => exact trivial)
    case d_matched =>
      refine' UZ.dfMk KX G ?a ?l ?c ?k ?b ?r; (case a => k_is); (case l => k_is); (case c => k_is); (case k => k_is); (case b => intro us hl; match us, hl with | [_, _, _, _], _ => rfl)
      (case r => exact trivial)
    case d_unknowns_of =>
      refine' UZ.dfMk KX G ?a ?l ?c ?k ?b ?r; (case a => k_is); (case l => k_is); (case c => k_is); (case k => k_is); (case b => intro us hl; match us, hl with | [_], _ => rfl)
      (case r => intros; rfl)
    case d_general =>
      refine' UZ.dfMk KX G ?a ?l ?c ?k ?b ?r; (case a => k_is); (case l => k_is); (case c => k_is); (case k => k_is); (case b => intro us hl; match us, hl with | [_], _ => rfl)
      (case r => exact trivial)
    case d_is_instance =>
      refine' UZ.dfMk KX G ?a ?l ?c ?k ?b ?r; (case a => k_is); (case l => k_is); (case c => k_is); (case k => k_is); (case b => intro us hl; match us, hl with | [_, _], _ => rfl)
      (case r => intros; rfl)
    case d_opened_head =>
      refine' UZ.dfMk KX G ?a ?l ?c ?k ?b ?r; (case a => k_is); (case l => k_is); (case c => k_is); (case k => k_is); (case b => intro us hl; match us, hl with | [_, _], _ => rfl)
      (case r => exact trivial)
    case d_stands_within =>
      refine' UZ.dfMk KX G ?a ?l ?c ?k ?b ?r; (case a => k_is); (case l => k_is); (case c => k_is); (case k => k_is); (case b => intro us hl; match us, hl with | [_, _, _], _ => rfl)
      (case r => exact trivial)
    case d_tell_unknown =>
      refine' UZ.dfMk KX G ?a ?l ?c ?k ?b ?r; (case a => k_is); (case l => k_is); (case c => k_is); (case k => k_is); (case b => intro us hl; match us, hl with | [_, _, _], _ => rfl)
      (case r => exact trivial)
    case d_unite =>
      refine' UZ.dfMk KX G ?a ?l ?c ?k ?b ?r; (case a => k_is); (case l => k_is); (case c => k_is); (case k => k_is); (case b => intro us hl; match us, hl with | [_, _, _], _ => rfl)
      (case r => exact trivial)
    case d_is_replacement =>
      refine' UZ.dfMk KX G ?a ?l ?c ?k ?b ?r; (case a => k_is); (case l => k_is); (case c => k_is); (case k => k_is); (case b => intro us hl; match us, hl with | [_], _ => rfl)
      (case r => exact trivial)
    case d_most_general =>
      refine' UZ.dfMk KX G ?a ?l ?c ?k ?b ?r; (case a => k_is); (case l => k_is); (case c => k_is); (case k => k_is); (case b => intro us hl; match us, hl with | [_, _], _ => rfl)
      (case r => exact trivial)
    case d_unifies =>
      refine' UZ.dfMk KX G ?a ?l ?c ?k ?b ?r; (case a => k_is); (case l => k_is); (case c => k_is); (case k => k_is); (case b => intro us hl; match us, hl with | [_, _, _], _ => rfl)
      (case r => exact trivial)
    case d_goes_on_to =>
      refine' UZ.dfMk KX G ?a ?l ?c ?k ?b ?r; (case a => k_is); (case l => k_is); (case c => k_is); (case k => k_is); (case b => intro us hl; match us, hl with | [_, _, _, _], _ => rfl)
      (case r => exact trivial)
    case d_replaced =>
      refine' UZ.dfMk KX G ?a ?l ?c ?k ?b ?r; (case a => k_is); (case l => k_is); (case c => k_is); (case k => k_is); (case b => intro us hl; match us, hl with | [_, _], _ => rfl)
      (case r => exact trivial)
    case d_unified =>
      refine' UZ.dfMk KX G ?a ?l ?c ?k ?b ?r; (case a => k_is); (case l => k_is); (case c => k_is); (case k => k_is); (case b => intro us hl; match us, hl with | [_, _], _ => rfl)
      (case r => intros; rfl)
    case d_is_unifier =>
      refine' UZ.dfMk KX G ?a ?l ?c ?k ?b ?r; (case a => k_is); (case l => k_is); (case c => k_is); (case k => k_is); (case b => intro us hl; match us, hl with | [_, _, _], _ => rfl)
      (case r => exact trivial)
    case d_is_most_general =>
      refine' UZ.dfMk KX G ?a ?l ?c ?k ?b ?r; (case a => k_is); (case l => k_is); (case c => k_is); (case k => k_is); (case b => intro us hl; match us, hl with | [_, _, _], _ => rfl)
      (case r => exact trivial)
    case d_law_pot =>
      refine' UZ.dfMk KX G ?a ?l ?c ?k ?b ?r; (case a => k_is); (case l => k_is); (case c => k_is); (case k => k_is); (case b => intro us hl; match us, hl with | [_, _], _ => rfl)
      (case r => exact trivial)
    case d_law_draw =>
      refine' UZ.dfMk KX G ?a ?l ?c ?k ?b ?r; (case a => k_is); (case l => k_is); (case c => k_is); (case k => k_is); (case b => intro us hl; match us, hl with | [_, _], _ => rfl)
      (case r => exact trivial)
    case d_law_pick =>
      refine' UZ.dfMk KX G ?a ?l ?c ?k ?b ?r; (case a => k_is); (case l => k_is); (case c => k_is); (case k => k_is); (case b => intro us hl; match us, hl with | [_, _], _ => rfl)
      (case r => exact trivial)
    case d_law_within =>
      refine' UZ.dfMk KX G ?a ?l ?c ?k ?b ?r; (case a => k_is); (case l => k_is); (case c => k_is); (case k => k_is); (case b => intro us hl; match us, hl with | [_], _ => rfl)
      (case r => exact trivial)
    case d_law_made =>
      refine' UZ.dfMk KX G ?a ?l ?c ?k ?b ?r; (case a => k_is); (case l => k_is); (case c => k_is); (case k => k_is); (case b => intro us hl; match us, hl with | [_, _], _ => rfl)
      (case r => exact trivial)
    case d_law_open =>
      refine' UZ.dfMk KX G ?a ?l ?c ?k ?b ?r; (case a => k_is); (case l => k_is); (case c => k_is); (case k => k_is); (case b => intro us hl; match us, hl with | [_, _], _ => rfl)
      (case r => exact trivial)
    case d_law_numbers =>
      refine' UZ.dfMk KX G ?a ?l ?c ?k ?b ?r; (case a => k_is); (case l => k_is); (case c => k_is); (case k => k_is); (case b => intro us hl; match us, hl with | [_], _ => rfl)
      (case r => exact trivial)
    case d_law_put =>
      refine' UZ.dfMk KX G ?a ?l ?c ?k ?b ?r; (case a => k_is); (case l => k_is); (case c => k_is); (case k => k_is); (case b => intro us hl; match us, hl with | [_, _], _ => rfl)
      (case r => exact trivial)
    case d_law_unite =>
      refine' UZ.dfMk KX G ?a ?l ?c ?k ?b ?r; (case a => k_is); (case l => k_is); (case c => k_is); (case k => k_is); (case b => intro us hl; match us, hl with | [_, _, _], _ => rfl)
      (case r => exact trivial)
    case d_law_loose =>
      refine' UZ.dfMk KX G ?a ?l ?c ?k ?b ?r; (case a => k_is); (case l => k_is); (case c => k_is); (case k => k_is); (case b => intro us hl; match us, hl with | [_, _], _ => rfl)
      (case r => exact trivial)
    case d_law_alike =>
      refine' UZ.dfMk KX G ?a ?l ?c ?k ?b ?r; (case a => k_is); (case l => k_is); (case c => k_is); (case k => k_is); (case b => intro us hl; match us, hl with | [_, _], _ => rfl)
      (case r => exact trivial)
    case d_law_two =>
      refine' UZ.dfMk KX G ?a ?l ?c ?k ?b ?r; (case a => k_is); (case l => k_is); (case c => k_is); (case k => k_is); (case b => intro us hl; match us, hl with | [_], _ => rfl)
      (case r => exact trivial)
    case d_law_filled =>
      refine' UZ.dfMk KX G ?a ?l ?c ?k ?b ?r; (case a => k_is); (case l => k_is); (case c => k_is); (case k => k_is); (case b => intro us hl; match us, hl with | [_, _], _ => rfl)
      (case r => exact trivial)
    case d_law_told_right =>
      refine' UZ.dfMk KX G ?a ?l ?c ?k ?b ?r; (case a => k_is); (case l => k_is); (case c => k_is); (case k => k_is); (case b => intro us hl; match us, hl with | [_, _, _, _], _ => rfl)
      (case r => exact trivial)
    case d_law_matched =>
      refine' UZ.dfMk KX G ?a ?l ?c ?k ?b ?r; (case a => k_is); (case l => k_is); (case c => k_is); (case k => k_is); (case b => intro us hl; match us, hl with | [_, _, _], _ => rfl)
      (case r => exact trivial)
    case d_law_size =>
      refine' UZ.dfMk KX G ?a ?l ?c ?k ?b ?r; (case a => k_is); (case l => k_is); (case c => k_is); (case k => k_is); (case b => intro us hl; match us, hl with | [_], _ => rfl)
      (case r => exact trivial)
    case d_law_general_right =>
      refine' UZ.dfMk KX G ?a ?l ?c ?k ?b ?r; (case a => k_is); (case l => k_is); (case c => k_is); (case k => k_is); (case b => intro us hl; match us, hl with | [_], _ => rfl)
      (case r => exact trivial)
    case d_law_right =>
      refine' UZ.dfMk KX G ?a ?l ?c ?k ?b ?r; (case a => k_is); (case l => k_is); (case c => k_is); (case k => k_is); (case b => intro us hl; match us, hl with | [_], _ => rfl)
      (case r => exact trivial)
    case d_law =>
      refine' UZ.dfMk KX G ?a ?l ?c ?k ?b ?r; (case a => k_is); (case l => k_is); (case c => k_is); (case k => k_is); (case b => intro us hl; match us, hl with | [_], _ => rfl)
      (case r => intros; rfl)
    case z_isinstance => exact PySem.W.mg_none_of KX G (by k_is)
    case z_len => exact PySem.W.mg_none_of KX G (by k_is)
    case z_all => exact PySem.W.mg_none_of KX G (by k_is)
    case z_tuple => exact PySem.W.mg_none_of KX G (by k_is)
    case z_list => exact PySem.W.mg_none_of KX G (by k_is)
    case z_dict => exact PySem.W.mg_none_of KX G (by k_is)
    case z_enumerate => exact PySem.W.mg_none_of KX G (by k_is)
    case z_zip => exact PySem.W.mg_none_of KX G (by k_is)
    case z_sorted => exact PySem.W.mg_none_of KX G (by k_is)
    case z_set => exact PySem.W.mg_none_of KX G (by k_is)
    case z_range => exact PySem.W.mg_none_of KX G (by k_is)
    case z_abs => exact PySem.W.mg_none_of KX G (by k_is)
    case z_max => exact PySem.W.mg_none_of KX G (by k_is)
    case z_divmod => exact PySem.W.mg_none_of KX G (by k_is)
    case z_repr => exact PySem.W.mg_none_of KX G (by k_is)
    case z_sum => exact PySem.W.mg_none_of KX G (by k_is)
    case z_int => exact PySem.W.mg_none_of KX G (by k_is)
    case z_bool => exact PySem.W.mg_none_of KX G (by k_is)
    case z_str => exact PySem.W.mg_none_of KX G (by k_is)
    case c_MOST_TYPE_PARTS => exact ⟨_, PySem.W.mg_of KX G (by k_is)⟩
    case c_MOST_REPLACED => exact ⟨_, PySem.W.mg_of KX G (by k_is)⟩
    case c_MOST_LETTERS => exact ⟨_, PySem.W.mg_of KX G (by k_is)⟩
    case c_DIGITS => exact ⟨_, PySem.W.mg_of KX G (by k_is)⟩
    case c_GREAT => exact ⟨_, PySem.W.mg_of KX G (by k_is)⟩
    case c_SMALL => exact ⟨_, PySem.W.mg_of KX G (by k_is)⟩
    case c_KEYWORDS =>
      refine' UZ.tupMk KX G ?a ?l ?z ?v; (case a => k_is); (case l => k_is); (case z => decide); (case v => exact .cons ⟨_, rfl⟩ (.cons ⟨_, rfl⟩ (.cons ⟨_, rfl⟩ (.cons ⟨_, rfl⟩ (.cons ⟨_, rfl⟩ (.cons ⟨_, rfl⟩ (.cons ⟨_, rfl⟩ (.cons ⟨_, rfl⟩ (.cons ⟨_, rfl⟩ (.cons ⟨_, rfl⟩ (.cons ⟨_, rfl⟩ (.cons ⟨_, rfl⟩ (.cons ⟨_, rfl⟩ (.cons ⟨_, rfl⟩ (.cons ⟨_, rfl⟩ (.cons ⟨_, rfl⟩ (.cons ⟨_, rfl⟩ (.cons ⟨_, rfl⟩ (.cons ⟨_, rfl⟩ (.cons ⟨_, rfl⟩ (.cons ⟨_, rfl⟩ (.cons ⟨_, rfl⟩ (.cons ⟨_, rfl⟩ (.cons ⟨_, rfl⟩ (.cons ⟨_, rfl⟩ (.cons ⟨_, rfl⟩ (.cons ⟨_, rfl⟩ (.cons ⟨_, rfl⟩ (.cons ⟨_, rfl⟩ (.cons ⟨_, rfl⟩ (.cons ⟨_, rfl⟩ (.cons ⟨_, rfl⟩ (.cons ⟨_, rfl⟩ (.cons ⟨_, rfl⟩ (.cons ⟨_, rfl⟩ (.nil))))))))))))))))))))))))))))))))))))
    case c_ONE_KINDS =>
      refine' UZ.tupMk KX G ?a ?l ?z ?v; (case a => k_is); (case l => k_is); (case z => decide); (case v => exact .cons ⟨_, rfl⟩ (.cons ⟨_, rfl⟩ (.nil)))
    case c_PLAIN_KINDS =>
      refine' UZ.tupMk KX G ?a ?l ?z ?v; (case a => k_is); (case l => k_is); (case z => decide); (case v => exact .cons ⟨_, rfl⟩ (.cons ⟨_, rfl⟩ (.cons ⟨_, rfl⟩ (.cons ⟨_, rfl⟩ (.nil)))))
