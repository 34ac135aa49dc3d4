import PyProof.Rows.All
import Wide.All
import OpenK.AllK
import Wide.FinOn
import HandS.ForMost
import HandS.Codes
import HandS.Conv
import HandS.IsInst
import HandS.Style
import HandS.Walk
import PySem.Challenge.RW_goodenough_k19_whole_any_round
set_option Elab.async false
set_option linter.all false
set_option maxRecDepth 100000
set_option maxHeartbeats 4000000
namespace KM

structure Met (d : Int → Int → Int) : Prop where
  nn : ∀ x y, 0 ≤ d x y
  zz : ∀ x, d x x = 0
  sy : ∀ x y, d x y = d y x
  tr : ∀ x y z, d x z ≤ d x y + d y z

def wc (d : Int → Int → Int) : Int → List Int → Int → Int
  | x, [], y => d x y
  | x, z :: l, y => d x z + wc d z l y

def cyc (d : Int → Int → Int) : List Int → Int
  | [] => 0
  | x :: l => wc d x l x

def cost (d : Int → Int → Int) : List (Int × Int) → Int
  | [] => 0
  | r :: rs => d r.1 r.2 + cost d rs

/-- the consecutive lengths of a list -/
def pl (d : Int → Int → Int) : List Int → Int
  | [] => 0
  | [_] => 0
  | x :: y :: l => d x y + pl d (y :: l)

section
variable {d : Int → Int → Int}

theorem cost_nn (M : Met d) : ∀ rs, 0 ≤ cost d rs
  | [] => Int.le_refl 0
  | r :: rs => by
    have := cost_nn M rs
    have := M.nn r.1 r.2
    simp only [cost]; omega

theorem cost_append : ∀ rs ts, cost d (rs ++ ts) = cost d rs + cost d ts
  | [], ts => by simp [cost]
  | r :: rs, ts => by
    have := cost_append rs ts
    simp only [cost, List.cons_append]; omega

theorem cost_perm {rs ts : List (Int × Int)} (h : rs.Perm ts) : cost d rs = cost d ts := by
  induction h with
  | nil => rfl
  | cons x _ ih => simp only [cost, ih]
  | swap x y l => simp only [cost]; omega
  | trans _ _ ih1 ih2 => exact ih1.trans ih2

theorem cost_erase {rs : List (Int × Int)} {r : Int × Int} (h : r ∈ rs) : cost d rs = d r.1 r.2 + cost d (rs.erase r) :=
  cost_perm (List.perm_cons_erase h)

theorem wc_nn (M : Met d) : ∀ l x y, 0 ≤ wc d x l y
  | [], x, y => M.nn x y
  | z :: l, x, y => by
    have := wc_nn M l z y
    have := M.nn x z
    simp only [wc]; omega

theorem wc_append : ∀ l m x y z, wc d x (l ++ z :: m) y = wc d x l z + wc d z m y
  | [], m, x, y, z => by simp [wc]
  | w :: l, m, x, y, z => by
    have := wc_append l m w y z
    simp only [wc, List.cons_append]; omega

/-- one place left out -/
theorem wc_glue (M : Met d) : ∀ l m x y z, wc d x (l ++ m) y ≤ wc d x l z + wc d z m y
  | [], [], x, y, z => M.tr x z y
  | [], w :: m, x, y, z => by
    have := M.tr x z w
    simp only [wc, List.nil_append]; omega
  | w :: l, m, x, y, z => by
    have := wc_glue M l m w y z
    simp only [wc, List.cons_append]; omega

/-- places left out make no way longer -/
theorem wc_sub (M : Met d) {l' l : List Int} (h : l'.Sublist l) : ∀ x y, wc d x l' y ≤ wc d x l y := by
  induction h with
  | slnil => intro x y; exact Int.le_refl _
  | @cons l1 l2 a s ih =>
    intro x y
    have h1 := wc_glue M [] l1 x y a
    have h2 := ih a y
    simp only [wc, List.nil_append] at *
    omega
  | @cons_cons l1 l2 a s ih =>
    intro x y
    have := ih a y
    simp only [wc]; omega

theorem cyc_le_wc (M : Met d) (l : List Int) (x : Int) : cyc d l ≤ wc d x l x := by
  cases l with
  | nil => simp only [cyc, wc, M.zz]; exact Int.le_refl 0
  | cons y m =>
    have h := wc_glue M m [] y y x
    rw [List.append_nil] at h
    simp only [cyc, wc] at *
    have := M.sy x y
    omega

theorem cyc_sub (M : Met d) {l' l : List Int} (h : l'.Sublist l) : cyc d l' ≤ cyc d l := by
  cases l with
  | nil =>
    have e : l' = [] := List.sublist_nil.mp h
    subst e
    exact Int.le_refl 0
  | cons x r =>
    cases h with
    | cons _ s => exact Int.le_trans (cyc_le_wc M l' x) (wc_sub M s x x)
    | cons_cons _ s => exact wc_sub M s x x

theorem cyc_nn (M : Met d) (l : List Int) : 0 ≤ cyc d l := by
  cases l with
  | nil => exact Int.le_refl 0
  | cons x r => exact wc_nn M r x x

theorem wc_pl : ∀ l x y, wc d x l y = pl d (x :: l) + d ((x :: l).getLast (List.cons_ne_nil _ _)) y
  | [], x, y => by simp [wc, pl]
  | z :: l, x, y => by
    have := wc_pl l z y
    simp only [wc, pl]
    rw [List.getLast_cons (List.cons_ne_nil z l)]
    omega

theorem pl_snoc : ∀ l x y, pl d (l ++ [x, y]) = pl d (l ++ [x]) + d x y
  | [], x, y => by simp [pl]
  | [z], x, y => by simp [pl]
  | z :: w :: l, x, y => by
    have := pl_snoc (w :: l) x y
    simp only [List.cons_append, pl] at *
    omega

theorem pl_reverse (M : Met d) : ∀ l, pl d l.reverse = pl d l
  | [] => rfl
  | [_] => rfl
  | x :: y :: l => by
    have h := pl_reverse M (y :: l)
    rw [List.reverse_cons] at h
    rw [List.reverse_cons, List.reverse_cons, List.append_assoc, List.singleton_append, pl_snoc, h]
    have := M.sy x y
    simp only [pl]; omega

/-! ### the least tree -/
inductive Cn (E : List (Int × Int)) (S : List Int) : Int → Prop
  | base {x} : x ∈ S → Cn E S x
  | step {x y} : ((x, y) ∈ E ∨ (y, x) ∈ E) → Cn E S y → Cn E S x

/-- joined outside of S -/
inductive Jn (E : List (Int × Int)) (S : List Int) : Int → Int → Prop
  | refl {x} : x ∉ S → Jn E S x x
  | step {x y z} : ((x, y) ∈ E ∨ (y, x) ∈ E) → x ∉ S → y ∉ S → Jn E S y z → Jn E S x z

theorem Cn.cross {E S x} (h : Cn E S x) (hx : x ∉ S) : ∃ a b, ((a, b) ∈ E ∨ (b, a) ∈ E) ∧ a ∉ S ∧ b ∈ S ∧ Jn E S x a := by
  induction h with
  | base h => exact absurd h hx
  | @step x y e _ ih =>
    by_cases hy : y ∈ S
    · exact ⟨x, y, e, hx, hy, .refl hx⟩
    · obtain ⟨a, b, h1, h2, h3, h4⟩ := ih hy
      exact ⟨a, b, h1, h2, h3, .step e hx hy h4⟩

theorem Jn.out {E S x y} (h : Jn E S x y) : x ∉ S ∧ y ∉ S := by
  induction h with
  | refl h => exact ⟨h, h⟩
  | step _ h1 _ _ ih => exact ⟨h1, ih.2⟩

theorem mem_erase2 {E : List (Int × Int)} {f e : Int × Int} (h : e ∈ E) (n : e ≠ f) : e ∈ E.erase f :=
  (List.mem_erase_of_ne n).mpr h

/-- the far end of a joined way is held by v, the first being v -/
theorem Jn.cn {E S v a f} (h : Jn E S v a) (hf : f.1 ∈ S ∨ f.2 ∈ S) : Cn (E.erase f) (S ++ [v]) a := by
  have gen : ∀ x, Jn E S x a → Cn (E.erase f) (S ++ [v]) x → Cn (E.erase f) (S ++ [v]) a := by
    intro x hx
    induction hx with
    | refl _ => exact fun z => z
    | @step x y z e h1 h2 _ ih =>
      intro hc
      refine ih h ?_
      refine .step (y := x) ?_ hc
      rcases e with e | e
      · refine .inr (mem_erase2 e ?_)
        rintro rfl
        exact hf.elim h1 h2
      · refine .inl (mem_erase2 e ?_)
        rintro rfl
        exact hf.elim h2 h1
  exact gen v h (.base (by simp))

theorem Cn.exch {E S v a b f} (hv : Jn E S v a) (hf : f = (a, b) ∨ f = (b, a)) (hb : b ∈ S) {x} (h : Cn E S x) : Cn (E.erase f) (S ++ [v]) x := by
  have hfs : f.1 ∈ S ∨ f.2 ∈ S := by rcases hf with rfl | rfl <;> simp [hb]
  induction h with
  | base h => exact .base (by simp [h])
  | @step x y e _ ih =>
    by_cases q : (x, y) = f ∨ (y, x) = f
    · have : x = a ∨ x = b := by
        rcases q with q | q <;> rcases hf with z | z <;> rw [z] at q <;> cases q <;> simp
      rcases this with rfl | rfl
      · exact hv.cn hfs
      · exact .base (by simp [hb])
    · refine .step (y := y) ?_ ih
      rcases e with e | e
      · exact .inl (mem_erase2 e fun z => q (.inl z))
      · exact .inr (mem_erase2 e fun z => q (.inr z))

inductive Prim (d : Int → Int → Int) (V : Int → Prop) : List Int → List (Int × Int) → Prop
  | done {S} : (∀ x, V x → x ∈ S) → Prim d V S []
  | step {S a b rs} : a ∈ S → b ∉ S → V b → (∀ a' b', a' ∈ S → V b' → b' ∉ S → d a b ≤ d a' b') → Prim d V (S ++ [b]) rs → Prim d V S ((a, b) :: rs)

theorem Prim.le (M : Met d) {V : Int → Prop} {S rs} (h : Prim d V S rs) : ∀ E : List (Int × Int), (∀ e ∈ E, V e.1 ∧ V e.2) → (∀ x, V x → Cn E S x) → cost d rs ≤ cost d E := by
  induction h with
  | done _ => exact fun E _ _ => cost_nn M E
  | @step S a b rs ha hb vb hmin _ ih =>
    intro E hE hC
    obtain ⟨p, q, e, hp, hq, hj⟩ := (hC b vb).cross hb
    rcases e with e | e
    · have c := cost_erase (d := d) e
      have vp := (hE _ e).1
      have h1 := ih (E.erase (p, q)) (fun x hx => hE x (List.mem_of_mem_erase hx)) (fun x hx => (hC x hx).exch hj (.inl rfl) hq)
      have h2 := hmin q p hq vp hp
      have := M.sy p q
      simp only [cost] at *; omega
    · have c := cost_erase (d := d) e
      have vp := (hE _ e).2
      have h1 := ih (E.erase (q, p)) (fun x hx => hE x (List.mem_of_mem_erase hx)) (fun x hx => (hC x hx).exch hj (.inr rfl) hq)
      have h2 := hmin q p hq vp hp
      simp only [cost] at *; omega

/-- the roads of a way -/
def edges : List Int → List (Int × Int)
  | [] => []
  | [_] => []
  | x :: y :: l => (x, y) :: edges (y :: l)

theorem cost_edges : ∀ l, cost d (edges l) = pl d l
  | [] => rfl
  | [_] => rfl
  | x :: y :: l => by simp only [edges, cost, pl, cost_edges (y :: l)]

theorem edges_mem : ∀ {l : List Int} {e}, e ∈ edges l → e.1 ∈ l ∧ e.2 ∈ l
  | [], _, h => by simp [edges] at h
  | [_], _, h => by simp [edges] at h
  | x :: y :: l, e, h => by
    simp only [edges, List.mem_cons] at h
    rcases h with rfl | h
    · simp
    · have := edges_mem (l := y :: l) h
      exact ⟨List.mem_cons_of_mem _ this.1, List.mem_cons_of_mem _ this.2⟩

theorem Cn.mono {E E' S x} (s : ∀ e ∈ E, e ∈ E') (h : Cn E S x) : Cn E' S x := by
  induction h with
  | base h => exact .base h
  | step e _ ih => exact .step (e.imp (s _) (s _)) ih

theorem Cn.all {E S} : ∀ l : List Int, (∀ e ∈ edges l, e ∈ E) → (∃ x ∈ l, Cn E S x) → ∀ y ∈ l, Cn E S y
  | [], _, _ => by simp
  | [x], _, ⟨z, hz, hc⟩ => by
    intro y hy
    have e1 : z = x := by simpa using hz
    have e2 : y = x := by simpa using hy
    rw [e2, ← e1]
    exact hc
  | x :: y :: m, hE, ⟨z, hz, hc⟩ => by
    have hxy : (x, y) ∈ E := hE _ (by simp [edges])
    have hE' : ∀ e ∈ edges (y :: m), e ∈ E := fun e he => hE e (by simp [edges, he])
    have all : ∀ u ∈ y :: m, Cn E S u := by
      rcases List.mem_cons.mp hz with rfl | hz
      · exact Cn.all (y :: m) hE' ⟨y, by simp, .step (.inr hxy) hc⟩
      · exact Cn.all (y :: m) hE' ⟨z, hz, hc⟩
    intro u hu
    rcases List.mem_cons.mp hu with rfl | hu
    · exact .step (.inl hxy) (all y (by simp))
    · exact all u hu

theorem pl_le_cyc (M : Met d) (l : List Int) : pl d l ≤ cyc d l := by
  cases l with
  | nil => exact Int.le_refl 0
  | cons x r =>
    have := wc_pl (d := d) r x x
    have := M.nn ((x :: r).getLast (List.cons_ne_nil _ _)) x
    simp only [cyc]; omega

theorem Prim.le_cyc (M : Met d) {V : Int → Prop} {rs} (h : Prim d V [0] rs) {l : List Int} (hl : ∀ x, V x ↔ x ∈ l) (h0 : 0 ∈ l) : cost d rs ≤ cyc d l := by
  refine Int.le_trans (h.le M (edges l) (fun e he => ?_) fun x hx => ?_) (cost_edges (d := d) l ▸ pl_le_cyc M l)
  · have := edges_mem he
    exact ⟨(hl _).mpr this.1, (hl _).mpr this.2⟩
  · exact Cn.all l (fun e he => he) ⟨0, h0, .base (by simp)⟩ x ((hl x).mp hx)

/-! ### the walked round -/
def ch : List (Int × Int) → Int → List Int
  | [], _ => []
  | r :: rs, p => if r.1 = p then r.2 :: ch rs r.2 ++ ch rs p else ch rs p

def tc (d : Int → Int → Int) : List (Int × Int) → Int → Int
  | [], _ => 0
  | r :: rs, p => if r.1 = p then d r.1 r.2 + tc d rs r.2 + tc d rs p else tc d rs p

theorem ch_cost (M : Met d) : ∀ rs p, wc d p (ch rs p) p ≤ 2 * tc d rs p
  | [], p => by simp [ch, tc, wc, M.zz]
  | r :: rs, p => by
    by_cases e : r.1 = p
    · have h1 := ch_cost M rs r.2
      have h2 := ch_cost M rs p
      have h3 := wc_glue M (r.2 :: ch rs r.2) (ch rs p) p p p
      have h4 := wc_glue M (ch rs r.2) [] r.2 p r.2
      have h5 := M.sy r.2 p
      simp only [ch, tc, if_pos e]
      simp only [wc, List.append_nil, List.cons_append] at *
      rw [e] at *
      omega
    · have h2 := ch_cost M rs p
      simp only [ch, tc, if_neg e]
      exact h2

inductive Grow : List Int → List (Int × Int) → Prop
  | nil {S} : Grow S []
  | cons {S a b rs} : a ∈ S → b ∉ S → Grow (S ++ [b]) rs → Grow S ((a, b) :: rs)

theorem Prim.grow {V : Int → Prop} {S rs} (h : Prim d V S rs) : Grow S rs := by
  induction h with
  | done _ => exact .nil
  | step h1 h2 _ _ _ ih => exact .cons h1 h2 ih

def fm (rs : List (Int × Int)) (S : List Int) : List Int := S.flatMap fun p => p :: ch rs p
def ft (d : Int → Int → Int) (rs : List (Int × Int)) : List Int → Int
  | [] => 0
  | p :: S => tc d rs p + ft d rs S
theorem fm_append (rs S T) : fm rs (S ++ T) = fm rs S ++ fm rs T := by simp [fm]
theorem fm_cons (rs p T) : fm rs (p :: T) = p :: ch rs p ++ fm rs T := by simp [fm]
theorem ft_append (rs) : ∀ S T, ft d rs (S ++ T) = ft d rs S + ft d rs T
  | [], T => by simp [ft]
  | p :: S, T => by
    have := ft_append rs S T
    simp only [ft, List.cons_append]; omega
theorem fm_other {a b rs} : ∀ {S : List Int}, a ∉ S → fm ((a, b) :: rs) S = fm rs S
  | [], _ => rfl
  | p :: S, h => by
    rw [fm_cons, fm_cons, fm_other (fun z => h (List.mem_cons_of_mem _ z))]
    have : ¬ a = p := fun z => h (by simp [z])
    simp only [ch, if_neg this]
theorem ft_other {a b rs} : ∀ {S : List Int}, a ∉ S → ft d ((a, b) :: rs) S = ft d rs S
  | [], _ => rfl
  | p :: S, h => by
    have h1 := ft_other (a := a) (b := b) (rs := rs) (S := S) (fun z => h (List.mem_cons_of_mem _ z))
    have : ¬ a = p := fun z => h (by simp [z])
    simp only [ft, tc, if_neg this, h1]

theorem fm_nil : ∀ S, fm [] S = S
  | [] => rfl
  | p :: S => by rw [fm_cons, fm_nil S]; rfl
theorem ft_nil : ∀ S, ft d [] S = 0
  | [] => rfl
  | p :: S => by simp only [ft, ft_nil S, tc]; rfl

theorem Grow.nodup {S rs} (h : Grow S rs) (hS : S.Nodup) : (S ++ rs.map (·.2)).Nodup := by
  induction h with
  | nil => simpa using hS
  | @cons S a b rs ha hb _ ih =>
    have : (S ++ [b]).Nodup := by
      rw [List.nodup_append]
      refine ⟨hS, by simp, fun x hx y hy => ?_⟩
      have : y = b := by simpa using hy
      rw [this]
      rintro rfl
      exact hb hx
    have := ih this
    simpa [List.append_assoc] using this

theorem Grow.perm {S rs} (h : Grow S rs) (hS : S.Nodup) : (fm rs S).Perm (S ++ rs.map (·.2)) ∧ ft d rs S = cost d rs := by
  induction h with
  | nil => simp [fm_nil, ft_nil, cost]
  | @cons S a b rs ha hb hg ih =>
    have hS' : (S ++ [b]).Nodup := by
      rw [List.nodup_append]
      refine ⟨hS, by simp, fun x hx y hy => ?_⟩
      have : y = b := by simpa using hy
      rw [this]
      rintro rfl
      exact hb hx
    obtain ⟨i1, i2⟩ := ih hS'
    obtain ⟨S1, S2, rfl⟩ := List.append_of_mem ha
    have n1 : a ∉ S1 := by
      intro z
      rw [List.nodup_append] at hS
      exact hS.2.2 a z a (by simp) rfl
    have n2 : a ∉ S2 := by
      intro z
      rw [List.nodup_append] at hS
      exact (List.nodup_cons.mp hS.2.1).1 z
    constructor
    · rw [fm_append, fm_cons, fm_other n1, fm_other n2]
      rw [fm_append, fm_append, fm_cons, fm_cons] at i1
      rw [List.perm_iff_count] at i1 ⊢
      intro x
      have := i1 x
      simp only [ch, if_pos, List.count_append, List.count_cons, List.map_cons, fm, List.flatMap_nil, List.count_nil, List.append_assoc, List.cons_append] at this ⊢
      omega
    · rw [ft_append]
      rw [ft_append, ft_append] at i2
      have f1 := ft_other (d := d) (b := b) (rs := rs) n1
      have f2 := ft_other (d := d) (b := b) (rs := rs) n2
      simp only [ft, tc, cost, if_pos] at *
      omega

theorem Prim.all {V : Int → Prop} {S rs} (h : Prim d V S rs) (hS : ∀ x ∈ S, V x) : ∀ x, V x ↔ x ∈ S ++ rs.map (·.2) := by
  induction h with
  | done h => exact fun x => ⟨fun v => by simp [h x v], fun v => hS x (by simpa using v)⟩
  | @step S a b rs _ _ vb _ _ ih =>
    intro x
    have := ih (fun x hx => by
      rcases List.mem_append.mp hx with z | z
      · exact hS x z
      · have : x = b := by simpa using z
        exact this ▸ vb) x
    simpa [List.append_assoc] using this

def places (n : Nat) : List Int := (List.range n).map fun (k : Nat) => (k : Int)
def Vd (n : Nat) (x : Int) : Prop := 0 ≤ x ∧ x < (n : Int)
theorem mem_places {n : Nat} {x : Int} : x ∈ places n ↔ Vd n x := by
  simp only [places, List.mem_map, List.mem_range, Vd]
  constructor
  · rintro ⟨k, h, rfl⟩; omega
  · intro h
    exact ⟨x.toNat, by omega, by omega⟩
theorem nodup_map_cast : ∀ l : List Nat, l.Nodup → (l.map fun (k : Nat) => (k : Int)).Nodup
  | [], _ => by simp
  | x :: l, h => by
    rw [List.nodup_cons] at h
    rw [List.map_cons, List.nodup_cons]
    refine ⟨fun z => ?_, nodup_map_cast l h.2⟩
    obtain ⟨y, hy, e⟩ := List.mem_map.mp z
    have : y = x := by omega
    exact h.1 (this ▸ hy)
theorem nodup_places (n : Nat) : (places n).Nodup := nodup_map_cast _ List.nodup_range
theorem places_len (n : Nat) : (places n).length = n := by simp [places]

/-- all places once -/
theorem perm_places {n : Nat} {l : List Int} (hl : l.Nodup) (h : ∀ x, Vd n x ↔ x ∈ l) : l.Perm (places n) := by
  rw [List.perm_ext_iff_of_nodup hl (nodup_places n)]
  intro x
  rw [mem_places, h]

/-- a told round -/
structure Round (n : Nat) (l : List Int) : Prop where
  perm : l.Perm (places n)
theorem Round.mem {n l} (h : Round n l) : ∀ x, Vd n x ↔ x ∈ l := fun x => by rw [h.perm.mem_iff, mem_places]

theorem Prim.walked (M : Met d) {n : Nat} (hn : 0 < n) {rs} (h : Prim d (Vd n) [0] rs) : Round n (0 :: ch rs 0) ∧ cyc d (0 :: ch rs 0) ≤ 2 * cost d rs := by
  obtain ⟨p, q⟩ := h.grow.perm (d := d) (S := [0]) (by simp)
  have e1 : fm rs [0] = 0 :: ch rs 0 := by simp [fm]
  rw [e1] at p
  have hall := h.all (fun x hx => by
    have : x = 0 := by simpa using hx
    rw [this]; unfold Vd; omega)
  have nd := h.grow.nodup (S := [0]) (by simp)
  refine ⟨⟨p.trans (perm_places nd hall)⟩, ?_⟩
  have c := ch_cost M rs 0
  have e2 : ft d rs [0] = tc d rs 0 := by simp [ft]
  simp only [cyc]
  omega

/-! ### odd ends -/
def ends : List (Int × Int) → List Int
  | [] => []
  | r :: rs => r.1 :: r.2 :: ends rs
theorem ends_append : ∀ rs ts, ends (rs ++ ts) = ends rs ++ ends ts
  | [], _ => rfl
  | r :: rs, ts => by simp [ends, ends_append rs ts]
theorem ends_len : ∀ rs, (ends rs).length = 2 * rs.length
  | [] => rfl
  | r :: rs => by simp [ends, ends_len rs]; omega
theorem ends_perm {rs ts : List (Int × Int)} (h : rs.Perm ts) : (ends rs).Perm (ends ts) := by
  induction h with
  | nil => exact .refl _
  | cons x _ ih => exact (ih.cons _).cons _
  | swap x y l =>
    rw [List.perm_iff_count]
    intro z
    simp only [ends, List.count_cons]
    omega
  | trans _ _ ih1 ih2 => exact ih1.trans ih2
theorem mem_ends {rs : List (Int × Int)} {x : Int} : x ∈ ends rs ↔ ∃ r ∈ rs, x = r.1 ∨ x = r.2 := by
  induction rs with
  | nil => simp [ends]
  | cons r rs ih =>
    simp only [ends, List.mem_cons, ih]
    constructor
    · rintro (h | h | ⟨q, h1, h2⟩)
      · exact ⟨r, .inl rfl, .inl h⟩
      · exact ⟨r, .inl rfl, .inr h⟩
      · exact ⟨q, .inr h1, h2⟩
    · rintro ⟨q, rfl | h1, h2⟩
      · rcases h2 with h2 | h2
        · exact .inl h2
        · exact .inr (.inl h2)
      · exact .inr (.inr ⟨q, h1, h2⟩)

def cs (e : List Int) : List Int → Nat
  | [] => 0
  | x :: D => e.count x + cs e D
theorem cs_par (e : List Int) : ∀ D : List Int, (D.filter fun x => e.count x % 2 == 1).length % 2 = cs e D % 2
  | [] => rfl
  | x :: D => by
    have := cs_par e D
    rw [List.filter_cons]
    by_cases h : (e.count x % 2 == 1) = true
    · rw [if_pos h]
      have h' : e.count x % 2 = 1 := by simpa using h
      simp only [cs, List.length_cons]; omega
    · rw [if_neg h]
      have h' : ¬ e.count x % 2 = 1 := by simpa using h
      simp only [cs]; omega
theorem cs_nil : ∀ D, cs [] D = 0
  | [] => rfl
  | x :: D => by simp [cs, cs_nil D]
theorem cs_cons (y : Int) (e : List Int) : ∀ D : List Int, cs (y :: e) D = cs e D + D.count y
  | [] => rfl
  | x :: D => by
    have := cs_cons y e D
    simp only [cs, List.count_cons, this]
    have : (if (y == x) = true then 1 else 0) = (if (x == y) = true then 1 else 0) := by
      by_cases h : x = y
      · subst h; rfl
      · rw [if_neg (by simpa using fun z => h z.symm), if_neg (by simpa using h)]
    omega
theorem cs_all {D : List Int} (hD : D.Nodup) : ∀ e : List Int, (∀ x ∈ e, x ∈ D) → cs e D = e.length
  | [], _ => cs_nil D
  | y :: e, h => by
    have h1 := cs_all hD e fun x hx => h x (List.mem_cons_of_mem _ hx)
    have h2 : D.count y = 1 := List.Nodup.count hD |>.trans (if_pos (h y (by simp)))
    rw [cs_cons, h1, h2]
    rfl

/-- the odd ends of roads -/
structure Odd (rs : List (Int × Int)) (os : List Int) : Prop where
  nd : os.Nodup
  mem : ∀ x, x ∈ os ↔ (ends rs).count x % 2 = 1

theorem Odd.even {n : Nat} {rs os} (h : Odd rs os) (hv : ∀ x ∈ ends rs, Vd n x) : os.length % 2 = 0 := by
  have p : os.Perm ((places n).filter fun x => (ends rs).count x % 2 == 1) := by
    rw [List.perm_ext_iff_of_nodup h.nd ((nodup_places n).filter _)]
    intro x
    rw [h.mem, List.mem_filter, mem_places]
    simp only [beq_iff_eq]
    constructor
    · intro c
      have : 0 < (ends rs).count x := by omega
      exact ⟨hv x (List.count_pos_iff.mp this), c⟩
    · exact fun z => z.2
  have e1 := p.length_eq
  have e2 := cs_par (ends rs) (places n)
  have e3 := cs_all (nodup_places n) (ends rs) fun x hx => mem_places.mpr (hv x hx)
  have e4 := ends_len rs
  omega

/-! ### least pairings -/
structure Least (d : Int → Int → Int) (some : List Int) (ps : List (Int × Int)) : Prop where
  ends : (ends ps).Perm some
  le : ∀ qs, (KM.ends qs).Perm some → cost d ps ≤ cost d qs

theorem Least.perm {s t ps} (h : Least d s ps) (p : s.Perm t) : Least d t ps := ⟨h.ends.trans p, fun qs hq => h.le qs (hq.trans p.symm)⟩

theorem Least.nil : Least d [] [] := ⟨.refl _, fun qs h => by
  have : qs = [] := by
    cases qs with
    | nil => rfl
    | cons r rs => simp [KM.ends] at h
  subst this
  exact Int.le_refl _⟩

theorem eraseIdx_perm {α} [BEq α] [LawfulBEq α] : ∀ {l : List α} {i : Nat} (h : i < l.length), (l[i] :: l.eraseIdx i).Perm l
  | x :: l, 0, _ => .refl _
  | x :: l, i + 1, h => by
    have := eraseIdx_perm (l := l) (i := i) (by simpa using h)
    simp only [List.getElem_cons_succ, List.eraseIdx_cons_succ]
    exact (List.Perm.swap _ _ _).trans (this.cons x)

theorem Least.cons (M : Met d) {a : Int} {r : List Int} {best : List (Int × Int)} (hb : (KM.ends best).Perm (a :: r))
    (h : ∀ j (hj : j < r.length), ∀ qs, (KM.ends qs).Perm (r.eraseIdx j) → cost d best ≤ d a r[j] + cost d qs) : Least d (a :: r) best := by
  refine ⟨hb, fun qs hq => ?_⟩
  have ha : a ∈ KM.ends qs := hq.mem_iff.mpr (by simp)
  obtain ⟨q, hq1, hq2⟩ := mem_ends.mp ha
  have pe := List.perm_cons_erase hq1
  have pe2 := ends_perm pe
  have gen : ∀ y, (a = q.1 ∧ y = q.2 ∨ a = q.2 ∧ y = q.1) → cost d best ≤ cost d qs := by
    intro y hy
    have c := cost_erase (d := d) hq1
    have dq : d q.1 q.2 = d a y := by
      rcases hy with ⟨rfl, rfl⟩ | ⟨rfl, rfl⟩
      · rfl
      · exact M.sy _ _
    have p3 : (y :: KM.ends (qs.erase q)).Perm r := by
      have : (a :: y :: KM.ends (qs.erase q)).Perm (a :: r) := by
        refine List.Perm.trans ?_ (pe2.symm.trans hq)
        rcases hy with ⟨rfl, rfl⟩ | ⟨rfl, rfl⟩
        · exact .refl _
        · exact .swap _ _ _
      exact (List.perm_cons a).mp this
    have hy' : y ∈ r := p3.mem_iff.mp (by simp)
    obtain ⟨j, hj, e⟩ := List.getElem_of_mem hy'
    have p4 := eraseIdx_perm hj
    rw [e] at p4
    have p5 : (KM.ends (qs.erase q)).Perm (r.eraseIdx j) := (List.perm_cons y).mp (p3.trans p4.symm)
    have := h j hj _ p5
    rw [e] at this
    omega
  rcases hq2 with e | e
  · exact gen q.2 (.inl ⟨e, rfl⟩)
  · exact gen q.1 (.inr ⟨e, rfl⟩)

def prs : List Int → List (Int × Int)
  | a :: b :: l => (a, b) :: prs l
  | _ => []
theorem ends_prs : ∀ l : List Int, l.length % 2 = 0 → KM.ends (prs l) = l
  | [], _ => rfl
  | [_], h => by simp at h
  | a :: b :: l, h => by
    have := ends_prs l (by simp only [List.length_cons] at h; omega)
    simp only [prs, KM.ends, this]
theorem prs_cost : ∀ (l : List Int) x y, l.length % 2 = 1 → cost d (prs (x :: l)) + cost d (prs (l ++ [y])) = wc d x l y
  | [], _, _, h => by simp at h
  | [z], x, y, _ => by simp [prs, cost, wc]
  | z :: w :: l, x, y, h => by
    have := prs_cost l w y (by simp only [List.length_cons] at h; omega)
    simp only [prs, cost, wc, List.cons_append] at *
    omega

theorem Least.half_cyc (M : Met d) {o ps} (h : Least d o ps) (he : o.length % 2 = 0) : 2 * cost d ps ≤ cyc d o := by
  cases o with
  | nil =>
    have := h.le [] (.refl _)
    simp only [cost, cyc] at *
    omega
  | cons x l =>
    have hl : l.length % 2 = 1 := by simp only [List.length_cons] at he; omega
    have e := prs_cost (d := d) l x x hl
    have h1 := h.le (prs (x :: l)) (by rw [ends_prs _ he])
    have h2 := h.le (prs (l ++ [x])) (by
      rw [ends_prs _ (by simp only [List.length_append, List.length_cons, List.length_nil]; omega)]
      exact List.perm_append_comm (l₁ := l) (l₂ := [x]))
    simp only [cyc]
    omega

theorem Least.rival (M : Met d) {n : Nat} {rs os ps l} (h : Least d os ps) (ho : Odd rs os) (hv : ∀ x ∈ KM.ends rs, Vd n x) (hl : Round n l) : 2 * cost d ps ≤ cyc d l := by
  have p : os.Perm (l.filter fun x => (KM.ends rs).count x % 2 == 1) := by
    have ndl : l.Nodup := (hl.perm.nodup_iff).mpr (nodup_places n)
    rw [List.perm_ext_iff_of_nodup ho.nd (ndl.filter _)]
    intro x
    rw [ho.mem, List.mem_filter, ← hl.mem]
    simp only [beq_iff_eq]
    constructor
    · intro c
      have : 0 < (KM.ends rs).count x := by omega
      exact ⟨hv x (List.count_pos_iff.mp this), c⟩
    · exact fun z => z.2
  have he := ho.even hv
  have h' := h.perm p
  have := h'.half_cyc M (by rw [← p.length_eq]; exact he)
  exact Int.le_trans this (cyc_sub M List.filter_sublist)

/-! ### the closed walk -/
/-- the state of the walk: the roads left, the way come (the last first), the walk told, the place that is told next -/
structure Hi (d : Int → Int → Int) (V : Int → Prop) (E : List (Int × Int)) (left : List (Int × Int)) (st walk : List Int) (t : Int) : Prop where
  co : pl d (walk ++ [t]) + pl d st + cost d left = cost d E
  par : ∀ x, ((ends left).count x + (if st.head? = some x then 1 else 0) + (if t = x then 1 else 0)) % 2 = 0
  dead : ∀ x ∈ walk, x ∉ ends left
  cov : ∀ e ∈ E, e ∈ left ∨ ((e.1 ∈ walk ∨ e.1 ∈ st) ∧ (e.2 ∈ walk ∨ e.2 ∈ st))
  hd : (walk ++ [t]).head? = some 0
  bot : st.getLast? = some 0
  vw : ∀ x ∈ walk, V x
  vs : ∀ x ∈ st, V x
  vl : ∀ x ∈ ends left, V x

/-- the end of the walk -/
structure Ho (d : Int → Int → Int) (V : Int → Prop) (E : List (Int × Int)) (left : List (Int × Int)) (walk : List Int) : Prop where
  co : pl d walk + cost d left = cost d E
  dead : ∀ x ∈ walk, x ∉ ends left
  cov : ∀ e ∈ E, e ∈ left ∨ (e.1 ∈ walk ∧ e.2 ∈ walk)
  hd : walk.head? = some 0
  la : walk.getLast? = some 0
  vw : ∀ x ∈ walk, V x

theorem Hi.start {V : Int → Prop} {E} (h0 : V 0) (hE : ∀ x ∈ ends E, V x) (par : ∀ x, (ends E).count x % 2 = 0) : Hi d V E E [0] [] 0 where
  co := by simp [pl]
  par := fun x => by
    have := par x
    by_cases h : (0 : Int) = x
    · subst h; simp; omega
    · simp [h, this]
  dead := by simp
  cov := fun e he => .inl he
  hd := rfl
  bot := rfl
  vw := by simp
  vs := by simpa using h0
  vl := hE

theorem Hi.push (M : Met d) {V : Int → Prop} {E left st walk t y z e} (h : Hi d V E left (y :: st) walk t) (k : Nat) (hk : left[k]? = some e) (he : e = (y, z) ∨ e = (z, y)) : Hi d V E (left.eraseIdx k) (z :: y :: st) walk t := by
  obtain ⟨hlt, hg⟩ := List.getElem?_eq_some_iff.mp hk
  have p := eraseIdx_perm hlt
  rw [hg] at p
  have pe := ends_perm p
  have sub : ∀ x ∈ ends (left.eraseIdx k), x ∈ ends left := fun x hx => pe.mem_iff.mp (by simp [ends, hx])
  have hz : z ∈ ends left := pe.mem_iff.mp (by rcases he with rfl | rfl <;> simp [ends])
  refine ⟨?_, ?_, fun x hx hc => h.dead x hx (sub x hc), ?_, h.hd, ?_, h.vw, ?_, fun x hx => h.vl x (sub x hx)⟩
  · have c := cost_perm (d := d) p
    have := h.co
    have := M.sy y z
    simp only [cost, pl] at *
    rcases he with rfl | rfl <;> simp only [] at * <;> omega
  · intro x
    have := h.par x
    have c := pe.count_eq x
    simp only [ends, List.count_cons, List.head?_cons, Option.some.injEq, beq_iff_eq] at *
    rcases he with rfl | rfl <;> simp only [] at * <;> omega
  · intro f hf
    rcases h.cov f hf with q | ⟨q1, q2⟩
    · have := p.mem_iff.mpr q
      rcases List.mem_cons.mp this with rfl | q
      · refine .inr ?_
        rcases he with rfl | rfl <;> simp
      · exact .inl q
    · refine .inr ⟨q1.imp id (List.mem_cons_of_mem _), q2.imp id (List.mem_cons_of_mem _)⟩
  · have := h.bot
    rw [List.getLast?_cons_cons]
    exact this
  · intro x hx
    rcases List.mem_cons.mp hx with rfl | hx
    · exact h.vl _ hz
    · exact h.vs x hx

theorem Hi.top {V : Int → Prop} {E left st walk t y} (h : Hi d V E left (y :: st) walk t) (hy : y ∉ ends left) : y = t := by
  have := h.par y
  have c : (ends left).count y = 0 := List.count_eq_zero.mpr hy
  rw [c] at this
  simp only [List.head?_cons, if_pos] at this
  by_cases e : t = y
  · exact e.symm
  · rw [if_neg e] at this
    omega

theorem Hi.pop (M : Met d) {V : Int → Prop} {E left st walk t y u} (h : Hi d V E left (y :: u :: st) walk t) (hy : y ∉ ends left) : Hi d V E left (u :: st) (walk ++ [y]) u := by
  have ht := h.top hy
  subst ht
  refine ⟨?_, ?_, ?_, ?_, ?_, ?_, ?_, fun x hx => h.vs x (List.mem_cons_of_mem _ hx), h.vl⟩
  · have := h.co
    rw [List.append_assoc, List.singleton_append, pl_snoc]
    simp only [pl] at *
    omega
  · intro x
    have := h.par x
    simp only [List.head?_cons, Option.some.injEq] at *
    omega
  · intro x hx
    rcases List.mem_append.mp hx with z | z
    · exact h.dead x z
    · have : x = y := by simpa using z
      exact this ▸ hy
  · intro f hf
    rcases h.cov f hf with q | ⟨q1, q2⟩
    · exact .inl q
    · refine .inr ⟨?_, ?_⟩
      · simp only [List.mem_append, List.mem_cons] at *
        rcases q1 with q1 | q1 | q1 | q1 <;> simp [q1]
      · simp only [List.mem_append, List.mem_cons] at *
        rcases q2 with q2 | q2 | q2 | q2 <;> simp [q2]
  · have := h.hd
    rw [List.append_assoc]
    cases walk with
    | nil => simpa using this
    | cons w ws => simpa using this
  · have := h.bot
    rw [List.getLast?_cons_cons] at this
    exact this
  · intro x hx
    rcases List.mem_append.mp hx with z | z
    · exact h.vw x z
    · have : x = y := by simpa using z
      exact this ▸ h.vs y (by simp)

theorem Hi.last (M : Met d) {V : Int → Prop} {E left walk t y} (h : Hi d V E left [y] walk t) (hy : y ∉ ends left) : Ho d V E left (walk ++ [y]) := by
  have ht := h.top hy
  subst ht
  refine ⟨?_, ?_, ?_, h.hd, ?_, ?_⟩
  · have := h.co
    simp only [pl] at *
    omega
  · intro x hx
    rcases List.mem_append.mp hx with z | z
    · exact h.dead x z
    · have : x = y := by simpa using z
      exact this ▸ hy
  · intro f hf
    rcases h.cov f hf with q | ⟨q1, q2⟩
    · exact .inl q
    · refine .inr ⟨?_, ?_⟩
      · simp only [List.mem_append, List.mem_cons] at *
        rcases q1 with q1 | q1 | q1 <;> simp_all
      · simp only [List.mem_append, List.mem_cons] at *
        rcases q2 with q2 | q2 | q2 <;> simp_all
  · have := h.bot
    simp at this
    simp [this]
  · intro x hx
    rcases List.mem_append.mp hx with z | z
    · exact h.vw x z
    · have : x = y := by simpa using z
      exact this ▸ h.vs y (by simp)

theorem Ho.cn {V : Int → Prop} {E left walk} (h : Ho d V E left walk) {x} (c : Cn E [0] x) : x ∈ walk := by
  induction c with
  | base h0 =>
    have := List.mem_of_getLast? h.la
    have e := List.mem_singleton.mp h0
    rw [e]
    exact this
  | @step x y e _ ih =>
    have nl : y ∉ ends left := h.dead y ih
    rcases e with e | e
    · rcases h.cov _ e with q | q
      · exact absurd (mem_ends.mpr ⟨_, q, .inr rfl⟩) nl
      · exact q.1
    · rcases h.cov _ e with q | q
      · exact absurd (mem_ends.mpr ⟨_, q, .inl rfl⟩) nl
      · exact q.2

/-! ### the places as they first come -/
def dds (f : List Int) (x : Int) : List Int := if x ∈ f then f else f ++ [x]
def dd (f : List Int) (l : List Int) : List Int := l.foldl dds f
theorem dd_spec : ∀ (l f : List Int), f.Nodup → ∃ l' : List Int, dd f l = f ++ l' ∧ l'.Sublist l ∧ (f ++ l').Nodup ∧ ∀ x, x ∈ f ++ l' ↔ x ∈ f ∨ x ∈ l
  | [], f, hf => ⟨[], by simp [dd], List.Sublist.refl _, by simpa using hf, by simp⟩
  | x :: l, f, hf => by
    by_cases h : x ∈ f
    · obtain ⟨l', h1, h2, h3, h4⟩ := dd_spec l f hf
      refine ⟨l', ?_, h2.cons x, h3, fun y => ?_⟩
      · rw [← h1]
        show (l.foldl dds (dds f x)) = _
        rw [dds, if_pos h]
        rfl
      · rw [h4, List.mem_cons]
        constructor
        · rintro (z | z)
          · exact .inl z
          · exact .inr (.inr z)
        · rintro (z | rfl | z)
          · exact .inl z
          · exact .inl h
          · exact .inr z
    · have hf' : (f ++ [x]).Nodup := by
        rw [List.nodup_append]
        refine ⟨hf, by simp, fun a ha b hb => ?_⟩
        have : b = x := by simpa using hb
        rw [this]
        rintro rfl
        exact h ha
      obtain ⟨l', h1, h2, h3, h4⟩ := dd_spec l (f ++ [x]) hf'
      refine ⟨x :: l', ?_, h2.cons_cons x, ?_, fun y => ?_⟩
      · show (l.foldl dds (dds f x)) = _
        rw [dds, if_neg h]
        have : dd (f ++ [x]) l = f ++ x :: l' := by rw [h1]; simp
        exact this
      · simpa using h3
      · have := h4 y
        simp only [List.append_assoc, List.singleton_append, List.mem_append, List.mem_cons, List.not_mem_nil, or_false] at this ⊢
        rw [this]
        constructor
        · rintro ((z | z) | z)
          · exact .inl z
          · exact .inr (.inl z)
          · exact .inr (.inr z)
        · rintro (z | z | z)
          · exact .inl (.inl z)
          · exact .inl (.inr z)
          · exact .inr z

theorem Ho.round (M : Met d) {n : Nat} {E left walk} (h : Ho d (Vd n) E left walk) (hc : ∀ x, Vd n x → Cn E [0] x) :
    Round n (dd [] walk) ∧ (dd [] walk).head? = some 0 ∧ cyc d (dd [] walk) ≤ cost d E := by
  have hco := h.co
  have cn := cost_nn M left
  cases walk with
  | nil => exact absurd h.hd (by simp)
  | cons w m =>
    have e0 : w = 0 := by simpa using h.hd
    subst e0
    have e1 : dd [] (0 :: m) = dd [0] m := rfl
    obtain ⟨l', h1, h2, h3, h4⟩ := dd_spec m [0] (by simp)
    have e2 : dd [] (0 :: m) = 0 :: l' := by rw [e1, h1]; rfl
    have hw := wc_pl (d := d) m 0 0
    have hl : ((0 : Int) :: m).getLast (List.cons_ne_nil _ _) = 0 := by
      have := h.la
      rw [List.getLast?_eq_getLast (List.cons_ne_nil _ _)] at this
      exact Option.some.inj this
    rw [hl, M.zz] at hw
    refine ⟨⟨?_⟩, by rw [e2]; rfl, ?_⟩
    · rw [e2]
      refine perm_places h3 fun x => ?_
      have := h4 x
      have e3 : (x ∈ [0] ++ l') ↔ x ∈ 0 :: m := by rw [this]; simp
      show Vd n x ↔ x ∈ [0] ++ l'
      rw [e3]
      exact ⟨fun v => h.cn (hc x v), fun hx => h.vw x hx⟩
    · rw [e2]
      have := wc_sub M h2 0 0
      simp only [cyc]
      omega

theorem Prim.cn {V : Int → Prop} {S rs} (h : Prim d V S rs) : ∀ {E : List (Int × Int)} {T : List Int}, (∀ e ∈ rs, e ∈ E) → (∀ x ∈ S, Cn E T x) → ∀ x, V x → Cn E T x := by
  induction h with
  | done h => exact fun _ hS x vx => hS x (h x vx)
  | @step S a b rs ha _ _ _ _ ih =>
    intro E T hE hS
    refine ih (fun e he => hE e (List.mem_cons_of_mem _ he)) fun x hx => ?_
    rcases List.mem_append.mp hx with z | z
    · exact hS x z
    · have : x = b := by simpa using z
      rw [this]
      exact .step (.inr (hE _ (by simp))) (hS a ha)

theorem Prim.vends {V : Int → Prop} {S rs} (h : Prim d V S rs) (hS : ∀ x ∈ S, V x) : ∀ x ∈ ends rs, V x := by
  induction h with
  | done _ => simp [ends]
  | @step S a b rs ha _ vb _ _ ih =>
    intro x hx
    simp only [ends, List.mem_cons] at hx
    rcases hx with rfl | rfl | hx
    · exact hS _ ha
    · exact vb
    · refine ih (fun y hy => ?_) x hx
      rcases List.mem_append.mp hy with z | z
      · exact hS y z
      · have : y = b := by simpa using z
        exact this ▸ vb

theorem par_both {rs ps : List (Int × Int)} {os : List Int} (ho : Odd rs os) (hp : (ends ps).Perm os) : ∀ x, (ends (rs ++ ps)).count x % 2 = 0 := by
  intro x
  rw [ends_append, List.count_append, hp.count_eq, ho.nd.count]
  by_cases h : x ∈ os
  · rw [if_pos h]
    have := (ho.mem x).mp h
    omega
  · rw [if_neg h]
    have : ¬ (ends rs).count x % 2 = 1 := fun z => h ((ho.mem x).mpr z)
    omega

theorem v0 {n : Nat} (h : 0 < n) : ∀ x ∈ [(0 : Int)], Vd n x := fun x hx => by
  have : x = 0 := by simpa using hx
  rw [this]; unfold Vd; omega

/-- the walk's start, all told -/
theorem Hi.begin (M : Met d) {n : Nat} (hn : 0 < n) {rs os ps} (h : Prim d (Vd n) [0] rs) (ho : Odd rs os) (hp : Least d os ps) : Hi d (Vd n) (rs ++ ps) (rs ++ ps) [0] [] 0 := by
  have hv := h.vends (v0 hn)
  refine Hi.start (v0 hn 0 (by simp)) (fun x hx => ?_) (par_both ho hp.ends)
  rw [ends_append] at hx
  rcases List.mem_append.mp hx with z | z
  · exact hv x z
  · have z1 := hp.ends.mem_iff.mp z
    have z2 := (ho.mem x).mp z1
    exact hv x (List.count_pos_iff.mp (by omega))

theorem Ho.paired (M : Met d) {n : Nat} (hn : 0 < n) {rs ps left walk} (h : Prim d (Vd n) [0] rs) (hh : Ho d (Vd n) (rs ++ ps) left walk) :
    Round n (dd [] walk) ∧ (dd [] walk).head? = some 0 ∧ cyc d (dd [] walk) ≤ cost d rs + cost d ps := by
  have := hh.round M (h.cn (E := rs ++ ps) (T := [0]) (fun e he => List.mem_append_left _ he) fun x hx => .base hx)
  rw [cost_append] at this
  exact this

theorem Round.zero {n : Nat} {l} (h : Round n l) (hn : 0 < n) : 0 ∈ l := (h.mem 0).mp (v0 hn 0 (by simp))

/-! ### the next road, the tree -/
def nrS (d : Int → Int → Int) (w : Int) (best : Option (Int × Int)) (inner : Int) : Option (Int × Int) :=
  match best with
  | none => some (inner, w)
  | some b => if d inner w < d b.1 b.2 then some (inner, w) else some b
def nrI (d : Int → Int → Int) (sw : List Int) (w : Int) (best : Option (Int × Int)) : Option (Int × Int) := sw.foldl (nrS d w) best
def nrO (d : Int → Int → Int) (S sw : List Int) (best : Option (Int × Int)) (w : Int) : Option (Int × Int) := if w ∈ S then best else nrI d sw w best
def srt (S : List Int) : List Int := S.mergeSort (fun a b => decide (a ≤ b))
def nr (d : Int → Int → Int) (n : Nat) (S : List Int) : Option (Int × Int) := (places n).foldl (nrO d S (srt S)) none
def primF (d : Int → Int → Int) (n : Nat) : Nat → List Int → List (Int × Int)
  | 0, _ => []
  | f + 1, S => if S.length < n then match nr d n S with
    | some r => r :: primF d n f (S ++ [r.2])
    | none => []
    else []

/-- the best so far, of the pairs that G tells -/
def NB (d : Int → Int → Int) (G : Int → Int → Prop) : Option (Int × Int) → Prop
  | none => ∀ a b, ¬ G a b
  | some r => G r.1 r.2 ∧ ∀ a b, G a b → d r.1 r.2 ≤ d a b
theorem NB.congr {G G' : Int → Int → Prop} (h : ∀ a b, G a b ↔ G' a b) {o} (x : NB d G o) : NB d G' o := by
  have : G = G' := funext fun a => funext fun b => propext (h a b)
  exact this ▸ x
theorem NB.one {G : Int → Int → Prop} {o w i} (h : NB d G o) : NB d (fun a b => G a b ∨ (a = i ∧ b = w)) (nrS d w o i) := by
  cases o with
  | none =>
    refine ⟨.inr ⟨rfl, rfl⟩, ?_⟩
    rintro a b (z | ⟨rfl, rfl⟩)
    · exact absurd z (h a b)
    · exact Int.le_refl _
  | some r =>
    show NB d _ (if d i w < d r.1 r.2 then some (i, w) else some r)
    by_cases c : d i w < d r.1 r.2
    · rw [if_pos c]
      refine ⟨.inr ⟨rfl, rfl⟩, ?_⟩
      rintro a b (z | ⟨rfl, rfl⟩)
      · have := h.2 a b z
        simp only []; omega
      · exact Int.le_refl _
    · rw [if_neg c]
      refine ⟨.inl h.1, ?_⟩
      rintro a b (z | ⟨rfl, rfl⟩)
      · exact h.2 a b z
      · omega
theorem NB.inner {w : Int} : ∀ (sw : List Int) {G : Int → Int → Prop} {o}, NB d G o → NB d (fun a b => G a b ∨ (a ∈ sw ∧ b = w)) (nrI d sw w o)
  | [], G, o, h => by
    refine NB.congr ?_ h
    simp
  | i :: sw, G, o, h => by
    refine NB.congr ?_ (NB.inner sw h.one)
    intro a b
    simp only [List.mem_cons]
    constructor
    · rintro ((z | ⟨z, y⟩) | ⟨z, y⟩)
      · exact .inl z
      · exact .inr ⟨.inl z, y⟩
      · exact .inr ⟨.inr z, y⟩
    · rintro (z | ⟨z | z, y⟩)
      · exact .inl (.inl z)
      · exact .inl (.inr ⟨z, y⟩)
      · exact .inr ⟨z, y⟩
theorem NB.outer {S sw : List Int} (hs : ∀ x, x ∈ sw ↔ x ∈ S) : ∀ (ws : List Int) {G : Int → Int → Prop} {o}, NB d G o → NB d (fun a b => G a b ∨ (a ∈ S ∧ b ∈ ws ∧ b ∉ S)) (ws.foldl (nrO d S sw) o)
  | [], G, o, h => by
    refine NB.congr ?_ h
    simp
  | w :: ws, G, o, h => by
    show NB d _ (ws.foldl (nrO d S sw) (nrO d S sw o w))
    by_cases c : w ∈ S
    · rw [nrO, if_pos c]
      refine NB.congr ?_ (NB.outer hs ws h)
      intro a b
      simp only [List.mem_cons]
      constructor
      · rintro (z | ⟨z, y, x⟩)
        · exact .inl z
        · exact .inr ⟨z, .inr y, x⟩
      · rintro (z | ⟨z, rfl | y, x⟩)
        · exact .inl z
        · exact absurd c x
        · exact .inr ⟨z, y, x⟩
    · rw [nrO, if_neg c]
      refine NB.congr ?_ (NB.outer hs ws (NB.inner (w := w) sw h))
      intro a b
      simp only [List.mem_cons, hs]
      constructor
      · rintro ((z | ⟨z, rfl⟩) | ⟨z, y, x⟩)
        · exact .inl z
        · exact .inr ⟨z, .inl rfl, c⟩
        · exact .inr ⟨z, .inr y, x⟩
      · rintro (z | ⟨z, rfl | y, x⟩)
        · exact .inl (.inl z)
        · exact .inl (.inr ⟨z, rfl⟩)
        · exact .inr ⟨z, y, x⟩
theorem mem_srt {S : List Int} {x : Int} : x ∈ srt S ↔ x ∈ S := (List.mergeSort_perm S _).mem_iff
theorem nr_spec (n : Nat) (S : List Int) : NB d (fun a b => a ∈ S ∧ Vd n b ∧ b ∉ S) (nr d n S) := by
  refine NB.congr ?_ (NB.outer (d := d) (S := S) (sw := srt S) (fun x => mem_srt) (places n) (G := fun _ _ => False) (o := none) (fun _ _ z => z))
  intro a b
  simp [mem_places]

theorem sub_len : ∀ {S T : List Int}, S.Nodup → (∀ x ∈ S, x ∈ T) → S.length ≤ T.length ∧ (S.length = T.length → ∀ x ∈ T, x ∈ S)
  | [], T, _, _ => ⟨Nat.zero_le _, fun e x hx => by
    have : T = [] := List.length_eq_zero_iff.mp e.symm
    rw [this] at hx; exact hx⟩
  | y :: S, T, hS, h => by
    have hy := h y (by simp)
    rw [List.nodup_cons] at hS
    have p := List.perm_cons_erase hy
    have l := p.length_eq
    have ih := sub_len (S := S) (T := T.erase y) hS.2 (fun x hx => (List.mem_erase_of_ne (fun e : x = y => hS.1 (by rw [← e]; exact hx))).mpr (h x (by simp [hx])))
    simp only [List.length_cons] at *
    refine ⟨by omega, fun e x hx => ?_⟩
    rcases List.mem_cons.mp (p.mem_iff.mp hx) with rfl | z
    · simp
    · exact List.mem_cons_of_mem _ (ih.2 (by omega) x z)

theorem full_len {n : Nat} {S : List Int} (hS : S.Nodup) (hv : ∀ x ∈ S, Vd n x) : S.length ≤ n ∧ (S.length = n → ∀ x, Vd n x → x ∈ S) := by
  have := sub_len hS (T := places n) (fun x hx => mem_places.mpr (hv x hx))
  rw [places_len] at this
  exact ⟨this.1, fun e x vx => this.2 e x (mem_places.mpr vx)⟩

theorem nr_some {n : Nat} {S : List Int} (hS : S.Nodup) (hv : ∀ x ∈ S, Vd n x) (h0 : 0 ∈ S) (hl : S.length < n) : ∃ r, nr d n S = some r ∧ r.1 ∈ S ∧ r.2 ∉ S ∧ Vd n r.2 ∧ ∀ a b, a ∈ S → Vd n b → b ∉ S → d r.1 r.2 ≤ d a b := by
  have sp := nr_spec (d := d) n S
  cases e : nr d n S with
  | none =>
    rw [e] at sp
    exfalso
    have all : ∀ x, Vd n x → x ∈ S := fun x vx => Classical.byContradiction fun hx => sp 0 x ⟨h0, vx, hx⟩
    have p := perm_places hS fun x => ⟨all x, hv x⟩
    have := p.length_eq
    rw [places_len] at this
    omega
  | some r =>
    rw [e] at sp
    exact ⟨r, rfl, sp.1.1, sp.1.2.2, sp.1.2.1, fun a b h1 h2 h3 => sp.2 a b ⟨h1, h2, h3⟩⟩

theorem nodup_snoc {S : List Int} {b : Int} (hS : S.Nodup) (hb : b ∉ S) : (S ++ [b]).Nodup := by
  rw [List.nodup_append]
  refine ⟨hS, by simp, fun x hx y hy => ?_⟩
  have : y = b := by simpa using hy
  rw [this]
  rintro rfl
  exact hb hx

theorem primF_prim (n : Nat) : ∀ (f : Nat) (S : List Int), S.Nodup → (∀ x ∈ S, Vd n x) → 0 ∈ S → n ≤ S.length + f → Prim d (Vd n) S (primF d n f S)
  | 0, S, hS, hv, _, hf => .done (((full_len hS hv).2) (by have := (full_len hS hv).1; omega))
  | f + 1, S, hS, hv, h0, hf => by
    by_cases c : S.length < n
    · obtain ⟨r, e, h1, h2, h3, h4⟩ := nr_some (d := d) hS hv h0 c
      rw [primF, if_pos c, e]
      have hv' : ∀ x ∈ S ++ [r.2], Vd n x := fun x hx => by
        rcases List.mem_append.mp hx with z | z
        · exact hv x z
        · have : x = r.2 := by simpa using z
          exact this ▸ h3
      exact .step h1 h2 h3 h4 (primF_prim n f (S ++ [r.2]) (nodup_snoc hS h2) hv' (by simp [h0]) (by simp; omega))
    · rw [primF, if_neg c]
      exact .done ((full_len hS hv).2 (by have := (full_len hS hv).1; omega))

def tree (d : Int → Int → Int) (n : Nat) : List (Int × Int) := primF d n n [0]
theorem tree_prim {n : Nat} (hn : 0 < n) : Prim d (Vd n) [0] (tree d n) := primF_prim n n [0] (by simp) (v0 hn) (by simp) (by simp)

/-- one turn of the tree's loop: T so far -/
theorem primF_turn {n f : Nat} {S : List Int} {r} (c : S.length < n) (e : nr d n S = some r) : primF d n (f + 1) S = r :: primF d n f (S ++ [r.2]) := by
  rw [primF, if_pos c, e]
theorem primF_end {n f : Nat} {S : List Int} (c : ¬ S.length < n) : primF d n f S = [] := by
  cases f with
  | zero => rfl
  | succ f => rw [primF, if_neg c]

end
end KM

namespace KM
/-! ### tables of lengths -/
def mg (M : List (List Int)) (i j : Nat) : Int := (M.getD i []).getD j 0
structure Sq (n : Nat) (M : List (List Int)) : Prop where
  len : M.length = n
  row : ∀ r ∈ M, r.length = n
structure PreF (n : Nat) (M : List (List Int)) : Prop where
  sq : Sq n M
  nn : ∀ i j, i < n → j < n → 0 ≤ mg M i j
  zz : ∀ i, i < n → mg M i i = 0
  sy : ∀ i j, i < n → j < n → mg M i j = mg M j i
structure Good (n : Nat) (M : List (List Int)) : Prop where
  pre : PreF n M
  pos : 0 < n
  top : n ≤ 11
  tr : ∀ i j k, i < n → j < n → k < n → mg M i k ≤ mg M i j + mg M j k
def cl (n : Nat) (x : Int) : Nat := if 0 ≤ x ∧ x < (n : Int) then x.toNat else 0
def lm (n : Nat) (M : List (List Int)) (x y : Int) : Int := mg M (cl n x) (cl n y)
theorem cl_lt {n : Nat} (h : 0 < n) (x : Int) : cl n x < n := by
  unfold cl
  split
  · omega
  · exact h
theorem cl_nat {n i : Nat} (h : i < n) : cl n (i : Int) = i := by
  unfold cl
  rw [if_pos (by omega)]
  omega
theorem cl_vd {n : Nat} {x : Int} (h : Vd n x) : cl n x = x.toNat ∧ (x.toNat : Int) = x ∧ x.toNat < n := by
  unfold Vd at h
  unfold cl
  rw [if_pos h]
  omega
theorem lm_nat {n i j : Nat} {M} (hi : i < n) (hj : j < n) : lm n M (i : Int) (j : Int) = mg M i j := by
  unfold lm
  rw [cl_nat hi, cl_nat hj]
theorem Good.met {n M} (G : Good n M) : Met (lm n M) where
  nn := fun x y => G.pre.nn _ _ (cl_lt G.pos x) (cl_lt G.pos y)
  zz := fun x => G.pre.zz _ (cl_lt G.pos x)
  sy := fun x y => G.pre.sy _ _ (cl_lt G.pos x) (cl_lt G.pos y)
  tr := fun x y z => G.tr _ _ _ (cl_lt G.pos x) (cl_lt G.pos y) (cl_lt G.pos z)
theorem mg_at {n : Nat} {M : List (List Int)} (S : Sq n M) {i j : Nat} (hi : i < n) (hj : j < n) : ∃ row, M[i]? = some row ∧ row.length = n ∧ row[j]? = some (mg M i j) := by
  have hi' : i < M.length := by rw [S.len]; exact hi
  have hr := S.row M[i] (List.getElem_mem hi')
  refine ⟨M[i], List.getElem?_eq_getElem hi', hr, ?_⟩
  have hj' : j < M[i].length := by rw [hr]; exact hj
  rw [List.getElem?_eq_getElem hj']
  unfold mg
  simp [List.getD_eq_getElem?_getD, List.getElem?_eq_getElem hi', List.getElem?_eq_getElem hj']
def mset (M : List (List Int)) (i j : Nat) (v : Int) : List (List Int) := M.set i ((M.getD i []).set j v)
theorem mset_sq {n : Nat} {M : List (List Int)} (S : Sq n M) {i j : Nat} {v : Int} (hi : i < n) : Sq n (mset M i j v) := by
  have hi' : i < M.length := by rw [S.len]; exact hi
  refine ⟨by unfold mset; rw [List.length_set]; exact S.len, fun r hr => ?_⟩
  unfold mset at hr
  rcases List.mem_or_eq_of_mem_set hr with h | h
  · exact S.row r h
  · rw [h, List.length_set, List.getD_eq_getElem?_getD, List.getElem?_eq_getElem hi']
    exact S.row _ (List.getElem_mem hi')
theorem mg_mset {n : Nat} {M : List (List Int)} (S : Sq n M) {i j : Nat} {v : Int} (hi : i < n) (hj : j < n) (a b : Nat) : mg (mset M i j v) a b = if a = i ∧ b = j then v else mg M a b := by
  have hi' : i < M.length := by rw [S.len]; exact hi
  have hr := S.row M[i] (List.getElem_mem hi')
  unfold mg mset
  simp only [List.getD_eq_getElem?_getD, List.getElem?_set]
  by_cases h : i = a
  · subst h
    simp only [hi', List.getElem?_eq_getElem, if_true, Option.getD_some, List.getElem?_set]
    by_cases h2 : j = b
    · subst h2
      simp [hr, hj]
    · rw [if_neg h2, if_neg (by intro z; exact h2 z.2.symm)]
  · rw [if_neg h, if_neg (by intro z; exact h z.1.symm)]

/-! ### the grid -/
def gridM (ps : List (Int × Int)) : List (List Int) := ps.map fun p => ps.map fun q => (if p.1 - q.1 < 0 then -(p.1 - q.1) else p.1 - q.1) + (if p.2 - q.2 < 0 then -(p.2 - q.2) else p.2 - q.2)
def ab (x : Int) : Int := if x < 0 then -x else x
theorem grid_at {ps : List (Int × Int)} {i j : Nat} (hi : i < ps.length) (hj : j < ps.length) : mg (gridM ps) i j = ab (ps[i].1 - ps[j].1) + ab (ps[i].2 - ps[j].2) := by
  unfold mg gridM
  simp [List.getD_eq_getElem?_getD, List.getElem?_map, List.getElem?_eq_getElem hi, List.getElem?_eq_getElem hj, ab]
theorem ab_nn (x : Int) : 0 ≤ ab x := by unfold ab; split <;> omega
theorem ab_sy (x y : Int) : ab (x - y) = ab (y - x) := by unfold ab; split <;> split <;> omega
theorem ab_tr (x y z : Int) : ab (x - z) ≤ ab (x - y) + ab (y - z) := by unfold ab; split <;> split <;> split <;> omega
theorem ab_zz (x : Int) : ab (x - x) = 0 := by unfold ab; split <;> omega
theorem grid_good {ps : List (Int × Int)} (h0 : 0 < ps.length) (h1 : ps.length ≤ 11) : Good ps.length (gridM ps) where
  pre := {
    sq := ⟨by simp [gridM], fun r hr => by
      unfold gridM at hr
      obtain ⟨p, _, rfl⟩ := List.mem_map.mp hr
      simp⟩
    nn := fun i j hi hj => by
      rw [grid_at hi hj]
      have := ab_nn (ps[i].1 - ps[j].1)
      have := ab_nn (ps[i].2 - ps[j].2)
      omega
    zz := fun i hi => by rw [grid_at hi hi, ab_zz, ab_zz]; rfl
    sy := fun i j hi hj => by rw [grid_at hi hj, grid_at hj hi, ab_sy, ab_sy ps[i].2] }
  pos := h0
  top := h1
  tr := fun i j k hi hj hk => by
    rw [grid_at hi hk, grid_at hi hj, grid_at hj hk]
    have := ab_tr ps[i].1 ps[j].1 ps[k].1
    have := ab_tr ps[i].2 ps[j].2 ps[k].2
    omega

/-! ### numbers laid in both ways -/
/-- the places (one, other) below so and so are filled -/
structure Fill (n : Nat) (lo hi : Int) (one other : Nat) (M : List (List Int)) : Prop where
  pre : PreF n M
  bd : ∀ i j, i < n → j < i → (i < one ∨ (i = one ∧ j < other)) → lo ≤ mg M i j ∧ mg M i j ≤ hi
theorem Fill.step {n : Nat} {lo hi : Int} {one other : Nat} {M : List (List Int)} {v : Int} (F : Fill n lo hi one other M) (h1 : one < n) (h2 : other < one) (hv : 0 ≤ v) (hl : lo ≤ v) (hh : v ≤ hi) :
    Fill n lo hi one (other + 1) (mset (mset M one other v) other one v) := by
  have h3 : other < n := by omega
  have S1 := mset_sq (v := v) (j := other) F.pre.sq h1
  have S2 := mset_sq (v := v) (j := one) S1 h3
  have e : ∀ a b, mg (mset (mset M one other v) other one v) a b = if (a = other ∧ b = one) ∨ (a = one ∧ b = other) then v else mg M a b := by
    intro a b
    rw [mg_mset S1 h3 h1, mg_mset F.pre.sq h1 h3]
    by_cases c1 : a = other ∧ b = one
    · rw [if_pos c1, if_pos (.inl c1)]
    · rw [if_neg c1]
      by_cases c2 : a = one ∧ b = other
      · rw [if_pos c2, if_pos (.inr c2)]
      · rw [if_neg c2, if_neg (fun z => z.elim c1 c2)]
  refine ⟨⟨S2, fun i j hi hj => ?_, fun i hi => ?_, fun i j hi hj => ?_⟩, fun i j hi hj q => ?_⟩
  · rw [e]
    split
    · exact hv
    · exact F.pre.nn i j hi hj
  · rw [e, if_neg (by omega)]
    exact F.pre.zz i hi
  · rw [e, e]
    have := F.pre.sy i j hi hj
    by_cases c : (i = other ∧ j = one) ∨ (i = one ∧ j = other)
    · rw [if_pos c, if_pos (by omega)]
    · rw [if_neg c, if_neg (by omega)]
      exact this
  · rw [e]
    by_cases c : (i = other ∧ j = one) ∨ (i = one ∧ j = other)
    · rw [if_pos c]
      exact ⟨hl, hh⟩
    · rw [if_neg c]
      exact F.bd i j hi hj (by omega)
theorem Fill.next {n : Nat} {lo hi : Int} {one : Nat} {M : List (List Int)} (F : Fill n lo hi one one M) : Fill n lo hi (one + 1) 0 M :=
  ⟨F.pre, fun i j h1 h2 q => F.bd i j h1 h2 (by omega)⟩
theorem Fill.start {n : Nat} {lo hi : Int} {M : List (List Int)} (F : PreF n M) : Fill n lo hi 0 0 M := ⟨F, fun i j _ _ q => by omega⟩
theorem Fill.good {n : Nat} {top : Int} {M : List (List Int)} (F : Fill n top (top + top) n 0 M) (h0 : 0 < n) (h1 : n ≤ 11) : Good n M := by
  have b : ∀ i j, i < n → j < n → i ≠ j → top ≤ mg M i j ∧ mg M i j ≤ top + top := fun i j hi hj ne => by
    by_cases c : j < i
    · exact F.bd i j hi c (.inl hi)
    · rw [F.pre.sy i j hi hj]
      exact F.bd j i hj (by omega) (.inl hj)
  refine ⟨F.pre, h0, h1, fun i j k hi hj hk => ?_⟩
  by_cases c1 : i = j
  · subst c1
    rw [F.pre.zz i hi]; omega
  · by_cases c2 : j = k
    · subst c2
      rw [F.pre.zz j hj]; omega
    · by_cases c3 : i = k
      · subst c3
        rw [F.pre.zz i hi]
        have := F.pre.nn i j hi hj
        have := F.pre.nn j i hj hi
        omega
      · have := b i j hi hj c1
        have := b j k hj hk c2
        have := b i k hi hk c3
        omega
def zeros (n : Nat) : List (List Int) := List.replicate n (List.replicate n 0)
theorem zeros_pre (n : Nat) : PreF n (zeros n) := by
  have e : ∀ i j, mg (zeros n) i j = 0 := fun i j => by
    unfold mg zeros
    simp only [List.getD_eq_getElem?_getD, List.getElem?_replicate]
    split
    · simp only [Option.getD_some, List.getElem?_replicate]
      split <;> rfl
    · rfl
  exact ⟨⟨by simp [zeros], fun r hr => by
    rw [List.eq_of_mem_replicate hr]; simp⟩, fun i j _ _ => by rw [e]; exact Int.le_refl 0, fun i _ => e i i, fun i j _ _ => by rw [e, e]⟩

/-! ### shortest ways -/
def mn (x y : Int) : Int := if y < x then y else x
structure Ph (n a : Nat) (M : List (List Int)) : Prop where
  pre : PreF n M
  tr : ∀ k, k < a → ∀ i j, i < n → j < n → mg M i j ≤ mg M i k + mg M k j
theorem Ph.start {n M} (P : PreF n M) : Ph n 0 M := ⟨P, fun k h => by omega⟩
theorem Ph.good {n M} (P : Ph n n M) (h0 : 0 < n) (h1 : n ≤ 11) : Good n M := ⟨P.pre, h0, h1, fun i j k hi hj hk => P.tr j hj i k hi hk⟩
theorem Ph.step {n a : Nat} {M M' : List (List Int)} (P : Ph n a M) (ha : a < n) (S : Sq n M') (e : ∀ i j, i < n → j < n → mg M' i j = mn (mg M i j) (mg M i a + mg M a j)) : Ph n (a + 1) M' := by
  have nn := P.pre.nn
  have zz := P.pre.zz a ha
  refine ⟨⟨S, fun i j hi hj => ?_, fun i hi => ?_, fun i j hi hj => ?_⟩, fun k hk i j hi hj => ?_⟩
  · rw [e i j hi hj]
    have := nn i j hi hj
    have := nn i a hi ha
    have := nn a j ha hj
    unfold mn; split <;> omega
  · rw [e i i hi hi]
    have := nn i a hi ha
    have := nn a i ha hi
    have := P.pre.zz i hi
    unfold mn; split <;> omega
  · rw [e i j hi hj, e j i hj hi]
    have := P.pre.sy i j hi hj
    have := P.pre.sy i a hi ha
    have := P.pre.sy a j ha hj
    unfold mn; split <;> split <;> omega
  · have hkn : k < n := by omega
    rw [e i j hi hj, e i k hi hkn, e k j hkn hj]
    have q1 := nn i a hi ha
    have q2 := nn a j ha hj
    have q3 := nn k a hkn ha
    have q4 := nn a k ha hkn
    by_cases c : k = a
    · subst c
      unfold mn; split <;> split <;> split <;> omega
    · have hka : k < a := by omega
      have t1 := P.tr k hka i j hi hj
      have t2 := P.tr k hka a j ha hj
      have t3 := P.tr k hka i a hi ha
      unfold mn; split <;> split <;> split <;> omega
/-- amid a turn -/
structure Mid (n a : Nat) (M₀ : List (List Int)) (one other : Nat) (M : List (List Int)) : Prop where
  sq : Sq n M
  at_ : ∀ i j, i < n → j < n → mg M i j = if i < one ∨ (i = one ∧ j < other) then mn (mg M₀ i j) (mg M₀ i a + mg M₀ a j) else mg M₀ i j
theorem Mid.start {n a : Nat} {M : List (List Int)} (S : Sq n M) : Mid n a M 0 0 M := ⟨S, fun i j _ _ => by rw [if_neg (by omega)]⟩
theorem Mid.next {n a one : Nat} {M₀ M : List (List Int)} (S : Mid n a M₀ one n M) : Mid n a M₀ (one + 1) 0 M := ⟨S.sq, fun i j hi hj => by
  rw [S.at_ i j hi hj]
  by_cases c : i < one ∨ (i = one ∧ j < n)
  · rw [if_pos c, if_pos (by omega)]
  · rw [if_neg c, if_neg (by omega)]⟩
theorem Mid.step {n a one other : Nat} {M₀ M : List (List Int)} (P : PreF n M₀) (S : Mid n a M₀ one other M) (ha : a < n) (h1 : one < n) (h2 : other < n) :
    Mid n a M₀ one (other + 1) (mset M one other (mn (mg M one other) (mg M one a + mg M a other))) := by
  have zz := P.zz a ha
  have e1 : mg M one a = mg M₀ one a := by
    rw [S.at_ one a h1 ha]
    have := P.nn one a h1 ha
    unfold mn; split <;> (try split) <;> omega
  have e2 : mg M a other = mg M₀ a other := by
    rw [S.at_ a other ha h2]
    have := P.nn a other ha h2
    unfold mn; split <;> (try split) <;> omega
  have e3 : mg M one other = mg M₀ one other := by
    rw [S.at_ one other h1 h2, if_neg (by omega)]
  refine ⟨mset_sq S.sq h1, fun i j hi hj => ?_⟩
  rw [mg_mset S.sq h1 h2, e1, e2, e3]
  by_cases c : i = one ∧ j = other
  · obtain ⟨rfl, rfl⟩ := c
    rw [if_pos ⟨rfl, rfl⟩, if_pos (by omega)]
  · rw [if_neg c, S.at_ i j hi hj]
    by_cases c2 : i < one ∨ (i = one ∧ j < other)
    · rw [if_pos c2, if_pos (by omega)]
    · rw [if_neg c2, if_neg (by omega)]
theorem Mid.done {n a : Nat} {M₀ M : List (List Int)} (P : Ph n a M₀) (S : Mid n a M₀ n 0 M) (ha : a < n) : Ph n (a + 1) M :=
  P.step ha S.sq fun i j hi hj => by rw [S.at_ i j hi hj, if_pos (.inl hi)]
end KM

namespace KP
open PySem PySem.Spec PyProof.Rows L2 KM
/-! ### the text by places -/
def topS (i : Nat) : Stmt := PySem.Challenge.pw_goodenough_k19_whole_any_round.main.body.getD i (.Pass ⟨0, 0, 0, 0⟩)

/-- the built-in names that the program reads -/
structure Txt (mg : Str → Option Value) : Prop where
  len_ : mg "len" = none
  range_ : mg "range" = none
  sorted_ : mg "sorted" = none
  abs_ : mg "abs" = none
  min_ : mg "min" = none
  list_ : mg "list" = none
  int_ : mg "int" = none
  bool_ : mg "bool" = none
  isinstance_ : mg "isinstance" = none
  zip_ : mg "zip" = none
  enumerate_ : mg "enumerate" = none

/-! ### heaps -/
theorem _root_.L2.Same.new {H : Hp} {l : Addr} {o : HO} (n : H l = none) : Same H (upd H l o) := fun b x e => by
  rw [upd_ne (ne_of_none e n)]
  exact e
theorem _root_.L2.Same.put {H0 H : Hp} {l : Addr} {o : HO} (s : Same H0 H) (n : H0 l = none) : Same H0 (upd H l o) := fun b x e => by
  rw [upd_ne (ne_of_none e n)]
  exact s b x e
theorem small {n : Nat} (h : n ≤ 1000) : n ≤ sizeLine := Nat.le_of_lt (small1000 h)

/-- places and numbers as values -/
abbrev vi (l : List Int) : List V := l.map V.int
theorem vi_get {l : List Int} {i : Nat} {x : Int} (h : l[i]? = some x) : (vi l)[i]? = some (.int x) := by
  rw [List.getElem?_map, h]; rfl
theorem vi_inv {l : List Int} {i : Nat} {v : V} (h : (vi l)[i]? = some v) : ∃ x, l[i]? = some x ∧ v = .int x := by
  rw [List.getElem?_map] at h
  cases e : l[i]? with
  | none => rw [e] at h; cases h
  | some x => rw [e] at h; exact ⟨x, rfl, (Option.some.inj h).symm⟩
theorem vi_len (l : List Int) : (vi l).length = l.length := List.length_map _
theorem vi_at {l : List Int} {i : Nat} (h : i < l.length) : atI (vi l) (i : Int) = some (.int l[i]) := atI_nat (vi_get (List.getElem?_eq_getElem h))
theorem at_z {xs : List V} {z : Int} {v : V} (h0 : 0 ≤ z) (h : xs[z.toNat]? = some v) : atI xs z = some v := at_of (j := z.toNat) (by omega) h
theorem flat_vi (l : List Int) : (vi l).all flatV = true := by
  rw [List.all_eq_true]
  intro x hx
  obtain ⟨y, _, rfl⟩ := List.mem_map.mp hx
  rfl
theorem in_vi (x : Int) : ∀ l : List Int, inV (.int x) (vi l) = decide (x ∈ l)
  | [] => by simp [inV]
  | y :: l => by
    have ih := in_vi x l
    unfold inV at *
    rw [show vi (y :: l) = .int y :: vi l from rfl, List.any_cons, ih]
    have : eqV (.int y) (.int x) = decide (y = x) := by
      by_cases h : y = x
      · subst h; simp [eqV]
      · simp [eqV, h]
    rw [this]
    by_cases h : x = y
    · subst h; simp
    · have h' : ¬ y = x := fun z => h z.symm
      by_cases h2 : x ∈ l <;> simp [h, h', h2]

/-! ### a table of lengths that stands at L, its lines at rs -/
structure MatAt (K : PySem.W.Frag) (H : Hp) (L : Addr) (rs : List Addr) (M : List (List Int)) : Prop where
  top : SqL K H L (rs.map V.ref)
  len : rs.length = M.length
  row : ∀ (i : Nat) (row : List Int), M[i]? = some row → ∃ r, rs[i]? = some r ∧ SqL K H r (vi row)
section
variable {K : PySem.W.Frag} {H H' : Hp} {L : Addr} {rs : List Addr} {M : List (List Int)} {n : Nat}
theorem MatAt.same (m : MatAt K H L rs M) (s : Same H H') : MatAt K H' L rs M := ⟨s.seq m.top, m.len, fun i row h => let ⟨r, h1, h2⟩ := m.row i row h; ⟨r, h1, s.seq h2⟩⟩
theorem MatAt.line (m : MatAt K H L rs M) {i : Nat} {row : List Int} (h : M[i]? = some row) : ∃ r, atI (rs.map V.ref) (i : Int) = some (.ref r) ∧ SqL K H r (vi row) := by
  obtain ⟨r, h1, h2⟩ := m.row i row h
  exact ⟨r, atI_nat (by rw [List.getElem?_map, h1]; rfl), h2⟩
/-- lengths[x][y] -/
theorem MatAt.get (m : MatAt K H L rs M) (S : Sq n M) {x y : Int} (hx : Vd n x) (hy : Vd n y) :
    ∃ r row, atI (rs.map V.ref) x = some (.ref r) ∧ SqL K H r (vi row) ∧ atI (vi row) y = some (.int (lm n M x y)) := by
  obtain ⟨c1, c2, c3⟩ := cl_vd hx
  obtain ⟨d1, d2, d3⟩ := cl_vd hy
  obtain ⟨row, h1, h2, h3⟩ := mg_at S c3 d3
  obtain ⟨r, e1, e2⟩ := m.line h1
  rw [c2] at e1
  refine ⟨r, row, e1, e2, ?_⟩
  have := atI_nat (vi_get h3)
  rw [d2] at this
  unfold lm
  rw [c1, d1]
  exact this
theorem MatAt.len_n (m : MatAt K H L rs M) (S : Sq n M) : (rs.map V.ref).length = n := by rw [List.length_map, m.len, S.len]
end
/-- the reading of lengths[x][y], the parts being read without a change of the heap -/
theorem rd2 {K : PySem.W.Frag} {H : Hp} {L : Addr} {rs : List Addr} {M : List (List Int)} {n : Nat} {tL tx ty : TE} {σ : L2.St} {Q : V → Hp → Prop} {x y : Int} (m : MatAt K H L rs M) (S : Sq n M) (hx : Vd n x) (hy : Vd n y)
    (hL : ∀ R : V → Hp → Prop, R (.ref L) H → tL σ H R) (h1 : ∀ R : V → Hp → Prop, R (.int x) H → tx σ H R) (h2 : ∀ R : V → Hp → Prop, R (.int y) H → ty σ H R) (q : Q (.int (lm n M x y)) H) :
    tOp (rIxL K) (tOp (rIxL K) tL tx) ty σ H Q := by
  obtain ⟨r, row, e1, e2, e3⟩ := m.get S hx hy
  refine hL _ (h1 _ ⟨L, _, _, _, rfl, rfl, m.top, e1, h2 _ ⟨r, _, _, _, rfl, rfl, e2, e3, q⟩⟩)
/-- a name's reading -/
theorem rdv {σ : L2.St} {H : Hp} {i : Nat} {v : V} (h : σ[i]? = some (some v)) : ∀ R : V → Hp → Prop, R v H → tVar i σ H R := fun R q => ⟨v, h, q⟩

/-! ### roads: a list of tuples of two places -/
def TupsOf (H : Hp) (vs : List V) (rs : List (Int × Int)) : Prop := vs.length = rs.length ∧ ∀ (i : Nat) (r : Int × Int), rs[i]? = some r → ∃ t : Addr, vs[i]? = some (V.ref t) ∧ H t = some (.tup [.int r.1, .int r.2])
structure RdsAt (H : Hp) (p : Addr) (rs : List (Int × Int)) : Prop where
  ex : ∃ vs, H p = some (.lst vs) ∧ TupsOf H vs rs
section
variable {H H' : Hp} {vs ws : List V} {rs qs : List (Int × Int)} {p : Addr}
theorem TupsOf.keep (h : TupsOf H vs rs) (k : ∀ t xs, H t = some (.tup xs) → H' t = some (.tup xs)) : TupsOf H' vs rs :=
  ⟨h.1, fun i r e => let ⟨t, h1, h2⟩ := h.2 i r e; ⟨t, h1, k t _ h2⟩⟩
theorem TupsOf.same (h : TupsOf H vs rs) (s : Same H H') : TupsOf H' vs rs := h.keep fun t xs e => s t _ e
/-- a list is written: the tuples stay -/
theorem TupsOf.put {l : Addr} {xs ys : List V} (h : TupsOf H vs rs) (e : H l = some (.lst xs)) : TupsOf (upd H l (.lst ys)) vs rs := h.keep fun t zs q => by
  rw [upd_ne (ne_of q e (by intro z; cases z))]
  exact q
theorem TupsOf.new {l : Addr} {o : HO} (h : TupsOf H vs rs) (e : H l = none) : TupsOf (upd H l o) vs rs := h.same (Same.new e)
theorem TupsOf.nil : TupsOf H [] [] := ⟨rfl, fun i r e => by simp at e⟩
theorem TupsOf.append (h : TupsOf H vs rs) (g : TupsOf H ws qs) : TupsOf H (vs ++ ws) (rs ++ qs) := by
  refine ⟨by rw [List.length_append, List.length_append, h.1, g.1], fun i r e => ?_⟩
  rw [List.getElem?_append] at e ⊢
  rw [h.1]
  split at e
  · rw [if_pos (by assumption)]
    exact h.2 i r e
  · rw [if_neg (by assumption)]
    exact g.2 _ r e
theorem TupsOf.one {t : Addr} {a b : Int} (h : H t = some (.tup [.int a, .int b])) : TupsOf H [.ref t] [(a, b)] := by
  refine ⟨rfl, fun i r e => ?_⟩
  cases i with
  | zero => cases e; exact ⟨t, rfl, h⟩
  | succ i => simp at e
theorem TupsOf.erase (h : TupsOf H vs rs) (k : Nat) : TupsOf H (vs.eraseIdx k) (rs.eraseIdx k) := by
  refine ⟨by rw [List.length_eraseIdx, List.length_eraseIdx, h.1], fun i r e => ?_⟩
  rw [List.getElem?_eraseIdx] at e ⊢
  split at e
  · rw [if_pos (by assumption)]; exact h.2 _ _ e
  · rw [if_neg (by assumption)]; exact h.2 _ _ e
theorem TupsOf.at_ (h : TupsOf H vs rs) {i : Nat} {v : V} (e : vs[i]? = some v) : ∃ r t, rs[i]? = some r ∧ v = .ref t ∧ H t = some (.tup [.int r.1, .int r.2]) := by
  have hi := (List.getElem?_eq_some_iff.mp e).1
  rw [h.1] at hi
  obtain ⟨t, h1, h2⟩ := h.2 i rs[i] (List.getElem?_eq_getElem hi)
  rw [h1] at e
  exact ⟨rs[i], t, List.getElem?_eq_getElem hi, (Option.some.inj e).symm, h2⟩
theorem RdsAt.same (h : RdsAt H p rs) (s : Same H H') : RdsAt H' p rs := let ⟨vs, h1, h2⟩ := h.ex; ⟨vs, s _ _ h1, h2.same s⟩
end
/-! ### alike_both_ways -/
abbrev sAlikeBothWays : Stmt := topS 4
abbrev nAlikeBothWays : List Str := ["lengths", "one", "other"]
theorem scAlikeBothWays : FnScope nAlikeBothWays ["lengths", "one", "other"] (C8.fnScope sAlikeBothWays) := C8.fnScope_by (by decide +kernel)
def spAlike (K : PySem.W.Frag) : Sp := fun vs H Q _ => ∃ (L : Addr) (rs : List Addr) (M : List (List Int)) (n : Nat) (x y : Int), vs = [.ref L, .int x, .int y] ∧ MatAt K H L rs M ∧ Good n M ∧ Vd n x ∧ Vd n y ∧ Q (.bl true) H
section
variable {P : Program} {w : World} {K : PySem.W.Frag} {mg : Str → Option Value} {base : Heap} {f : Addr} {fd : FuncData}
theorem ok_alike (D : C8.Def K mg "alike_both_ways" sAlikeBothWays f fd) (b : Binds K fd ["lengths", "one", "other"] []) (T : Txt mg) : C8.Cal P w K mg base 1 "alike_both_ways" (spAlike K) [] := by
  refine C8.cal0 D b .nil scAlikeBothWays (fun vs H Q E h => ?_) (fun cdv A outer s H vs Q E hr h => ?_)
  · obtain ⟨L, rs, M, n, x, y, rfl, _⟩ := h
    rfl
  obtain ⟨L, rs, M, n, x, y, rfl, m, G, hx, hy, q⟩ := h
  refine ⟨_, (pss_cons (ps_if (pt_cmpR op_eq (pv 1) (pv 2) (nomark _))
 (pss_one (ps_ret (pe_cmpR op_eq (pe_ix ix_list (pe_ix ix_list (pv 0) (pv 1) (fun _ _ => rfl)) (pv 1) (fun _ _ => rfl)) pe_int (nomark _))))
 pss_nil)
 (pss_one (ps_ret (pe_cmpR op_eq (pe_ix ix_list (pe_ix ix_list (pv 0) (pv 1) (fun _ _ => rfl)) (pv 2) (fun _ _ => rfl)) (pe_ix ix_list (pe_ix ix_list (pv 0) (pv 2) (fun _ _ => rfl)) (pv 1) (fun _ _ => rfl)) (nomark _))))), ?_⟩
  refine ⟨_, rfl, _, rfl, rfl, _, rfl, ite2 (fun c => ?_) (fun c => ?_)⟩
  · refine rd2 m G.pre.sq hx hx (rdv rfl) (rdv rfl) (rdv rfl) ⟨rfl, ?_⟩
    rw [G.met.zz]
    exact q
  · refine rd2 m G.pre.sq hx hy (rdv rfl) (rdv rfl) (rdv rfl) ?_
    refine rd2 m G.pre.sq hy hx (rdv rfl) (rdv rfl) (rdv rfl) ⟨rfl, ?_⟩
    rw [G.met.sy y x, decide_eq_true rfl]
    exact q
end
/-! ### straight_is_least -/
abbrev sStraightIsLeast : Stmt := topS 5
abbrev nStraightIsLeast : List Str := ["lengths", "one", "other", "amid"]
theorem scStraightIsLeast : FnScope nStraightIsLeast ["lengths", "one", "other"] (C8.fnScope sStraightIsLeast) := C8.fnScope_by (by decide +kernel)
section
variable {P : Program} {w : World} {K : PySem.W.Frag} {mg : Str → Option Value} {base : Heap} {f : Addr} {fd : FuncData}
theorem vd_nat {n i : Nat} (h : i < n) : Vd n (i : Int) := by unfold Vd; omega
theorem ok_straight (D : C8.Def K mg "straight_is_least" sStraightIsLeast f fd) (b : Binds K fd ["lengths", "one", "other"] []) (T : Txt mg) : C8.Cal P w K mg base 1 "straight_is_least" (spAlike K) [] := by
  refine C8.cal0 D b .nil scStraightIsLeast (fun vs H Q E h => ?_) (fun cdv A outer s H vs Q E hr h => ?_)
  · obtain ⟨L, rs, M, n, x, y, rfl, _⟩ := h
    rfl
  obtain ⟨L, rs, M, n, x, y, rfl, m, G, hx, hy, q⟩ := h
  refine ⟨_, (pss_cons (ps_for PassesOwn.never rfl (pi_range1 (by rfl) T.range_ (pa_cons (pe_callB call_len_seq (by rfl) T.len_ PySem.boot_len (pa_cons (pv 0) pa_nil)) pa_nil)) (pg_name (i := 3) scStraightIsLeast.nd rfl (.inl rfl))
 (pss_one (ps_if (pt_cmpR op_lt (pe_op op_add (pe_ix ix_list (pe_ix ix_list (pv 0) (pv 1) (fun _ _ => rfl)) (pv 3) (fun _ _ => rfl)) (pe_ix ix_list (pe_ix ix_list (pv 0) (pv 3) (fun _ _ => rfl)) (pv 2) (fun _ _ => rfl))) (pe_ix ix_list (pe_ix ix_list (pv 0) (pv 1) (fun _ _ => rfl)) (pv 2) (fun _ _ => rfl)) (nomark _))
 (pss_one (ps_ret pe_bl))
 pss_nil)))
 (pss_one (ps_ret pe_bl))), ?_⟩
  have top := G.top
  refine ⟨_, rfl, L, _, rfl, .inl m.top, _, rfl, by omega, by rw [m.len_n G.pre.sq]; omega, ?_⟩
  rw [m.len_n G.pre.sq]
  refine for_range (lo := 0) (n := n) (fun i σ H2 => ∃ v, σ = [some (.ref L), some (.int x), some (.int y), v] ∧ H2 = H) ⟨none, rfl, rfl⟩ ?_ ?_
  · rintro i σ H2 hi ⟨v, rfl, rfl⟩
    have hz : Vd n (0 + (i : Int)) := by unfold Vd; omega
    refine rd2 m G.pre.sq hx hz (rdv rfl) (rdv rfl) (rdv rfl) ?_
    refine rd2 m G.pre.sq hz hy (rdv rfl) (rdv rfl) (rdv rfl) ?_
    refine ⟨_, _, rfl, rfl, ?_⟩
    refine rd2 m G.pre.sq hx hy (rdv rfl) (rdv rfl) (rdv rfl) ?_
    refine ⟨_, _, rfl, rfl, _, rfl, ?_⟩
    refine ite2 (fun c => ?_) (fun c => ?_)
    · have c' := of_decide_eq_true c
      have := G.met.tr x (0 + (i : Int)) y
      omega
    · exact ⟨_, rfl, rfl⟩
  · rintro σ H2 ⟨v, rfl, rfl⟩
    exact q
end
/-! ### look_at -/
abbrev sLookAt : Stmt := topS 6
abbrev nLookAt : List Str := ["lengths", "one", "other"]
theorem scLookAt : FnScope nLookAt ["lengths"] (C8.fnScope sLookAt) := C8.fnScope_by (by decide +kernel)
def spLook (K : PySem.W.Frag) : Sp := fun vs H Q _ => ∃ (L : Addr) (rs : List Addr) (M : List (List Int)) (n : Nat), vs = [.ref L] ∧ MatAt K H L rs M ∧ Good n M ∧ Q .non H
section
variable {P : Program} {w : World} {K : PySem.W.Frag} {mg : Str → Option Value} {base : Heap} {f : Addr} {fd : FuncData}
theorem ok_look (D : C8.Def K mg "look_at" sLookAt f fd) (b : Binds K fd ["lengths"] []) (T : Txt mg)
    (cAlikeBothWays : C8.Cal P w K mg base 1 "alike_both_ways" (spAlike K) []) (cStraightIsLeast : C8.Cal P w K mg base 1 "straight_is_least" (spAlike K) []) : C8.Cal P w K mg base 2 "look_at" (spLook K) [] := by
  refine C8.cal0 D b .nil scLookAt (fun vs H Q E h => ?_) (fun cdv A outer s H vs Q E hr h => ?_)
  · obtain ⟨L, rs, M, n, rfl, _⟩ := h
    rfl
  obtain ⟨L, rs, M, n, rfl, m, G, q⟩ := h
  refine ⟨_, (pss_cons (ps_for PassesOwn.never rfl (pi_range1 (by rfl) T.range_ (pa_cons (pe_callB call_len_seq (by rfl) T.len_ PySem.boot_len (pa_cons (pv 0) pa_nil)) pa_nil)) (pg_name (i := 1) scLookAt.nd rfl (.inl rfl))
 (pss_one (ps_for PassesOwn.never rfl (pi_range1 (by rfl) T.range_ (pa_cons (pe_callB call_len_seq (by rfl) T.len_ PySem.boot_len (pa_cons (pv 0) pa_nil)) pa_nil)) (pg_name (i := 2) scLookAt.nd rfl (.inl rfl))
 (pss_one (ps_if (PW.pt (pw_or (pt_not (pt_val (C8.pe_c cAlikeBothWays hr (by omega) (by rfl) (pa_cons (pv 0) (pa_cons (pv 1) (pa_cons (pv 2) pa_nil)))))) (pw_or1 (pt_not (pt_val (C8.pe_c cStraightIsLeast hr (by omega) (by rfl) (pa_cons (pv 0) (pa_cons (pv 1) (pa_cons (pv 2) pa_nil)))))))))
 (pss_one ps_never)
 pss_nil)))))
 (pss_one (ps_ret pe_non))), ?_⟩
  have top := G.top
  refine ⟨_, rfl, L, _, rfl, .inl m.top, _, rfl, by omega, by rw [m.len_n G.pre.sq]; omega, ?_⟩
  rw [m.len_n G.pre.sq]
  refine for_range (lo := 0) (n := n) (fun i σ H2 => ∃ u v, σ = [some (.ref L), u, v] ∧ H2 = H) ⟨none, none, rfl, rfl⟩ ?_ ?_
  · rintro i σ H2 hi ⟨u, v, rfl, rfl⟩
    have hx : Vd n (0 + (i : Int)) := by unfold Vd; omega
    refine ⟨_, rfl, L, _, rfl, .inl m.top, _, rfl, by omega, by rw [m.len_n G.pre.sq]; omega, ?_⟩
    rw [m.len_n G.pre.sq]
    refine for_range (lo := 0) (n := n) (fun j σ H3 => ∃ v, σ = [some (.ref L), some (.int (0 + (i : Int))), v] ∧ H3 = H2) ⟨v, rfl, rfl⟩ ?_ ?_
    · rintro j σ H3 hj ⟨v', rfl, rfl⟩
      have hy : Vd n (0 + (j : Int)) := by unfold Vd; omega
      refine ⟨_, rfl, _, rfl, _, rfl, L, rs, M, n, _, _, rfl, m, G, hx, hy, _, rfl, iteF ?_⟩
      refine ⟨_, rfl, _, rfl, _, rfl, L, rs, M, n, _, _, rfl, m, G, hx, hy, _, rfl, iteF ?_⟩
      exact ⟨_, rfl, rfl⟩
    · rintro σ H3 ⟨v', rfl, rfl⟩
      exact ⟨_, _, rfl, rfl⟩
  · rintro σ H2 ⟨u, v, rfl, rfl⟩
    exact q
end
/-! ### way_length -/
abbrev sWayLength : Stmt := topS 7
abbrev nWayLength : List Str := ["lengths", "way", "total", "k"]
theorem scWayLength : FnScope nWayLength ["lengths", "way"] (C8.fnScope sWayLength) := C8.fnScope_by (by decide +kernel)
theorem pl_take {d : Int → Int → Int} : ∀ (l : List Int) (i : Nat) (x y : Int), l[i]? = some x → l[i + 1]? = some y → pl d (l.take (i + 2)) = pl d (l.take (i + 1)) + d x y
  | [], i, x, y, h, _ => by simp at h
  | [_], 0, x, y, _, h => by simp at h
  | [_], i + 1, x, y, h, _ => by simp at h
  | a :: b :: r, 0, x, y, h, h2 => by
    have e1 : a = x := Option.some.inj h
    have e2 : b = y := Option.some.inj h2
    subst e1 e2
    simp [pl]
  | a :: b :: r, i + 1, x, y, h, h2 => by
    have ih := pl_take (d := d) (b :: r) i x y h h2
    have t1 : (a :: b :: r).take (i + 1 + 2) = a :: b :: r.take (i + 1) := rfl
    have t2 : (a :: b :: r).take (i + 1 + 1) = a :: b :: r.take i := rfl
    have t3 : (b :: r).take (i + 2) = b :: r.take (i + 1) := rfl
    have t4 : (b :: r).take (i + 1) = b :: r.take i := rfl
    rw [t3, t4] at ih
    rw [t1, t2]
    simp only [pl]
    omega
def spWay (K : PySem.W.Frag) (F : (Int → Int → Int) → List Int → Int) : Sp := fun vs H Q _ => ∃ (L : Addr) (rs : List Addr) (M : List (List Int)) (n : Nat) (a : Addr) (l : List Int), vs = [.ref L, .ref a] ∧ MatAt K H L rs M ∧ Good n M ∧ SqL K H a (vi l) ∧ (∀ x ∈ l, Vd n x) ∧ l.length ≤ 1000 ∧ Q (.int (F (lm n M) l)) H
section
variable {P : Program} {w : World} {K : PySem.W.Frag} {mg : Str → Option Value} {base : Heap} {f : Addr} {fd : FuncData}
theorem ok_way (D : C8.Def K mg "way_length" sWayLength f fd) (b : Binds K fd ["lengths", "way"] []) (T : Txt mg) : C8.Cal P w K mg base 1 "way_length" (spWay K pl) [] := by
  refine C8.cal0 D b .nil scWayLength (fun vs H Q E h => ?_) (fun cdv A outer s H vs Q E hr h => ?_)
  · obtain ⟨L, rs, M, n, a, l, rfl, _⟩ := h
    rfl
  obtain ⟨L, rs, M, n, a, l, rfl, m, G, hl, hv, hz, q⟩ := h
  refine ⟨_, (pss_cons (ps_set (i := 2) scWayLength.nd rfl (.inl rfl) pe_int)
 (pss_cons (ps_for PassesOwn.never rfl (pi_range2 (by rfl) T.range_ (pa_cons pe_int (pa_cons (pe_callB call_len_seq (by rfl) T.len_ PySem.boot_len (pa_cons (pv 1) pa_nil)) pa_nil))) (pg_name (i := 3) scWayLength.nd rfl (.inl rfl))
 (pss_one (ps_aug (i := 2) scWayLength.nd rfl (.inl rfl) (pe_ix ix_list (pe_ix ix_list (pv 0) (pe_ix ix_list (pv 1) (pe_op op_sub (pv 3) pe_int) (fun _ _ => rfl)) (fun _ _ => rfl)) (pe_ix ix_list (pv 1) (pv 3) (fun _ _ => rfl)) (fun _ _ => rfl)) ip_add)))
 (pss_one (ps_ret (pv 2))))), ?_⟩
  refine ⟨_, rfl, a, _, rfl, .inl hl, _, _, rfl, ⟨by omega, by omega, by omega, by rw [vi_len]; omega⟩, ?_⟩
  rw [vi_len]
  refine for_range (lo := 1) (n := ((l.length : Int) - 1).toNat) (fun i σ H2 => ∃ v, σ = [some (.ref L), some (.ref a), some (.int (pl (lm n M) (l.take (i + 1)))), v] ∧ H2 = H) ⟨none, ?_, rfl⟩ ?_ ?_
  · cases l with
    | nil => rfl
    | cons x r => rfl
  · rintro i σ H2 hi ⟨v, rfl, rfl⟩
    have h1 : i < l.length := by omega
    have h2 : i + 1 < l.length := by omega
    have g1 : atI (vi l) ((1 : Int) + (i : Int) - 1) = some (.int l[i]) := at_of (by omega) (vi_get (List.getElem?_eq_getElem h1))
    have g2 : atI (vi l) ((1 : Int) + (i : Int)) = some (.int l[i + 1]) := at_of (j := i + 1) (by omega) (vi_get (List.getElem?_eq_getElem h2))
    refine ⟨_, rfl, ?_⟩
    refine rd2 m G.pre.sq (hv _ (List.getElem_mem h1)) (hv _ (List.getElem_mem h2)) (rdv rfl) (fun R z => ⟨_, rfl, _, rfl, _, _, rfl, rfl, a, _, _, _, rfl, rfl, hl, g1, z⟩) (fun R z => ⟨_, rfl, _, rfl, a, _, _, _, rfl, rfl, hl, g2, z⟩) ?_
    refine ⟨_, _, rfl, rfl, some (.int ((1 : Int) + (i : Int))), ?_, rfl⟩
    rw [pl_take l i _ _ (List.getElem?_eq_getElem h1) (List.getElem?_eq_getElem h2)]
    rfl
  · rintro σ H2 ⟨v, rfl, rfl⟩
    have e : l.take (((l.length : Int) - 1).toNat + 1) = l := List.take_of_length_le (by omega)
    rw [e]
    exact ⟨_, rfl, q⟩
end
/-! ### round_length -/
abbrev sRoundLength : Stmt := topS 8
abbrev nRoundLength : List Str := ["lengths", "way"]
theorem scRoundLength : FnScope nRoundLength ["lengths", "way"] (C8.fnScope sRoundLength) := C8.fnScope_by (by decide +kernel)
theorem cyc_pl {d : Int → Int → Int} (l : List Int) (x : Int) (h : l.head? = some x) (z : Int) (h2 : l.getLast? = some z) : cyc d l = pl d l + d z x := by
  cases l with
  | nil => simp at h
  | cons y r =>
    have e : y = x := by simpa using h
    subst e
    rw [List.getLast?_eq_getLast (List.cons_ne_nil y r)] at h2
    have := wc_pl (d := d) r y y
    rw [Option.some.inj h2] at this
    exact this
theorem at_last {l : List Int} {z : Int} (h : l.getLast? = some z) : atI (vi l) (-1) = some (.int z) := by
  cases l with
  | nil => simp at h
  | cons y r =>
    rw [List.getLast?_eq_getLast (List.cons_ne_nil y r)] at h
    have e : (y :: r) = (y :: r).dropLast ++ [z] := by
      rw [← Option.some.inj h, List.dropLast_concat_getLast]
    rw [e]
    unfold vi
    rw [List.map_append]
    exact atI_last _ _
theorem at_head {l : List Int} {z : Int} (h : l.head? = some z) : atI (vi l) 0 = some (.int z) := by
  cases l with
  | nil => simp at h
  | cons y r =>
    have e : y = z := by simpa using h
    subst e
    exact atI_nat (j := 0) rfl
theorem two_ends {l : List Int} (h : l ≠ []) : ∃ x z, l.head? = some x ∧ l.getLast? = some z ∧ x ∈ l ∧ z ∈ l := by
  cases l with
  | nil => exact absurd rfl h
  | cons y r => exact ⟨y, _, rfl, List.getLast?_eq_getLast (List.cons_ne_nil y r), by simp, List.getLast_mem _⟩
section
variable {P : Program} {w : World} {K : PySem.W.Frag} {mg : Str → Option Value} {base : Heap} {f : Addr} {fd : FuncData}
theorem ok_roundl (D : C8.Def K mg "round_length" sRoundLength f fd) (b : Binds K fd ["lengths", "way"] []) (T : Txt mg) (cWayLength : C8.Cal P w K mg base 1 "way_length" (spWay K pl) []) : C8.Cal P w K mg base 2 "round_length" (spWay K cyc) [] := by
  refine C8.cal0 D b .nil scRoundLength (fun vs H Q E h => ?_) (fun cdv A outer s H vs Q E hr h => ?_)
  · obtain ⟨L, rs, M, n, a, l, rfl, _⟩ := h
    rfl
  obtain ⟨L, rs, M, n, a, l, rfl, m, G, hl, hv, hz, q⟩ := h
  refine ⟨_, (pss_cons (ps_if (pt_cmpR op_lt (pe_callB call_len_seq (by rfl) T.len_ PySem.boot_len (pa_cons (pv 1) pa_nil)) pe_int (nomark _))
 (pss_one (ps_ret pe_int))
 pss_nil)
 (pss_one (ps_ret (pe_op op_add (C8.pe_c cWayLength hr (by omega) (by rfl) (pa_cons (pv 0) (pa_cons (pv 1) pa_nil))) (pe_ix ix_list (pe_ix ix_list (pv 0) (pe_ix ix_list (pv 1) (pe_un un_neg pe_int) (fun _ _ => rfl)) (fun _ _ => rfl)) (pe_ix ix_list (pv 1) pe_int (fun _ _ => rfl)) (fun _ _ => rfl)))))), ?_⟩
  refine ⟨_, rfl, a, _, rfl, .inl hl, _, _, rfl, rfl, _, rfl, ?_⟩
  rw [vi_len]
  refine ite2 (fun c => ?_) (fun c => ?_)
  · have c' := of_decide_eq_true c
    have e : cyc (lm n M) l = 0 := by
      cases l with
      | nil => rfl
      | cons x r =>
        cases r with
        | nil => exact G.met.zz x
        | cons y r => simp only [List.length_cons] at c'; omega
    rw [e] at q
    exact q
  · have ne : l ≠ [] := fun z => by
      subst z
      exact c (decide_eq_true (by decide))
    obtain ⟨x, z, h1, h2, m1, m2⟩ := two_ends ne
    refine ⟨_, rfl, _, rfl, L, rs, M, n, a, l, rfl, m, G, hl, hv, hz, ?_⟩
    refine rd2 m G.pre.sq (hv _ m2) (hv _ m1) (rdv rfl) (fun R z => ⟨_, rfl, _, rfl, a, _, _, _, rfl, rfl, hl, at_last h2, z⟩) (fun R z => ⟨_, rfl, a, _, _, _, rfl, rfl, hl, at_head h1, z⟩) ?_
    refine ⟨_, _, rfl, rfl, ?_⟩
    rw [cyc_pl l x h1 z h2] at q
    exact q
end
/-! ### roads_length -/
abbrev sRoadsLength : Stmt := topS 9
abbrev nRoadsLength : List Str := ["lengths", "roads", "total", "one", "other"]
theorem scRoadsLength : FnScope nRoadsLength ["lengths", "roads"] (C8.fnScope sRoadsLength) := C8.fnScope_by (by decide +kernel)
theorem cost_take {d : Int → Int → Int} : ∀ (l : List (Int × Int)) (i : Nat) (r : Int × Int), l[i]? = some r → cost d (l.take (i + 1)) = cost d (l.take i) + d r.1 r.2
  | [], i, r, h => by simp at h
  | a :: l, 0, r, h => by
    have e : a = r := Option.some.inj h
    subst e
    simp [cost]
  | a :: l, i + 1, r, h => by
    have ih := cost_take (d := d) l i r h
    simp only [List.take_succ_cons, cost]
    omega
def spRoads (K : PySem.W.Frag) : Sp := fun vs H Q _ => ∃ (L : Addr) (rs : List Addr) (M : List (List Int)) (n : Nat) (p : Addr) (l : List (Int × Int)), vs = [.ref L, .ref p] ∧ MatAt K H L rs M ∧ Good n M ∧ RdsAt H p l ∧ (∀ x ∈ ends l, Vd n x) ∧ Q (.int (cost (lm n M) l)) H
section
variable {P : Program} {w : World} {K : PySem.W.Frag} {mg : Str → Option Value} {base : Heap} {f : Addr} {fd : FuncData}
theorem ok_roads (D : C8.Def K mg "roads_length" sRoadsLength f fd) (b : Binds K fd ["lengths", "roads"] []) (T : Txt mg) : C8.Cal P w K mg base 1 "roads_length" (spRoads K) [] := by
  refine C8.cal0 D b .nil scRoadsLength (fun vs H Q E h => ?_) (fun cdv A outer s H vs Q E hr h => ?_)
  · obtain ⟨L, rs, M, n, a, l, rfl, _⟩ := h
    rfl
  obtain ⟨L, rs, M, n, p, l, rfl, m, G, hR, hv, q⟩ := h
  obtain ⟨ts, hp, ht⟩ := hR.ex
  refine ⟨_, (pss_cons (ps_set (i := 2) scRoadsLength.nd rfl (.inl rfl) pe_int)
 (pss_cons (ps_for PassesOwn.never rfl (pi_list (pv 1)) (pg_tup rfl (pgs_cons (pg_name (i := 3) scRoadsLength.nd rfl (.inl rfl)) (pgs_cons (pg_name (i := 4) scRoadsLength.nd rfl (.inl rfl)) pgs_nil)))
 (pss_one (ps_aug (i := 2) scRoadsLength.nd rfl (.inl rfl) (pe_ix ix_list (pe_ix ix_list (pv 0) (pv 3) (fun _ _ => rfl)) (pv 4) (fun _ _ => rfl)) ip_add)))
 (pss_one (ps_ret (pv 2))))), ?_⟩
  refine ⟨_, rfl, p, rfl, ⟨_, SqL.of hp⟩, for_list (K := K) (a := p) (xs := ts) (fun i σ H2 => ∃ u v, σ = [some (.ref L), some (.ref p), some (.int (cost (lm n M) (l.take i))), u, v] ∧ H2 = H) ⟨none, none, rfl, rfl⟩ (fun i σ H2 _ ⟨_, _, _, e⟩ => e ▸ SqL.of hp) ?_ ?_⟩
  · rintro i y σ H2 hi ⟨u, v, rfl, rfl⟩
    obtain ⟨r, t, h1, rfl, h2⟩ := ht.at_ hi
    have hm := List.mem_of_getElem? h1
    refine ⟨t, _, rfl, SqT.of h2, rfl, .int r.1, [.int r.2], rfl, .int r.2, [], rfl, rfl, ?_⟩
    refine ⟨_, rfl, ?_⟩
    refine rd2 m G.pre.sq (hv _ (mem_ends.mpr ⟨r, hm, .inl rfl⟩)) (hv _ (mem_ends.mpr ⟨r, hm, .inr rfl⟩)) (rdv rfl) (rdv rfl) (rdv rfl) ?_
    refine ⟨_, _, rfl, rfl, some (.int r.1), some (.int r.2), ?_, rfl⟩
    rw [cost_take l i r h1]
    rfl
  · rintro σ H2 ⟨u, v, rfl, rfl⟩
    rw [ht.1, List.take_length]
    exact ⟨_, rfl, q⟩
end
/-! ### next_road -/
theorem eq_of_sorted : ∀ {l l' : List Int}, l.Perm l' → l.Pairwise (· ≤ ·) → l'.Pairwise (· ≤ ·) → l = l'
  | [], l', p, _, _ => (List.Perm.nil_eq p)
  | x :: l, [], p, _, _ => by simp at p
  | x :: l, y :: l', p, h, h' => by
    rw [List.pairwise_cons] at h h'
    have e : x = y := by
      have hx : x ∈ y :: l' := p.mem_iff.mp (by simp)
      have hy : y ∈ x :: l := p.mem_iff.mpr (by simp)
      rcases List.mem_cons.mp hx with e | hx
      · exact e
      rcases List.mem_cons.mp hy with e | hy
      · exact e.symm
      have := h.1 y hy
      have := h'.1 x hx
      omega
    subst e
    rw [eq_of_sorted ((List.perm_cons x).mp p) h.2 h'.2]
theorem srt_sorted (S : List Int) : (srt S).Pairwise (· ≤ ·) := by
  have := List.pairwise_mergeSort (le := fun a b : Int => decide (a ≤ b)) (by intro a b c; simp; omega) (by intro a b; simp; omega) S
  refine List.Pairwise.imp ?_ this
  intro a b h
  simpa using h
theorem eq_srt {l S : List Int} (p : l.Perm S) (h : l.Pairwise (· ≤ ·)) : l = srt S := eq_of_sorted (p.trans (List.mergeSort_perm S _).symm) h (srt_sorted S)
def BestV (H : Hp) (v : V) (o : Option (Int × Int)) : Prop := match o with
  | none => v = .non
  | some r => ∃ t, v = .ref t ∧ H t = some (.tup [.int r.1, .int r.2])
theorem BestV.same {H H' : Hp} {v : V} {o : Option (Int × Int)} (b : BestV H v o) (s : Same H H') : BestV H' v o := by
  cases o with
  | none => exact b
  | some r => obtain ⟨t, h1, h2⟩ := b; exact ⟨t, h1, s _ _ h2⟩
theorem foldl_take {α β : Type} {f : β → α → β} {b : β} {l : List α} {i : Nat} {x : α} (h : l[i]? = some x) : (l.take (i + 1)).foldl f b = f ((l.take i).foldl f b) x := by
  rw [List.take_add_one, h, List.foldl_append]
  rfl
/-- the best pair is one of places -/
def VB (n : Nat) (o : Option (Int × Int)) : Prop := ∀ r, o = some r → Vd n r.1 ∧ Vd n r.2
theorem vb_S {d : Int → Int → Int} {n : Nat} {w i : Int} {o : Option (Int × Int)} (h : VB n o) (hi : Vd n i) (hw : Vd n w) : VB n (nrS d w o i) := by
  intro r e
  cases o with
  | none => cases e; exact ⟨hi, hw⟩
  | some b =>
    unfold nrS at e
    simp only at e
    split at e
    · cases e; exact ⟨hi, hw⟩
    · exact h r e
theorem places_get {n i : Nat} (h : i < n) : (places n)[i]? = some (i : Int) := by
  unfold places
  rw [List.getElem?_map, List.getElem?_range h]
  rfl
abbrev sNextRoad : Stmt := topS 15
abbrev nNextRoad : List Str := ["lengths", "within", "best", "without", "inner"]
theorem scNextRoad : FnScope nNextRoad ["lengths", "within"] (C8.fnScope sNextRoad) := C8.fnScope_by (by decide +kernel)
def spNext (K : PySem.W.Frag) : Sp := fun vs H Q _ => ∃ (L : Addr) (rs : List Addr) (M : List (List Int)) (n : Nat) (a : Addr) (S : List Int), vs = [.ref L, .ref a] ∧ MatAt K H L rs M ∧ Good n M ∧ SqL K H a (vi S) ∧ (∀ x ∈ S, Vd n x) ∧ S.length < 64 ∧
  ∀ v H', Same H H' → BestV H' v (nr (lm n M) n S) → Q v H'
section
variable {P : Program} {w : World} {K : PySem.W.Frag} {mg : Str → Option Value} {base : Heap} {f : Addr} {fd : FuncData}
theorem ok_next (D : C8.Def K mg "next_road" sNextRoad f fd) (b : Binds K fd ["lengths", "within"] []) (T : Txt mg) : C8.Cal P w K mg base 1 "next_road" (spNext K) [] := by
  refine C8.cal0 D b .nil scNextRoad (fun vs H Q E h => ?_) (fun cdv A outer s H vs Q E hr h => ?_)
  · obtain ⟨L, rs, M, n, a, S, rfl, _⟩ := h
    rfl
  obtain ⟨L, rs, M, n, a, S, rfl, m, G, hS, hv, hl, q⟩ := h
  refine ⟨_, (pss_cons (ps_set (i := 2) scNextRoad.nd rfl (.inl rfl) pe_non)
 (pss_cons (ps_for PassesOwn.never rfl (pi_range1 (by rfl) T.range_ (pa_cons (pe_callB call_len_seq (by rfl) T.len_ PySem.boot_len (pa_cons (pv 0) pa_nil)) pa_nil)) (pg_name (i := 3) scNextRoad.nd rfl (.inl rfl))
 (pss_cons (ps_if (pt_cmpR op_in_seq (pv 3) (pv 1) (by rfl))
 (pss_one ps_continue)
 pss_nil)
 (pss_one (ps_for PassesOwn.never rfl (pi_list (pe_callB cr_sorted (by rfl) T.sorted_ (by decide +kernel) (pa_cons (pv 1) pa_nil))) (pg_name (i := 4) scNextRoad.nd rfl (.inl rfl))
 (pss_one (ps_if (PW.pt (pw_or (pt_cmpR op_isN (pv 2) pe_non (nomark _)) (pw_or1 (pt_cmpR op_lt (pe_ix ix_list (pe_ix ix_list (pv 0) (pv 4) (fun _ _ => rfl)) (pv 3) (fun _ _ => rfl)) (pe_ix ix_list (pe_ix ix_list (pv 0) (pe_ix ix_tup (pv 2) pe_int (fun _ _ => rfl)) (fun _ _ => rfl)) (pe_ix ix_tup (pv 2) pe_int (fun _ _ => rfl)) (fun _ _ => rfl)) (nomark _)))))
 (pss_one (ps_set (i := 2) scNextRoad.nd rfl (.inl rfl) (pe_tup (pa_cons (pv 4) (pa_cons (pv 3) pa_nil)))))
 pss_nil))))))
 (pss_one (ps_ret (pv 2))))), ?_⟩
  have top := G.top
  refine ⟨_, rfl, L, _, rfl, .inl m.top, _, rfl, by omega, by rw [m.len_n G.pre.sq]; omega, ?_⟩
  rw [m.len_n G.pre.sq]
  refine for_range (lo := 0) (n := n) (fun i σ H2 => ∃ bv u v, σ = [some (.ref L), some (.ref a), some bv, u, v] ∧ Same H H2 ∧ BestV H2 bv (((places n).take i).foldl (nrO (lm n M) S (srt S)) none) ∧ VB n (((places n).take i).foldl (nrO (lm n M) S (srt S)) none))
    ⟨.non, none, none, rfl, Same.refl H, rfl, fun r e => nomatch e⟩ ?_ ?_
  · rintro i σ H2 hi ⟨bv, u, v, rfl, s2, hb, vb⟩
    have hw : Vd n (i : Int) := vd_nat hi
    have ez : (0 : Int) + (i : Int) = (i : Int) := by omega
    rw [ez]
    rw [foldl_take (places_get hi)]
    refine ⟨_, rfl, _, rfl, a, _, rfl, .inl (s2.seq hS), rfl, flat_vi S, _, rfl, ?_⟩
    show if (inV (.int (i : Int)) (vi S)) = true then _ else _
    rw [in_vi]
    refine ite2 (fun c => ?_) (fun c => ?_)
    · have c' := of_decide_eq_true c
      refine ⟨bv, _, _, rfl, s2, ?_⟩
      rw [nrO, if_pos c']
      exact ⟨hb, vb⟩
    · have c' : (i : Int) ∉ S := fun z => c (decide_eq_true z)
      rw [nrO, if_neg c']
      refine ⟨_, rfl, a, S, rfl, s2.seq hS, hl, fun ns p pp ps np => ?_⟩
      have ens := eq_srt pp ps
      subst ens
      have s3 : Same H2 (upd H2 p (.lst ((srt S).map V.int))) := Same.new np
      have hv' : ∀ x ∈ srt S, Vd n x := fun x hx => hv x (mem_srt.mp hx)
      generalize ((places n).take i).foldl (nrO (lm n M) S (srt S)) none = o at hb vb
      refine ⟨p, rfl, ⟨_, SqL.of upd_same⟩, for_list (K := K) (a := p) (xs := vi (srt S)) (fun j σ H3 => ∃ bv v, σ = [some (.ref L), some (.ref a), some bv, some (.int (i : Int)), v] ∧ Same (upd H2 p (.lst ((srt S).map V.int))) H3 ∧ BestV H3 bv (((srt S).take j).foldl (nrS (lm n M) i) o) ∧ VB n (((srt S).take j).foldl (nrS (lm n M) i) o))
        ⟨bv, _, rfl, Same.refl _, hb.same s3, vb⟩ (fun j σ H3 _ ⟨_, _, _, s4, _⟩ => SqL.of (s4 _ _ upd_same)) ?_ ?_⟩
      · rintro j y σ H3 hj ⟨bv, v, rfl, s4, hb, vb⟩
        obtain ⟨x, hx, rfl⟩ := vi_inv hj
        have hx' : Vd n x := hv' x (List.mem_of_getElem? hx)
        rw [foldl_take hx]
        have m3 := m.same (s2.trans (s3.trans s4))
        have vb' := vb_S (d := lm n M) vb hx' hw
        -- a better one is taken
        have take : ∀ H4, H4 = H3 → ∀ o', o' = some (x, (i : Int)) → (∀ t, H4 t = none → (fun σ H4 => ∃ bv v, σ = [some (.ref L), some (.ref a), some bv, some (.int (i : Int)), v] ∧ Same (upd H2 p (.lst ((srt S).map V.int))) H4 ∧ BestV H4 bv o' ∧ VB n o') [some (.ref L), some (.ref a), some (.ref t), some (.int (i : Int)), some (.int x)] (upd H4 t (.tup [.int x, .int (i : Int)]))) := by
          rintro H4 rfl o' rfl t ht
          exact ⟨.ref t, _, rfl, s4.trans (Same.new ht), ⟨t, rfl, upd_same⟩, fun r e => by cases e; exact ⟨hx', hw⟩⟩
        generalize ((srt S).take j).foldl (nrS (lm n M) i) o = o2 at hb vb vb'
        cases o2 with
        | none =>
          have e : bv = .non := hb
          subst e
          refine ⟨_, rfl, rfl, _, rfl, iteT (iteT ?_)⟩
          exact ⟨_, rfl, _, rfl, by show 2 ≤ sizeLine; decide, fun t ht => take H3 rfl _ rfl t ht⟩
        | some r =>
          obtain ⟨t, rfl, ht⟩ := hb
          obtain ⟨v1, v2⟩ := vb r rfl
          refine ⟨_, rfl, rfl, _, rfl, iteF ?_⟩
          refine rd2 m3 G.pre.sq hx' hw (rdv rfl) (rdv rfl) (rdv rfl) ?_
          refine rd2 m3 G.pre.sq v1 v2 (rdv rfl) (fun R z => ⟨_, rfl, t, _, _, _, rfl, rfl, SqT.of ht, atI_nat (j := 0) rfl, z⟩) (fun R z => ⟨_, rfl, t, _, _, _, rfl, rfl, SqT.of ht, atI_nat (j := 1) rfl, z⟩) ?_
          refine ⟨_, _, rfl, rfl, _, rfl, ite2 (fun c => ?_) (fun c => ?_)⟩
          · have c' := of_decide_eq_true c
            refine ⟨_, rfl, _, rfl, by show 2 ≤ sizeLine; decide, fun t ht => take H3 rfl _ ?_ t ht⟩
            unfold nrS
            simp only [if_pos c']
          · have c' : ¬ lm n M x (i : Int) < lm n M r.1 r.2 := fun z => c (decide_eq_true z)
            have e : nrS (lm n M) (i : Int) (some r) x = some r := by
              unfold nrS
              simp only [if_neg c']
            rw [e]
            exact ⟨_, _, rfl, s4, ⟨t, rfl, ht⟩, vb⟩
      · rintro σ H3 ⟨bv, v, rfl, s4, hb, vb⟩
        rw [vi_len, List.take_length] at hb vb
        exact ⟨bv, _, _, rfl, s2.trans (s3.trans s4), hb, vb⟩
  · rintro σ H2 ⟨bv, u, v, rfl, s2, hb, vb⟩
    have e : (places n).take n = places n := List.take_of_length_le (by rw [places_len]; omega)
    rw [e] at hb
    exact ⟨_, rfl, q bv H2 s2 hb⟩
end
/-! ### least_tree -/
abbrev sLeastTree : Stmt := topS 16
abbrev nLeastTree : List Str := ["lengths", "within", "roads", "road"]
theorem scLeastTree : FnScope nLeastTree ["lengths"] (C8.fnScope sLeastTree) := C8.fnScope_by (by decide +kernel)
def spTree (K : PySem.W.Frag) : Sp := fun vs H Q _ => ∃ (L : Addr) (rs : List Addr) (M : List (List Int)) (n : Nat), vs = [.ref L] ∧ MatAt K H L rs M ∧ Good n M ∧ ∀ p H', Same H H' → RdsAt H' p (tree (lm n M) n) → Q (.ref p) H'
section
variable {P : Program} {w : World} {K : PySem.W.Frag} {mg : Str → Option Value} {base : Heap} {f : Addr} {fd : FuncData}
theorem ok_tree (D : C8.Def K mg "least_tree" sLeastTree f fd) (b : Binds K fd ["lengths"] []) (T : Txt mg) (cLookAt : C8.Cal P w K mg base 2 "look_at" (spLook K) []) (cNextRoad : C8.Cal P w K mg base 1 "next_road" (spNext K) []) : C8.Cal P w K mg base 3 "least_tree" (spTree K) [] := by
  refine C8.cal0 D b .nil scLeastTree (fun vs H Q E h => ?_) (fun cdv A outer s H vs Q E hr h => ?_)
  · obtain ⟨L, rs, M, n, rfl, _⟩ := h
    rfl
  obtain ⟨L, rs, M, n, rfl, m, G, q⟩ := h
  have top := G.top
  have pos := G.pos
  refine ⟨_, (pss_cons (ps_expr (C8.pe_c cLookAt hr (by omega) (by rfl) (pa_cons (pv 0) pa_nil)))
 (pss_cons (ps_set (i := 1) scLeastTree.nd rfl (.inl rfl) (pe_lst (pa_cons pe_int pa_nil)))
 (pss_cons (ps_set (i := 2) scLeastTree.nd rfl (.inl rfl) (pe_lst pa_nil))
 (pss_cons (ps_while PassesOwn.never (pt_cmpR op_lt (pe_callB call_len_seq (by rfl) T.len_ PySem.boot_len (pa_cons (pv 1) pa_nil)) (pe_callB call_len_seq (by rfl) T.len_ PySem.boot_len (pa_cons (pv 0) pa_nil)) (nomark _))
 (pss_cons (ps_set (i := 3) scLeastTree.nd rfl (.inl rfl) (C8.pe_c cNextRoad hr (by omega) (by rfl) (pa_cons (pv 0) (pa_cons (pv 1) pa_nil))))
 (pss_cons (ps_expr (pe_bm PySem.F.plainAttrs_list PySem.F.slot_list_append PySem.F.type_list_append mt_append (pv 2) (pa_cons (pv 3) pa_nil)))
 (pss_one (ps_expr (pe_bm PySem.F.plainAttrs_list PySem.F.slot_list_append PySem.F.type_list_append mt_append (pv 1) (pa_cons (pe_ix ix_tup (pv 3) pe_int (fun _ _ => rfl)) pa_nil)))))))
 (pss_one (ps_ret (pv 2))))))), ?_⟩
  refine ⟨_, rfl, L, rs, M, n, rfl, m, G, ?_⟩
  refine ⟨by show 1 ≤ sizeLine; decide, fun a na => ?_⟩
  refine ⟨by show 0 ≤ sizeLine; decide, fun R nR => ?_⟩
  have s1 : Same H (upd H a (.lst [.int 0])) := Same.new na
  have n0R : H R = none := s1.free nR
  have ne : R ≠ a := fun e => by rw [e, upd_same] at nR; cases nR
  refine ⟨fun k σ H2 => ∃ (S : List Int) (B : List (Int × Int)) (vs : List V) (r : Option V), σ = [some (.ref L), some (.ref a), some (.ref R), r] ∧ Same H H2 ∧ H2 a = some (.lst (vi S)) ∧ H2 R = some (.lst vs) ∧ TupsOf H2 vs B ∧ S.Nodup ∧ (∀ x ∈ S, Vd n x) ∧ 0 ∈ S ∧ B.length < S.length ∧ k + S.length = n + 1 ∧ tree (lm n M) n = B ++ primF (lm n M) n k S,
    ⟨n, [0], [], [], none, rfl, s1.trans (Same.new nR), ?_, upd_same, TupsOf.nil, by simp, v0 pos, by simp, by simp, rfl, rfl⟩, ?_⟩
  · rw [upd_ne ne.symm, upd_same]; rfl
  rintro k σ H2 ⟨S, B, vs, r, rfl, s2, ha, hR, hT, nd, hv, h0, hB, ek, et⟩
  have m2 := m.same s2
  have fl := full_len nd hv
  refine ⟨_, rfl, a, _, rfl, .inl (SqL.of ha), _, rfl, L, _, rfl, .inl m2.top, _, _, rfl, rfl, _, rfl, ?_⟩
  rw [vi_len, m2.len_n G.pre.sq]
  refine ite2 (fun c => ?_) (fun c => ?_)
  · have c' : S.length < n := by have := of_decide_eq_true c; omega
    obtain ⟨e, he, h1, h2, h3, h4⟩ := nr_some (d := lm n M) nd hv h0 c'
    obtain ⟨k', rfl⟩ : ∃ k', k = k' + 1 := ⟨k - 1, by omega⟩
    refine ⟨_, fun σ' H' z => z, ?_⟩
    refine ⟨_, rfl, _, rfl, L, rs, M, n, a, S, rfl, m2, G, SqL.of ha, hv, by omega, fun v H3 s3 hb => ?_⟩
    rw [he] at hb
    obtain ⟨t, rfl, ht⟩ := hb
    have hR3 := s3 _ _ hR
    have ha3 := s3 _ _ ha
    have hT3 := hT.same s3
    refine ⟨_, rfl, .inl ⟨rfl, _, SqL.of hR3⟩, _, rfl, R, vs, _, rfl, rfl, hR3, ?_, ?_⟩
    · rw [hT.1]; exact small1000 (by omega)
    have ta : t ≠ R := ne_of ht hR3 (by intro z; cases z)
    have ht4 : (upd H3 R (.lst (vs ++ [.ref t]))) t = some (.tup [.int e.1, .int e.2]) := by rw [upd_ne ta]; exact ht
    have ha4 : (upd H3 R (.lst (vs ++ [.ref t]))) a = some (.lst (vi S)) := by rw [upd_ne ne.symm]; exact ha3
    refine ⟨_, rfl, .inl ⟨rfl, _, SqL.of ha4⟩, _, rfl, t, _, _, _, rfl, rfl, SqT.of ht4, atI_nat (j := 1) rfl, a, vi S, _, rfl, rfl, ha4, ?_, ?_⟩
    · rw [vi_len]; exact small1000 (by omega)
    refine ⟨k', by omega, S ++ [e.2], B ++ [e], vs ++ [.ref t], _, rfl, ((s2.trans s3).put n0R).put na, ?_, ?_, ?_, nodup_snoc nd h2, ?_, by simp [h0], by simp; omega, by simp; omega, ?_⟩
    · rw [upd_same]
      unfold vi
      rw [List.map_append]
      rfl
    · rw [upd_ne ne, upd_same]
    · exact ((hT3.append (TupsOf.one ht)).put hR3).put ha4
    · intro x hx
      rcases List.mem_append.mp hx with z | z
      · exact hv x z
      · have : x = e.2 := by simpa using z
        exact this ▸ h3
    · rw [et, primF_turn c' he]
      simp
  · have c' : ¬ S.length < n := fun z => c (decide_eq_true (by omega))
    rw [primF_end c', List.append_nil] at et
    refine ⟨_, rfl, q R H2 s2 ⟨vs, hR, ?_⟩⟩
    rw [et]
    exact hT
end
/-! ### with_all_behind -/
/-- roads away from a place come behind the road to it -/
def Ord (rs : List (Int × Int)) : Prop := ∀ (i j : Nat) (r r' : Int × Int), rs[i]? = some r → rs[j]? = some r' → r'.1 = r.2 → i < j
theorem grow_split : ∀ {xs : List (Int × Int)} {S r ys}, Grow S (xs ++ r :: ys) → r.2 ∉ S ++ xs.map (·.2) ∧ ∀ r' ∈ xs ++ [r], r'.1 ∈ S ++ xs.map (·.2)
  | [], S, r, ys, h => by
    cases h with
    | cons h1 h2 h3 => simp [h1, h2]
  | x :: xs, S, r, ys, h => by
    cases h with
    | @cons _ a b _ h1 h2 h3 =>
      have ih := grow_split h3
      refine ⟨by simpa using ih.1, fun r' hr => ?_⟩
      rcases List.mem_cons.mp hr with rfl | hr
      · simp [h1]
      · have := ih.2 r' hr
        simpa using this
theorem _root_.KM.Grow.ord {S rs} (h : Grow S rs) : Ord rs := by
  intro i j r r' hi hj e
  refine Nat.lt_of_not_le fun hle => ?_
  have hlt := (List.getElem?_eq_some_iff.mp hi).1
  have er : rs = rs.take i ++ r :: rs.drop (i + 1) := by
    have h1 := List.drop_eq_getElem_cons hlt
    have h2 : rs[i] = r := (List.getElem?_eq_some_iff.mp hi).2
    rw [h2] at h1
    rw [← h1, List.take_append_drop]
  have g := h
  rw [er] at g
  obtain ⟨g1, g2⟩ := grow_split g
  have hm : r' ∈ rs.take i ++ [r] := by
    by_cases c : j = i
    · subst c
      rw [hi] at hj
      cases hj
      simp
    · refine List.mem_append_left _ (List.mem_of_getElem? (i := j) ?_)
      rw [List.getElem?_take, if_pos (by omega)]
      exact hj
  exact g1 (e ▸ g2 r' hm)
theorem ch_skip {p : Int} : ∀ (xs ys : List (Int × Int)), (∀ r ∈ xs, r.1 ≠ p) → ch (xs ++ ys) p = ch ys p
  | [], _, _ => rfl
  | x :: xs, ys, h => by
    rw [List.cons_append, ch, if_neg (h x (by simp))]
    exact ch_skip xs ys fun r hr => h r (by simp [hr])
/-- what one road gives -/
def chF (rs : List (Int × Int)) (p : Int) (r : Int × Int) : List Int := if r.1 = p then r.2 :: ch rs r.2 else []
theorem ch_flat {rs : List (Int × Int)} (h : Ord rs) (p : Int) : ∀ (xs ys : List (Int × Int)), rs = xs ++ ys → ch ys p = ys.flatMap (chF rs p)
  | xs, [], _ => rfl
  | xs, r :: ys, e => by
    have ih := ch_flat h p (xs ++ [r]) ys (by rw [e]; simp)
    have e2 : ch ys r.2 = ch rs r.2 := by
      have : rs = (xs ++ [r]) ++ ys := by rw [e]; simp
      have sk := ch_skip (p := r.2) (xs ++ [r]) ys fun r' hr' q => by
        obtain ⟨j, hj⟩ := List.getElem?_of_mem hr'
        have hjl := (List.getElem?_eq_some_iff.mp hj).1
        have hi : rs[xs.length]? = some r := by rw [e]; simp
        have hj2 : rs[j]? = some r' := by
          rw [this, List.getElem?_append_left hjl]
          exact hj
        have := h _ _ _ _ hi hj2 q
        simp at hjl
        omega
      rw [← this] at sk
      exact sk.symm
    rw [List.flatMap_cons, ch, ih, chF]
    split
    · rw [e2]
    · rfl
theorem flat_take {α β : Type} {f : α → List β} {l : List α} {i : Nat} {x : α} (h : l[i]? = some x) : (l.take (i + 1)).flatMap f = (l.take i).flatMap f ++ f x := by
  rw [List.take_add_one, h, List.flatMap_append]
  simp
abbrev sWithAllBehind : Stmt := topS 17
abbrev nWithAllBehind : List Str := ["roads", "place", "found", "inner", "without"]
theorem scWithAllBehind : FnScope nWithAllBehind ["roads", "place"] (C8.fnScope sWithAllBehind) := C8.fnScope_by (by decide +kernel)
def spBehind (n : Nat) : Sp := fun vs H Q _ => ∃ (R : Addr) (rs : List (Int × Int)) (p : Int), vs = [.ref R, .int p] ∧ RdsAt H R rs ∧ Ord rs ∧ (0 :: ch rs 0).length ≤ 1023 ∧ (∀ x, (ch rs x).length ≤ 1023) ∧ 1 ≤ n ∧ (∀ (j : Nat) r, rs[j]? = some r → r.1 = p → rs.length + 1 ≤ j + n) ∧
  ∀ a H', Same H H' → H' a = some (.lst (vi (p :: ch rs p))) → Q (.ref a) H'
section
variable {P : Program} {w : World} {K : PySem.W.Frag} {mg : Str → Option Value} {base : Heap} {f : Addr} {fd : FuncData}
theorem ok_behind1 {n : Nat} (D : C8.Def K mg "with_all_behind" sWithAllBehind f fd) (b : Binds K fd ["roads", "place"] []) (T : Txt mg) (cWithAllBehind : C8.Cal P w K mg base n "with_all_behind" (spBehind n) []) : C8.Cal P w K mg base (n + 1) "with_all_behind" (spBehind (n + 1)) [] := by
  refine C8.cal0 D b .nil scWithAllBehind (fun vs H Q E h => ?_) (fun cdv A outer s H vs Q E hr h => ?_)
  · obtain ⟨R, rs, p, rfl, _⟩ := h
    rfl
  obtain ⟨R, rs, p, rfl, hR, ho, hz, hz2, hn, hd, q⟩ := h
  obtain ⟨ts, hp, ht⟩ := hR.ex
  refine ⟨_, (pss_cons (ps_set (i := 2) scWithAllBehind.nd rfl (.inl rfl) (pe_lst (pa_cons (pv 1) pa_nil)))
 (pss_cons (ps_for PassesOwn.never rfl (pi_list (pv 0)) (pg_tup rfl (pgs_cons (pg_name (i := 3) scWithAllBehind.nd rfl (.inl rfl)) (pgs_cons (pg_name (i := 4) scWithAllBehind.nd rfl (.inl rfl)) pgs_nil)))
 (pss_one (ps_if (pt_cmpR op_eq (pv 3) (pv 1) (nomark _))
 (pss_one (ps_expr (pe_bm PySem.F.plainAttrs_list PySem.F.slot_list_extend PySem.F.type_list_extend mt_extend (pv 2) (pa_cons (C8.pe_c cWithAllBehind hr (by omega) (by rfl) (pa_cons (pv 0) (pa_cons (pv 4) pa_nil))) pa_nil))))
 pss_nil)))
 (pss_one (ps_ret (pv 2))))), ?_⟩
  refine ⟨_, rfl, by show 1 ≤ sizeLine; decide, fun F nF => ?_⟩
  have s1 : Same H (upd H F (.lst [.int p])) := Same.new nF
  have ef := ch_flat ho p [] rs rfl
  have lz : ∀ i, ((rs.take i).flatMap (chF rs p)).length ≤ 1023 := fun i => by
    have e : (rs.flatMap (chF rs p)).length = ((rs.take i).flatMap (chF rs p)).length + ((rs.drop i).flatMap (chF rs p)).length := by
      rw [← List.length_append, ← List.flatMap_append, List.take_append_drop]
    have := hz2 p
    rw [ef] at this
    omega
  refine ⟨_, rfl, R, rfl, ⟨_, SqL.of (s1 _ _ hp)⟩, for_list (K := K) (a := R) (xs := ts) (fun i σ H2 => ∃ u v, σ = [some (.ref R), some (.int p), some (.ref F), u, v] ∧ Same H H2 ∧ H2 F = some (.lst (vi (p :: (rs.take i).flatMap (chF rs p)))))
    ⟨none, none, rfl, s1, upd_same⟩ (fun i σ H2 _ ⟨_, _, _, s2, _⟩ => SqL.of (s2 _ _ hp)) ?_ ?_⟩
  · rintro i y σ H2 hi ⟨u, v, rfl, s2, hF⟩
    have ht2 := ht.same s2
    obtain ⟨r, t, h1, rfl, h2⟩ := ht2.at_ hi
    rw [flat_take h1]
    refine ⟨t, _, rfl, SqT.of h2, rfl, .int r.1, [.int r.2], rfl, .int r.2, [], rfl, rfl, ?_⟩
    refine ⟨_, rfl, _, rfl, rfl, _, rfl, ite2 (fun c => ?_) (fun c => ?_)⟩
    · have c' : r.1 = p := V.int.inj (of_decide_eq_true c)
      have lt := (List.getElem?_eq_some_iff.mp h1).1
      have d1 := hd i r h1 c'
      refine ⟨_, rfl, .inl ⟨rfl, _, SqL.of hF⟩, ?_⟩
      refine ⟨_, rfl, _, rfl, R, rs, r.2, rfl, ⟨ts, s2 _ _ hp, ht2⟩, ho, hz, hz2, by omega, fun j r' hj e => ?_, fun a H3 s3 ha => ?_⟩
      · have := ho i j r r' h1 hj e
        omega
      · refine ⟨F, a, _, _, rfl, rfl, s3 _ _ hF, ha, ?_, ?_⟩
        · rw [vi_len, vi_len, List.length_cons, List.length_cons]
          have := lz i
          have := hz2 r.2
          rw [sizeLine_eq]; omega
        · refine ⟨_, _, rfl, (s2.trans s3).put nF, ?_⟩
          rw [upd_same, chF, if_pos c']
          unfold vi
          rw [← List.map_append]
          rfl
    · have c' : ¬ r.1 = p := fun z => c (decide_eq_true (by rw [z]))
      refine ⟨_, _, rfl, s2, ?_⟩
      rw [chF, if_neg c', List.append_nil]
      exact hF
  · rintro σ H2 ⟨u, v, rfl, s2, hF⟩
    rw [ht.1, List.take_length, ← ef] at hF
    exact ⟨_, rfl, q F H2 s2 hF⟩
theorem none_behind (D : C8.Def K mg "with_all_behind" sWithAllBehind f fd) (b : Binds K fd ["roads", "place"] []) : C8.Cal P w K mg base 0 "with_all_behind" (spBehind 0) [] := by
  have no : ∀ vs H Q E, ¬ spBehind 0 vs H Q E := fun vs H Q E h => by
    obtain ⟨_, _, _, _, _, _, _, _, h1, _⟩ := h
    omega
  exact ⟨f, fd, _, [], ⟨fun vs H Q E h => absurd h (no vs H Q E), fun A outer s H args us vs Q E _ _ _ _ h => absurd h (no vs H Q E)⟩, D.mgf, D.kp, b, .nil⟩
theorem ok_behind (D : C8.Def K mg "with_all_behind" sWithAllBehind f fd) (b : Binds K fd ["roads", "place"] []) (T : Txt mg) : ∀ n, C8.Cal P w K mg base n "with_all_behind" (spBehind n) []
  | 0 => none_behind D b
  | n + 1 => ok_behind1 D b T (ok_behind D b T n)
end
/-! ### walked_round -/
abbrev sWalkedRound : Stmt := topS 18
abbrev nWalkedRound : List Str := ["lengths"]
theorem scWalkedRound : FnScope nWalkedRound ["lengths"] (C8.fnScope sWalkedRound) := C8.fnScope_by (by decide +kernel)
def spWalked (K : PySem.W.Frag) : Sp := fun vs H Q _ => ∃ (L : Addr) (rs : List Addr) (M : List (List Int)) (n : Nat), vs = [.ref L] ∧ MatAt K H L rs M ∧ Good n M ∧ ∀ p H' l, Same H H' → Round n l → l.head? = some 0 → cyc (lm n M) l ≤ 2 * cost (lm n M) (tree (lm n M) n) → H' p = some (.lst (vi l)) → Q (.ref p) H'
theorem ch_len_le : ∀ (rs : List (Int × Int)) (p : Int), (ch rs p).length ≤ 2 ^ rs.length - 1
  | [], _ => Nat.le_refl 0
  | r :: rs, p => by
    have h1 := ch_len_le rs r.2
    have h2 := ch_len_le rs p
    have h3 : 1 ≤ 2 ^ rs.length := Nat.one_le_two_pow
    have e : 2 ^ (r :: rs).length = 2 ^ rs.length * 2 := by rw [List.length_cons, Nat.pow_succ]
    rw [ch, e]
    split
    · simp only [List.length_cons, List.length_append]; omega
    · omega
theorem primF_len {d : Int → Int → Int} {n : Nat} : ∀ (f : Nat) (S : List Int), (primF d n f S).length + S.length ≤ n ∨ primF d n f S = []
  | 0, S => .inr rfl
  | f + 1, S => by
    unfold primF
    split
    · rename_i c
      split
      · rename_i r e
        refine .inl ?_
        have := primF_len (d := d) (n := n) f (S ++ [r.2])
        rcases this with h | h
        · simp only [List.length_append, List.length_cons, List.length_nil] at h ⊢
          omega
        · rw [h]
          simp only [List.length_cons, List.length_nil]
          omega
      · exact .inr rfl
    · exact .inr rfl
theorem tree_len {d : Int → Int → Int} {n : Nat} (hn : 0 < n) : (tree d n).length + 1 ≤ n := by
  have := primF_len (d := d) (n := n) n [0]
  unfold tree
  rcases this with h | h
  · simpa using h
  · rw [h]; simp; omega
section
variable {P : Program} {w : World} {K : PySem.W.Frag} {mg : Str → Option Value} {base : Heap} {f : Addr} {fd : FuncData}
theorem ok_walked (D : C8.Def K mg "walked_round" sWalkedRound f fd) (b : Binds K fd ["lengths"] []) (T : Txt mg) (cLeastTree : C8.Cal P w K mg base 3 "least_tree" (spTree K) []) (cWithAllBehind : C8.Cal P w K mg base 12 "with_all_behind" (spBehind 12) []) : C8.Cal P w K mg base 13 "walked_round" (spWalked K) [] := by
  refine C8.cal0 D b .nil scWalkedRound (fun vs H Q E h => ?_) (fun cdv A outer s H vs Q E hr h => ?_)
  · obtain ⟨L, rs, M, n, rfl, _⟩ := h
    rfl
  obtain ⟨L, rs, M, n, rfl, m, G, q⟩ := h
  have top := G.top
  have pos := G.pos
  refine ⟨_, (pss_one (ps_ret (C8.pe_c cWithAllBehind hr (by omega) (by rfl) (pa_cons (C8.pe_c cLeastTree hr (by omega) (by rfl) (pa_cons (pv 0) pa_nil)) (pa_cons pe_int pa_nil))))), ?_⟩
  have pr := tree_prim (d := lm n M) pos
  have wk := pr.walked G.met pos
  have tl := tree_len (d := lm n M) pos
  refine ⟨_, rfl, L, rs, M, n, rfl, m, G, fun p H1 s1 h1 => ?_⟩
  have len1 := wk.1.perm.length_eq
  rw [places_len] at len1
  have lenx : ∀ x, (ch (tree (lm n M) n) x).length ≤ 1023 := fun x => by
    have h1 := ch_len_le (tree (lm n M) n) x
    have h2 : 2 ^ (tree (lm n M) n).length ≤ 2 ^ 10 := Nat.pow_le_pow_right (by omega) (by omega)
    omega
  refine ⟨p, _, 0, rfl, h1, pr.grow.ord, by omega, lenx, by omega, fun j r hj _ => by have := (List.getElem?_eq_some_iff.mp hj).1; omega, fun a H2 s2 ha => ?_⟩
  exact q a H2 _ (s1.trans s2) wk.1 rfl wk.2 ha
end
/-! ### odd_ends -/
/-- how often each place came -/
structure Cnt (kvs : List (Key × V)) (e : List Int) : Prop where
  nd : (kvs.map (·.1)).Nodup
  form : ∀ kv ∈ kvs, ∃ (x c : Int), kv = (Sum.inl x, V.int c)
  val : ∀ x : Int, valV kvs (Sum.inl x : Key) = if e.count x = 0 then none else some (.int (e.count x : Nat))
  len : kvs.length ≤ e.length
theorem keys_map {kvs : List (Key × V)} {k : Key} {v : V} : (kvs.map (fun kv => if kv.1 = k then (kv.1, v) else kv)).map (·.1) = kvs.map (·.1) := by
  rw [List.map_map]
  apply List.map_congr_left
  intro kv _
  show (if kv.1 = k then (kv.1, v) else kv).1 = kv.1
  split <;> rfl
theorem Cnt.put {kvs : List (Key × V)} {e : List Int} (C : Cnt kvs e) (x : Int) : Cnt (putK kvs (Sum.inl x : Key) (.int ((e.count x : Nat) + 1))) (e ++ [x]) := by
  refine ⟨?_, fun kv h => ?_, fun y => ?_, ?_⟩
  · cases h : valV kvs (Sum.inl x : Key) with
    | none => exact nd_putK _ C.nd h
    | some v =>
      unfold putK
      rw [valV_any, h, if_pos (show (some v).isSome = true from rfl), keys_map]
      exact C.nd
  · unfold putK at h
    split at h
    · obtain ⟨p, hp, rfl⟩ := List.mem_map.mp h
      obtain ⟨y, c, rfl⟩ := C.form p hp
      split
      · exact ⟨_, _, rfl⟩
      · exact ⟨_, _, rfl⟩
    · rcases List.mem_append.mp h with h | h
      · exact C.form kv h
      · have : kv = (Sum.inl x, .int ((e.count x : Nat) + 1)) := by simpa using h
        exact ⟨_, _, this⟩
  · rw [valV_put, C.val, List.count_append, List.count_singleton]
    by_cases c : y = x
    · subst c
      rw [if_pos rfl]
      simp
    · have c' : ¬ (Sum.inl y : Key) = Sum.inl x := fun z => c (Sum.inl.inj z)
      rw [if_neg c']
      have c2 : (x == y) = false := by simpa using fun z => c z.symm
      rw [c2]
      simp
  · have := length_putK kvs (Sum.inl x : Key) (.int ((e.count x : Nat) + 1))
    have := C.len
    rw [List.length_append, List.length_singleton]
    omega
theorem Cnt.get {kvs : List (Key × V)} {e : List Int} (C : Cnt kvs e) (x : Int) : (valV kvs (Sum.inl x : Key)).getD (.int 0) = .int ((e.count x : Nat) : Int) := by
  rw [C.val]
  by_cases c : e.count x = 0
  · rw [if_pos c, c]; rfl
  · rw [if_neg c]; rfl
def oddK (kv : Key × V) : Option Int := match kv with
  | (Sum.inl x, .int c) => if c % 2 = 1 then some x else none
  | _ => none
theorem mem_valV {kvs : List (Key × V)} (hn : (kvs.map (·.1)).Nodup) {k : Key} {v : V} (h : (k, v) ∈ kvs) : valV kvs k = some v := by
  induction kvs with
  | nil => simp at h
  | cons p r ih =>
    rw [List.map_cons, List.nodup_cons] at hn
    rcases List.mem_cons.mp h with e | h
    · rw [← e]; exact valV_pos rfl
    · have : ¬ p.1 = k := fun z => hn.1 (List.mem_map.mpr ⟨(k, v), h, z.symm⟩)
      rw [valV_neg this]
      exact ih hn.2 h
theorem valV_mem2 {kvs : List (Key × V)} {k : Key} {v : V} (h : valV kvs k = some v) : (k, v) ∈ kvs := by
  induction kvs with
  | nil => simp [valV] at h
  | cons p r ih =>
    by_cases e : p.1 = k
    · rw [valV_pos e] at h
      have : p = (k, v) := by
        rw [← e, ← Option.some.inj h]
      rw [this]; simp
    · rw [valV_neg e] at h
      exact List.mem_cons_of_mem _ (ih h)
theorem odd_sub : ∀ kvs : List (Key × V), ((kvs.filterMap oddK).map fun x => (Sum.inl x : Key)).Sublist (kvs.map (·.1))
  | [] => .slnil
  | (.inr z, v) :: r => by
    have e : oddK (.inr z, v) = none := rfl
    rw [List.filterMap_cons, e]
    exact (odd_sub r).cons _
  | (.inl x, v) :: r => by
    rw [List.filterMap_cons]
    cases h : oddK (.inl x, v) with
    | none => exact (odd_sub r).cons _
    | some y =>
      have e : y = x := by
        cases v with
        | int c =>
          unfold oddK at h
          simp only at h
          split at h
          · exact (Option.some.inj h).symm
          · cases h
        | _ => cases h
      subst e
      exact (odd_sub r).cons_cons _
theorem nd_of_map {α β : Type} {f : α → β} : ∀ {l : List α}, (l.map f).Nodup → l.Nodup
  | [], _ => List.nodup_nil
  | x :: l, h => by
    rw [List.map_cons, List.nodup_cons] at h
    rw [List.nodup_cons]
    exact ⟨fun z => h.1 (List.mem_map_of_mem z), nd_of_map h.2⟩
theorem Cnt.odd {kvs : List (Key × V)} {rs : List (Int × Int)} (C : Cnt kvs (ends rs)) : Odd rs (kvs.filterMap oddK) where
  nd := nd_of_map ((odd_sub kvs).nodup C.nd)
  mem := fun x => by
    rw [List.mem_filterMap]
    constructor
    · rintro ⟨kv, h, e⟩
      obtain ⟨y, c, rfl⟩ := C.form kv h
      unfold oddK at e
      simp only at e
      split at e
      · rename_i hc
        have : y = x := Option.some.inj e
        subst this
        have h1 := mem_valV C.nd h
        rw [C.val] at h1
        split at h1
        · cases h1
        · have : (((ends rs).count y : Nat) : Int) = c := V.int.inj (Option.some.inj h1)
          omega
      · cases e
    · intro hx
      have h1 := C.val x
      rw [if_neg (by omega)] at h1
      refine ⟨_, valV_mem2 h1, ?_⟩
      unfold oddK
      simp only
      rw [if_pos (by omega)]
theorem _root_.KM.Odd.perm {rs : List (Int × Int)} {l l' : List Int} (h : Odd rs l) (p : l'.Perm l) : Odd rs l' := ⟨p.nodup_iff.mpr h.nd, fun x => by rw [p.mem_iff, h.mem]⟩
theorem ends_take {l : List (Int × Int)} {i : Nat} {r : Int × Int} (h : l[i]? = some r) : ends (l.take (i + 1)) = ends (l.take i) ++ [r.1, r.2] := by
  rw [List.take_add_one, h, ends_append]
  rfl
theorem ends_take_le (l : List (Int × Int)) (i : Nat) : (ends (l.take i)).length ≤ 2 * l.length := by
  rw [ends_len, List.length_take]
  omega
abbrev sOddEnds : Stmt := topS 11
abbrev nOddEnds : List Str := ["roads", "counts", "road", "place", "count"]
theorem scOddEnds : FnScope nOddEnds ["roads"] (C8.fnScope sOddEnds) := C8.fnScope_by (by decide +kernel)
def spOdd : Sp := fun vs H Q _ => ∃ (R : Addr) (rs : List (Int × Int)), vs = [.ref R] ∧ RdsAt H R rs ∧ rs.length ≤ 20 ∧ ∀ p H' os, Same H H' → Odd rs os → H' p = some (.lst (vi os)) → Q (.ref p) H'
section
variable {P : Program} {w : World} {K : PySem.W.Frag} {mg : Str → Option Value} {base : Heap} {f : Addr} {fd : FuncData}
theorem ok_odd (D : C8.Def K mg "odd_ends" sOddEnds f fd) (b : Binds K fd ["roads"] []) (T : Txt mg) : C8.Cal P w K mg base 1 "odd_ends" spOdd [] := by
  refine C8.cal0 D b .nil scOddEnds (fun vs H Q E h => ?_) (fun cdv A outer s H vs Q E hr h => ?_)
  · obtain ⟨R, rs, rfl, _⟩ := h
    rfl
  obtain ⟨R, rs, rfl, hR, hz, q⟩ := h
  obtain ⟨ts, hp, ht⟩ := hR.ex
  have hu := hu_of hr
  refine ⟨_, (pss_cons (ps_set (i := 1) scOddEnds.nd rfl (.inl rfl) pe_dnewK)
 (pss_cons (ps_for PassesOwn.never rfl (pi_list (pv 0)) (pg_name (i := 2) scOddEnds.nd rfl (.inl rfl))
 (pss_one (ps_for PassesOwn.never rfl (pi_tup (pv 2)) (pg_name (i := 3) scOddEnds.nd rfl (.inl rfl))
 (pss_one (ps_dput hu (pv 1) (pv 3) (pe_op op_add (pe_dget2 hu (pv 1) (pv 3) pe_int ⟨rfl, by rfl, rfl, rfl⟩) pe_int) rfl)))))
 (pss_one (ps_ret (pe_callB cr_sorted (by rfl) T.sorted_ (by decide +kernel) (pa_cons (pe_lock (pe_lc (own := [("place", 3), ("count", 4)]) (g := gTup K 2 _) rfl scOddEnds.nd (pi_items (pv 1)) (blkOk_by (own := [("place", 3), ("count", 4)]) (N := nOddEnds) (sc := C8.fnScope sOddEnds) (by decide +kernel)) (fun _ _ _ _ _ => (pg_tup rfl (pgs_cons (pg_name (i := 3) scOddEnds.nd rfl (.inl rfl)) (pgs_cons (pg_name (i := 4) scOddEnds.nd rfl (.inl rfl)) pgs_nil)))) (fun _ _ _ _ _ => pts_one (pt_cmpR op_eq (pe_op op_mod (pv 4) pe_int) pe_int (nomark _))) (fun _ _ _ _ _ => (pv 3)))) pa_nil)))))), ?_⟩
  -- counts = {}
  intro d nd
  refine ⟨_, rfl, R, rfl, ⟨_, SqL.of (Same.new nd _ _ hp)⟩, for_list (K := K) (a := R) (xs := ts) (fun i σ H2 => ∃ u v kvs, σ = [some (.ref R), some (.ref d), u, v, none] ∧ Same H H2 ∧ H2 d = some (.dK kvs) ∧ Cnt kvs (ends (rs.take i)))
    ⟨none, none, [], rfl, Same.new nd, upd_same, ⟨by simp, by simp, fun x => rfl, Nat.le_refl _⟩⟩ (fun i σ H2 _ ⟨_, _, _, _, s2, _⟩ => SqL.of (s2 _ _ hp)) ?_ ?_⟩
  · rintro i y σ H2 hi ⟨u, v, kvs, rfl, s2, hd, C⟩
    obtain ⟨r, t, h1, rfl, h2⟩ := (ht.same s2).at_ hi
    have h2o : H2 t = some (.tup [.int r.1, .int r.2]) := h2
    refine ⟨_, rfl, t, rfl, ⟨_, SqT.of h2⟩, for_tup (K := K) (a := t) (xs := [.int r.1, .int r.2]) (fun j σ H3 => ∃ v kvs, σ = [some (.ref R), some (.ref d), some (.ref t), v, none] ∧ Same H H3 ∧ H3 t = some (.tup [.int r.1, .int r.2]) ∧ H3 d = some (.dK kvs) ∧ Cnt kvs (ends (rs.take i) ++ [r.1, r.2].take j))
      ⟨v, kvs, rfl, s2, h2, hd, by simpa using C⟩ (fun j σ H3 _ ⟨_, _, _, _, e, _⟩ => SqT.of e) ?_ ?_⟩
    · rintro j y σ H3 hj ⟨v', kvs', rfl, s3, h3, hd3, C3⟩
      have hj' : ∃ x : Int, y = .int x ∧ [r.1, r.2].take (j + 1) = [r.1, r.2].take j ++ [x] := by
        match j, hj with
        | 0, hj => exact ⟨r.1, (Option.some.inj hj).symm, rfl⟩
        | 1, hj => exact ⟨r.2, (Option.some.inj hj).symm, rfl⟩
        | j + 2, hj => simp at hj
      obtain ⟨x, rfl, ej⟩ := hj'
      rw [ej]
      have hlen := C3.len
      have h5 := ends_take_le rs i
      have h6 : ([r.1, r.2].take j).length ≤ 2 := by rw [List.length_take]; show min j 2 ≤ 2; omega
      rw [List.length_append] at hlen
      refine ⟨_, rfl, d, rfl, .inl ⟨_, .inl hd3⟩, _, rfl, _, DGet.k (k := Sum.inl x) hd3, ?_⟩
      rw [C3.get]
      refine ⟨_, _, rfl, rfl, _, rfl, _, rfl, d, _, rfl, DPut.k (k := Sum.inl x) hd3 (small1000 (by omega)), ?_⟩
      have ntd : t ≠ d := ne_of h3 hd3 (by intro z; cases z)
      refine ⟨_, _, rfl, s3.put nd, by rw [upd_ne ntd]; exact h3, upd_same, ?_⟩
      have := C3.put x
      rw [List.append_assoc] at this
      exact this
    · rintro σ H3 ⟨v', kvs', rfl, s3, h3, hd3, C3⟩
      refine ⟨_, _, kvs', rfl, s3, hd3, ?_⟩
      rw [ends_take h1]
      exact C3
  · rintro σ H2 ⟨u, v, kvs, rfl, s2, hd, C⟩
    rw [ht.1, List.take_length] at C
    have hlen := C.len
    have h5 := ends_len rs
    refine ⟨d, _, hd, trivial, fun od => ?_⟩
    refine ⟨_, rfl, d, od, kvs, rfl, upd_same, fun F nF => ?_⟩
    have nFd : F ≠ d := fun e => by rw [e, upd_same] at nF; cases nF
    have nF2 : H2 F = none := by rw [upd_ne nFd] at nF; exact nF
    have nF0 : H F = none := s2.free nF2
    refine lc_it walk_items (fun i H3 => (upd H3 d (.dK kvs)) d = some (.dK kvs) ∧ Same H (upd H3 d (.dK kvs)) ∧ H3 d = some (.frz od (.dK kvs)) ∧ H3 F = some (.lst (vi ((kvs.take i).filterMap oddK))))
      ⟨upd_same, ?_, ?_, upd_same⟩ (fun i H3 _ h => h.2.2.1) ?_ ?_
    · refine fun c o e => ?_
      have h1 : c ≠ d := ne_of_none e nd
      have h2 : c ≠ F := ne_of_none e nF0
      rw [upd_ne h1, upd_ne h2, upd_ne h1]
      exact s2 _ _ e
    · rw [upd_ne nFd.symm, upd_same]
    · rintro i y H3 H4 hi ⟨_, s3, hd3, hF⟩ ⟨t, k, v', rfl, nt, rfl, hk, hv⟩
      have g : kvs[i]? = some kvs[i] := List.getElem?_eq_getElem hi
      obtain ⟨x, c, e⟩ := C.form kvs[i] (List.getElem_mem hi)
      simp only [g, Option.map_some, Option.some.injEq] at hk hv
      rw [e] at hk hv g
      subst hk hv
      have ntd : t ≠ d := fun z => by rw [z, hd3] at nt; cases nt
      have ntF : t ≠ F := fun z => by rw [z, hF] at nt; cases nt
      have e1 : (kvs.take (i + 1)).filterMap oddK = (kvs.take i).filterMap oddK ++ (if c % 2 = 1 then [x] else []) := by
        rw [List.take_add_one, g, List.filterMap_append]
        congr 1
        show List.filterMap oddK [(Sum.inl x, V.int c)] = _
        rw [List.filterMap_cons, List.filterMap_nil]
        unfold oddK
        simp only
        split <;> rename_i q <;> (try (split at q <;> simp_all)) <;> simp_all
      have s4 : Same H (upd (upd H3 t (.tup [kV (Sum.inl x), .int c])) d (.dK kvs)) := fun a o z => by
        have h1 : a ≠ d := ne_of_none z nd
        have h0 := s3 a o z
        rw [upd_ne h1] at h0 ⊢
        rw [upd_ne (ne_of_none h0 nt)]
        exact h0
      refine ⟨t, _, rfl, SqT.of upd_same, rfl, .int x, [.int c], rfl, .int c, [], rfl, rfl, rfl, ?_⟩
      refine ⟨_, rfl, _, _, rfl, rfl, (by show (0 : Int) < 2; decide), rfl, _, rfl, ite2 (fun z => ?_) (fun z => ?_)⟩
      · have z' : c % 2 = 1 := V.int.inj (of_decide_eq_true z)
        refine ⟨_, rfl, vi ((kvs.take i).filterMap oddK), by rw [upd_ne ntF.symm]; exact hF, ?_, upd_same, ?_, ?_, ?_⟩
        · have := List.length_filterMap_le oddK (kvs.take i)
          rw [List.length_take] at this
          rw [vi_len]
          exact small1000 (by omega)
        · refine fun a o z => ?_
          have h1 : a ≠ d := ne_of_none z nd
          have h2 : a ≠ F := ne_of_none z nF0
          have h0 := s4 a o z
          rw [upd_ne h1] at h0 ⊢
          rw [upd_ne h2]
          exact h0
        · rw [upd_ne nFd.symm, upd_ne ntd.symm]; exact hd3
        · rw [upd_same, e1, if_pos z']
          unfold vi
          rw [List.map_append]
          rfl
      · have z' : ¬ c % 2 = 1 := fun y => z (decide_eq_true (congrArg V.int y))
        refine ⟨upd_same, s4, by rw [upd_ne ntd.symm]; exact hd3, ?_⟩
        rw [e1, if_neg z', List.append_nil, upd_ne ntF.symm]
        exact hF
    · rintro H3 ⟨_, s3, hd3, hF⟩
      rw [List.take_length] at hF
      have lo := List.length_filterMap_le oddK kvs
      refine ⟨hd3, F, _, rfl, SqL.of (by rw [upd_ne nFd]; exact hF), by omega, fun ns p pp _ np => ?_⟩
      exact q p _ ns (s3.trans (Same.new np)) (C.odd.perm pp) upd_same
end
/-! ### paired_least -/
abbrev sPairedLeast : Stmt := topS 12
abbrev nPairedLeast : List Str := ["lengths", "some", "best", "k", "pairs"]
theorem scPairedLeast : FnScope nPairedLeast ["lengths", "some"] (C8.fnScope sPairedLeast) := C8.fnScope_by (by decide +kernel)
def spPL (K : PySem.W.Frag) (k : Nat) : Sp := fun vs H Q _ => ∃ (L : Addr) (rs : List Addr) (M : List (List Int)) (n : Nat) (S : Addr) (os : List Int), vs = [.ref L, .ref S] ∧ MatAt K H L rs M ∧ Good n M ∧ SqL K H S (vi os) ∧ (∀ x ∈ os, Vd n x) ∧ os.length % 2 = 0 ∧ os.length ≤ 50 ∧ os.length + 2 ≤ 2 * k ∧
  ∀ p H' ps, Same H H' → Least (lm n M) os ps → RdsAt H' p ps → Q (.ref p) H'
theorem RdsAt.len {H : Hp} {p : Addr} {rs : List (Int × Int)} {vs : List V} (h : RdsAt H p rs) (e : H p = some (.lst vs)) : TupsOf H vs rs := by
  obtain ⟨ws, h1, h2⟩ := h.ex
  rw [e] at h1
  cases h1
  exact h2
theorem cut_to {l : List Int} {x : Int} {i : Nat} (hi : i < l.length) : cutV (vi (x :: l)) (some 1) (some (1 + (i : Int))) = vi (l.take i) := by
  unfold cutV
  have e1 : HT.sIx (vi (x :: l)).length 0 (some 1) = 1 := by
    have := HT.sIx_nat (vi (x :: l)).length 0 1
    rw [vi_len, List.length_cons] at *
    rw [show ((1 : Nat) : Int) = 1 from rfl] at this
    rw [this]; omega
  have e2 : HT.sIx (vi (x :: l)).length (vi (x :: l)).length (some (1 + (i : Int))) = i + 1 := by
    have := HT.sIx_nat (vi (x :: l)).length (vi (x :: l)).length (i + 1)
    rw [show (((i + 1 : Nat) : Nat) : Int) = 1 + (i : Int) by omega] at this
    rw [this, vi_len, List.length_cons]; omega
  rw [e1, e2, Nat.add_sub_cancel]
  show ((vi (x :: l)).drop 1).take i = _
  unfold vi
  rw [List.map_cons, List.drop_one, List.tail_cons, List.map_take]
theorem cut_from {l : List Int} {x : Int} {i : Nat} (hi : i < l.length) : cutV (vi (x :: l)) (some (1 + (i : Int) + 1)) none = vi (l.drop (i + 1)) := by
  unfold cutV
  have e1 : HT.sIx (vi (x :: l)).length 0 (some (1 + (i : Int) + 1)) = i + 2 := by
    have := HT.sIx_nat (vi (x :: l)).length 0 (i + 2)
    rw [show (((i + 2 : Nat) : Nat) : Int) = 1 + (i : Int) + 1 by omega] at this
    rw [this, vi_len, List.length_cons]; omega
  rw [e1, HT.sIx_none]
  have : ((vi (x :: l)).drop (i + 2)).length = (vi (x :: l)).length - (i + 2) := List.length_drop
  rw [← this, List.take_length]
  unfold vi
  rw [List.map_cons, List.drop_succ_cons, List.map_drop]
section
variable {P : Program} {w : World} {K : PySem.W.Frag} {mg : Str → Option Value} {base : Heap} {f : Addr} {fd : FuncData}
theorem ok_pl1 {k : Nat} (D : C8.Def K mg "paired_least" sPairedLeast f fd) (b : Binds K fd ["lengths", "some"] []) (T : Txt mg) (cRoadsLength : C8.Cal P w K mg base 1 "roads_length" (spRoads K) [])
    (cPairedLeast : C8.Cal P w K mg base (k + 1) "paired_least" (spPL K k) []) : C8.Cal P w K mg base (k + 1 + 1) "paired_least" (spPL K (k + 1)) [] := by
  refine C8.cal0 D b .nil scPairedLeast (fun vs H Q E h => ?_) (fun cdv A outer s H vs Q E hr h => ?_)
  · obtain ⟨L, rs, M, n, S, os, rfl, _⟩ := h
    rfl
  obtain ⟨L, rs, M, n, S, os, rfl, m, G, hS, hv, he, h50, hk, q⟩ := h
  refine ⟨_, (pss_cons (ps_if (pt_cmpR op_eq (pe_callB call_len_seq (by rfl) T.len_ PySem.boot_len (pa_cons (pv 1) pa_nil)) pe_int (nomark _))
 (pss_one (ps_ret (pe_lst pa_nil)))
 pss_nil)
 (pss_cons (ps_set (i := 2) scPairedLeast.nd rfl (.inl rfl) pe_non)
 (pss_cons (ps_for PassesOwn.never rfl (pi_range2 (by rfl) T.range_ (pa_cons pe_int (pa_cons (pe_callB call_len_seq (by rfl) T.len_ PySem.boot_len (pa_cons (pv 1) pa_nil)) pa_nil))) (pg_name (i := 3) scPairedLeast.nd rfl (.inl rfl))
 (pss_cons (ps_set (i := 4) scPairedLeast.nd rfl (.inl rfl) (pe_op op_cat (pe_lst (pa_cons (pe_tup (pa_cons (pe_ix ix_list (pv 1) pe_int (fun _ _ => rfl)) (pa_cons (pe_ix ix_list (pv 1) (pv 3) (fun _ _ => rfl)) pa_nil))) pa_nil)) (C8.pe_c cPairedLeast hr (by omega) (by rfl) (pa_cons (pv 0) (pa_cons (pe_op op_cat (pe_slice sl_list (pv 1) (po_some pe_int) (po_some (pv 3))) (pe_slice sl_list (pv 1) (po_some (pe_op op_add (pv 3) pe_int)) po_none)) pa_nil)))))
 (pss_one (ps_if (PW.pt (pw_or (pt_cmpR op_isN (pv 2) pe_non (nomark _)) (pw_or1 (pt_cmpR op_lt (C8.pe_c cRoadsLength hr (by omega) (by rfl) (pa_cons (pv 0) (pa_cons (pv 4) pa_nil))) (C8.pe_c cRoadsLength hr (by omega) (by rfl) (pa_cons (pv 0) (pa_cons (pv 2) pa_nil))) (nomark _)))))
 (pss_one (ps_set (i := 2) scPairedLeast.nd rfl (.inl rfl) (pv 4)))
 pss_nil))))
 (pss_one (ps_ret (pv 2)))))), ?_⟩
  refine ⟨_, rfl, S, _, rfl, .inl hS, rfl, _, rfl, ?_⟩
  rw [vi_len]
  refine ite2 (fun c => ?_) (fun c => ?_)
  · have c' : (os.length : Int) = 0 := V.int.inj (of_decide_eq_true c)
    have e0 : os = [] := List.length_eq_zero_iff.mp (by omega)
    subst e0
    refine ⟨by show 0 ≤ sizeLine; decide, fun p np => ?_⟩
    exact q p _ [] (Same.new np) Least.nil ⟨[], upd_same, TupsOf.nil⟩
  obtain ⟨x0, r, rfl⟩ : ∃ x0 r, os = x0 :: r := by
    cases os with
    | nil => exact absurd (decide_eq_true rfl) c
    | cons x r => exact ⟨x, r, rfl⟩
  rw [List.length_cons] at he h50 hk
  refine ⟨_, rfl, S, _, rfl, .inl hS, _, _, rfl, ⟨by omega, by omega, by omega, by rw [vi_len, List.length_cons]; omega⟩, ?_⟩
  rw [vi_len, List.length_cons]
  have en : (((r.length + 1 : Nat) : Int) - 1).toNat = r.length := by omega
  rw [en]
  have hv0 : Vd n x0 := hv x0 (by simp)
  refine for_range (lo := 1) (n := r.length) (fun i σ H2 => ∃ bv u v, σ = [some (.ref L), some (.ref S), some bv, u, v] ∧ Same H H2 ∧
      ((i = 0 ∧ bv = .non) ∨ ∃ p best, bv = .ref p ∧ RdsAt H2 p best ∧ (ends best).Perm (x0 :: r) ∧ ∀ j (hj : j < r.length), j < i → ∀ qs, (ends qs).Perm (r.eraseIdx j) → cost (lm n M) best ≤ lm n M x0 r[j] + cost (lm n M) qs))
    ⟨.non, none, none, rfl, Same.refl H, .inl ⟨rfl, rfl⟩⟩ ?_ ?_
  · rintro i σ H2 hi ⟨bv, u, v, rfl, s2, hb⟩
    have hS2 := s2.seq hS
    have g0 : atI (vi (x0 :: r)) 0 = some (.int x0) := atI_nat (j := 0) rfl
    have g1 : atI (vi (x0 :: r)) (1 + (i : Int)) = some (.int r[i]) := at_of (j := i + 1) (by omega) (vi_get (by rw [List.getElem?_cons_succ, List.getElem?_eq_getElem hi]))
    -- [(some[0], some[k])]
    refine ⟨_, rfl, S, _, _, _, rfl, rfl, hS2, g0, _, rfl, _, rfl, S, _, _, _, rfl, rfl, hS2, g1, by show 2 ≤ sizeLine; decide, fun t nt => ?_⟩
    refine ⟨by show 1 ≤ sizeLine; decide, fun p1 np1 => ?_⟩
    have s3 : Same H2 (upd H2 t (.tup [.int x0, .int r[i]])) := Same.new nt
    have s4 : Same (upd H2 t (.tup [.int x0, .int r[i]])) (upd (upd H2 t (.tup [.int x0, .int r[i]])) p1 (.lst [.ref t])) := Same.new np1
    have ht4 : (upd (upd H2 t (.tup [.int x0, .int r[i]])) p1 (.lst [.ref t])) t = some (.tup [.int x0, .int r[i]]) := s4 _ _ upd_same
    have hp4 : (upd (upd H2 t (.tup [.int x0, .int r[i]])) p1 (.lst [.ref t])) p1 = some (.lst [.ref t]) := upd_same
    generalize (upd (upd H2 t (.tup [.int x0, .int r[i]])) p1 (.lst [.ref t])) = H4 at s4 ht4 hp4
    have s24 := s3.trans s4
    -- some[1:k] + some[k + 1:]
    refine ⟨_, rfl, _, rfl, 1, rfl, _, rfl, _, rfl, S, _, rfl, s24.seq hS2, fun c1 nc1 => ?_⟩
    rw [cut_to hi]
    have s5 : Same H4 (upd H4 c1 (.lst (vi (r.take i)))) := Same.new nc1
    have hc1 : (upd H4 c1 (.lst (vi (r.take i)))) c1 = some (.lst (vi (r.take i))) := upd_same
    generalize (upd H4 c1 (.lst (vi (r.take i)))) = H5 at s5 hc1
    have s25 := s24.trans s5
    refine ⟨_, rfl, _, rfl, _, _, rfl, rfl, _, rfl, S, _, rfl, s25.seq hS2, fun c2 nc2 => ?_⟩
    rw [cut_from hi]
    have s6 : Same H5 (upd H5 c2 (.lst (vi (r.drop (i + 1))))) := Same.new nc2
    have hc2 : (upd H5 c2 (.lst (vi (r.drop (i + 1))))) c2 = some (.lst (vi (r.drop (i + 1)))) := upd_same
    generalize (upd H5 c2 (.lst (vi (r.drop (i + 1))))) = H6 at s6 hc2
    refine ⟨c1, c2, _, _, rfl, rfl, s6 _ _ hc1, hc2, ?_, fun c3 nc3 => ?_⟩
    · rw [vi_len, vi_len, List.length_take, List.length_drop]
      exact small (by omega)
    have ee : vi (r.take i) ++ vi (r.drop (i + 1)) = vi (r.eraseIdx i) := by
      unfold vi
      rw [List.eraseIdx_eq_take_drop_succ, List.map_append]
    rw [ee]
    have s7 : Same H6 (upd H6 c3 (.lst (vi (r.eraseIdx i)))) := Same.new nc3
    have hc3 : (upd H6 c3 (.lst (vi (r.eraseIdx i)))) c3 = some (.lst (vi (r.eraseIdx i))) := upd_same
    generalize (upd H6 c3 (.lst (vi (r.eraseIdx i)))) = H7 at s7 hc3
    have s27 := s25.trans (s6.trans s7)
    have el : (r.eraseIdx i).length = r.length - 1 := List.length_eraseIdx_of_lt hi
    -- paired_least(..)
    refine ⟨L, rs, M, n, c3, r.eraseIdx i, rfl, m.same (s2.trans s27), G, SqL.of hc3, fun x hx => hv x (List.mem_cons_of_mem _ (List.mem_of_mem_eraseIdx hx)), by omega, by omega, by omega, fun p2 H8 ps s8 hl hp2 => ?_⟩
    obtain ⟨ws, hw, hws⟩ := hp2.ex
    have s48 := (s5.trans (s6.trans s7)).trans s8
    have hpl : (ends ps).length = r.length - 1 := by rw [hl.ends.length_eq, el]
    have hlen := ends_len ps
    refine ⟨p1, p2, _, _, rfl, rfl, s48 _ _ hp4, hw, ?_, fun p3 np3 => ?_⟩
    · rw [hws.1]
      show 1 + ps.length ≤ sizeLine
      exact small (by omega)
    have s9 : Same H8 (upd H8 p3 (.lst ([.ref t] ++ ws))) := Same.new np3
    have hp3 : RdsAt (upd H8 p3 (.lst ([.ref t] ++ ws))) p3 ((x0, r[i]) :: ps) := ⟨_, upd_same, ((TupsOf.one (s48 _ _ ht4)).append hws).same s9⟩
    generalize (upd H8 p3 (.lst ([.ref t] ++ ws))) = H9 at s9 hp3
    have s29 : Same H2 H9 := (s24.trans s48).trans s9
    have pe : (ends ((x0, r[i]) :: ps)).Perm (x0 :: r) := by
      show (x0 :: r[i] :: ends ps).Perm (x0 :: r)
      exact ((hl.ends.cons r[i]).trans (eraseIdx_perm hi)).cons x0
    have vds : ∀ ps', (ends ps').Perm (x0 :: r) → ∀ x ∈ ends ps', Vd n x := fun ps' p' x hx => hv x (p'.mem_iff.mp hx)
    have own : ∀ qs, (ends qs).Perm (r.eraseIdx i) → cost (lm n M) ((x0, r[i]) :: ps) ≤ lm n M x0 r[i] + cost (lm n M) qs := fun qs hq => by
      have := hl.le qs hq
      simp only [cost]
      omega
    rcases hb with ⟨rfl, rfl⟩ | ⟨pb, best, rfl, hR, hpb, hle⟩
    · refine ⟨_, rfl, rfl, _, rfl, iteT (iteT ?_)⟩
      refine ⟨_, rfl, _, _, _, rfl, s2.trans s29, .inr ⟨p3, _, rfl, hp3, pe, fun j hj hji qs hq => ?_⟩⟩
      obtain rfl : j = 0 := by omega
      exact own qs hq
    · have hR9 := hR.same s29
      refine ⟨_, rfl, rfl, _, rfl, iteF ?_⟩
      refine ⟨_, rfl, _, rfl, L, rs, M, n, p3, _, rfl, m.same (s2.trans s29), G, hp3, vds _ pe, ?_⟩
      refine ⟨_, rfl, _, rfl, L, rs, M, n, pb, _, rfl, m.same (s2.trans s29), G, hR9, vds _ hpb, ?_⟩
      refine ⟨_, _, rfl, rfl, _, rfl, ite2 (fun c => ?_) (fun c => ?_)⟩
      · have c' := of_decide_eq_true c
        refine ⟨_, rfl, _, _, _, rfl, s2.trans s29, .inr ⟨p3, _, rfl, hp3, pe, fun j hj hji qs hq => ?_⟩⟩
        by_cases z : j = i
        · subst z
          exact own qs hq
        · have := hle j hj (by omega) qs hq
          omega
      · have c' : ¬ cost (lm n M) ((x0, r[i]) :: ps) < cost (lm n M) best := fun z => c (decide_eq_true z)
        refine ⟨_, _, _, rfl, s2.trans s29, .inr ⟨pb, best, rfl, hR9, hpb, fun j hj hji qs hq => ?_⟩⟩
        by_cases z : j = i
        · subst z
          have := own qs hq
          omega
        · exact hle j hj (by omega) qs hq
  · rintro σ H2 ⟨bv, u, v, rfl, s2, hb⟩
    rcases hb with ⟨z, _⟩ | ⟨pb, best, rfl, hR, hpb, hle⟩
    · omega
    · exact ⟨_, rfl, q pb H2 best s2 (Least.cons G.met hpb fun j hj qs hq => hle j hj hj qs hq) hR⟩
theorem none_pl (D : C8.Def K mg "paired_least" sPairedLeast f fd) (b : Binds K fd ["lengths", "some"] []) : C8.Cal P w K mg base 1 "paired_least" (spPL K 0) [] := by
  have no : ∀ vs H Q E, ¬ spPL K 0 vs H Q E := fun vs H Q E h => by
    obtain ⟨_, _, _, _, _, _, _, _, _, _, _, _, _, h1, _⟩ := h
    omega
  exact ⟨f, fd, _, [], ⟨fun vs H Q E h => absurd h (no vs H Q E), fun A outer s H args us vs Q E _ _ _ _ h => absurd h (no vs H Q E)⟩, D.mgf, D.kp, b, .nil⟩
theorem ok_pl (D : C8.Def K mg "paired_least" sPairedLeast f fd) (b : Binds K fd ["lengths", "some"] []) (T : Txt mg) (cRoadsLength : C8.Cal P w K mg base 1 "roads_length" (spRoads K) []) : ∀ k, C8.Cal P w K mg base (k + 1) "paired_least" (spPL K k) []
  | 0 => none_pl D b
  | k + 1 => ok_pl1 D b T cRoadsLength (ok_pl D b T cRoadsLength k)
end
/-! ### least_pairing -/
abbrev sLeastPairing : Stmt := topS 13
abbrev nLeastPairing : List Str := ["lengths", "some"]
theorem scLeastPairing : FnScope nLeastPairing ["lengths", "some"] (C8.fnScope sLeastPairing) := C8.fnScope_by (by decide +kernel)
def spPairing (K : PySem.W.Frag) : Sp := fun vs H Q _ => ∃ (L : Addr) (rs : List Addr) (M : List (List Int)) (n : Nat) (S : Addr) (os : List Int), vs = [.ref L, .ref S] ∧ MatAt K H L rs M ∧ Good n M ∧ SqL K H S (vi os) ∧ (∀ x ∈ os, Vd n x) ∧ os.length % 2 = 0 ∧ os.length ≤ 12 ∧
  ∀ p H' ps, Same H H' → Least (lm n M) os ps → RdsAt H' p ps → Q (.ref p) H'
section
variable {P : Program} {w : World} {K : PySem.W.Frag} {mg : Str → Option Value} {base : Heap} {f : Addr} {fd : FuncData}
theorem ok_pairing (D : C8.Def K mg "least_pairing" sLeastPairing f fd) (b : Binds K fd ["lengths", "some"] []) (T : Txt mg) (cLookAt : C8.Cal P w K mg base 2 "look_at" (spLook K) [])
    (cPairedLeast : C8.Cal P w K mg base 8 "paired_least" (spPL K 7) []) : C8.Cal P w K mg base 9 "least_pairing" (spPairing K) [] := by
  refine C8.cal0 D b .nil scLeastPairing (fun vs H Q E h => ?_) (fun cdv A outer s H vs Q E hr h => ?_)
  · obtain ⟨L, rs, M, n, S, os, rfl, _⟩ := h
    rfl
  obtain ⟨L, rs, M, n, S, os, rfl, m, G, hS, hv, he, h12, q⟩ := h
  refine ⟨_, (pss_cons (ps_expr (C8.pe_c cLookAt hr (by omega) (by rfl) (pa_cons (pv 0) pa_nil)))
 (pss_one (ps_ret (C8.pe_c cPairedLeast hr (by omega) (by rfl) (pa_cons (pv 0) (pa_cons (pe_callB cr_sorted (by rfl) T.sorted_ (by decide +kernel) (pa_cons (pv 1) pa_nil)) pa_nil)))))), ?_⟩
  refine ⟨_, rfl, L, rs, M, n, rfl, m, G, ?_⟩
  refine ⟨_, rfl, _, rfl, S, os, rfl, hS, by omega, fun ns p pp _ np => ?_⟩
  have s1 : Same H (upd H p (.lst (ns.map V.int))) := Same.new np
  have hl := pp.length_eq
  exact ⟨L, rs, M, n, p, ns, rfl, m.same s1, G, SqL.of upd_same, fun x hx => hv x (pp.mem_iff.mp hx), by omega, by omega, by omega, fun p2 H2 ps s2 hle hps => q p2 H2 ps (s1.trans s2) (hle.perm pp) hps⟩
end
/-! ### first_joined -/
abbrev sFirstJoined : Stmt := topS 20
abbrev nFirstJoined : List Str := ["roads", "place", "number", "road"]
theorem scFirstJoined : FnScope nFirstJoined ["roads", "place"] (C8.fnScope sFirstJoined) := C8.fnScope_by (by decide +kernel)
def spFirst : Sp := fun vs H Q _ => ∃ (R : Addr) (rs : List (Int × Int)) (x : Int), vs = [.ref R, .int x] ∧ RdsAt H R rs ∧ (∀ H', Same H H' → x ∉ ends rs → Q .non H') ∧ ∀ H' (k : Nat) e, Same H H' → rs[k]? = some e → (x = e.1 ∨ x = e.2) → Q (.int k) H'
section
variable {P : Program} {w : World} {K : PySem.W.Frag} {mg : Str → Option Value} {base : Heap} {f : Addr} {fd : FuncData}
theorem ok_first (D : C8.Def K mg "first_joined" sFirstJoined f fd) (b : Binds K fd ["roads", "place"] []) (T : Txt mg) : C8.Cal P w K mg base 1 "first_joined" spFirst [] := by
  refine C8.cal0 D b .nil scFirstJoined (fun vs H Q E h => ?_) (fun cdv A outer s H vs Q E hr h => ?_)
  · obtain ⟨R, rs, x, rfl, _⟩ := h
    rfl
  obtain ⟨R, rs, x, rfl, hR, q1, q2⟩ := h
  obtain ⟨ts, hp, ht⟩ := hR.ex
  refine ⟨_, (pss_cons (ps_for PassesOwn.never rfl (pi_enum (by rfl) T.enumerate_ (pa_cons (pv 0) pa_nil)) (pg_tup rfl (pgs_cons (pg_name (i := 2) scFirstJoined.nd rfl (.inl rfl)) (pgs_cons (pg_name (i := 3) scFirstJoined.nd rfl (.inl rfl)) pgs_nil)))
 (pss_one (ps_if (pt_cmpR op_in_seq (pv 1) (pv 3) (by rfl))
 (pss_one (ps_ret (pv 2)))
 pss_nil)))
 (pss_one (ps_ret pe_non))), ?_⟩
  refine ⟨_, rfl, R, ts, rfl, SqL.of hp, ?_⟩
  refine for_it (walk_enum (xs := ts)) (fun i σ H2 => ∃ u v, σ = [some (.ref R), some (.int x), u, v] ∧ Same H H2 ∧ ∀ (j : Nat) r, j < i → rs[j]? = some r → ¬ (x = r.1 ∨ x = r.2)) ⟨none, none, rfl, Same.refl H, fun j r h => absurd h (Nat.not_lt_zero j)⟩
    (fun i σ H2 _ ⟨_, _, _, s2, _⟩ => SqL.of (s2 _ _ hp)) ?_ ?_
  · rintro i y σ H2 H3 hi ⟨u, v, rfl, s2, hn⟩ ⟨t0, a, c, rfl, nt, rfl, ha, hc⟩
    have ea : a = .int (i : Nat) := (Option.some.inj ha).symm
    subst ea
    obtain ⟨r, t, h1, rfl, h2⟩ := (ht.same s2).at_ hc
    have s3 : Same H2 (upd H2 t0 (.tup [.int (i : Nat), .ref t])) := Same.new nt
    refine ⟨t0, _, rfl, SqT.of upd_same, rfl, .int (i : Nat), [.ref t], rfl, .ref t, [], rfl, rfl, ?_⟩
    refine ⟨_, rfl, _, rfl, t, _, rfl, .inr (SqT.of (s3 _ _ h2)), rfl, rfl, _, rfl, ?_⟩
    show if (inV (.int x) (vi [r.1, r.2])) = true then _ else _
    rw [in_vi]
    refine ite2 (fun z => ?_) (fun z => ?_)
    · have z' := of_decide_eq_true z
      exact ⟨_, rfl, q2 _ i r (s2.trans s3) h1 (by simpa using z')⟩
    · have z' : x ∉ [r.1, r.2] := fun y => z (decide_eq_true y)
      refine ⟨_, _, rfl, s2.trans s3, fun j r' hj hr' => ?_⟩
      by_cases c : j = i
      · subst c
        rw [h1] at hr'
        cases hr'
        simpa using z'
      · exact hn j r' (by omega) hr'
  · rintro σ H2 ⟨u, v, rfl, s2, hn⟩
    refine q1 H2 s2 fun hx => ?_
    obtain ⟨r, hr, he⟩ := mem_ends.mp hx
    obtain ⟨j, hj⟩ := List.getElem?_of_mem hr
    have := (List.getElem?_eq_some_iff.mp hj).1
    exact hn j r (by rw [ht.1]; exact this) hj he
end
/-! ### closed_walk -/
abbrev sClosedWalk : Stmt := topS 21
abbrev nClosedWalk : List Str := ["lengths", "roads", "left", "come", "walk", "place", "number", "one", "other"]
theorem scClosedWalk : FnScope nClosedWalk ["lengths"] (C8.fnScope sClosedWalk) := C8.fnScope_by (by decide +kernel)
/-- what the closed walk has told -/
def WalkOf (d : Int → Int → Int) (n : Nat) (l : List Int) : Prop := ∃ left ps os, Odd (tree d n) os ∧ Least d os ps ∧ Ho d (Vd n) (tree d n ++ ps) left l
def spClosed (K : PySem.W.Frag) : Sp := fun vs H Q _ => ∃ (L : Addr) (rs : List Addr) (M : List (List Int)) (n : Nat), vs = [.ref L] ∧ MatAt K H L rs M ∧ Good n M ∧ ∀ p H' l, Same H H' → WalkOf (lm n M) n l → H' p = some (.lst (vi l)) → Q (.ref p) H'
section
variable {P : Program} {w : World} {K : PySem.W.Frag} {mg : Str → Option Value} {base : Heap} {f : Addr} {fd : FuncData}
theorem last_snoc {l : List Int} {y : Int} : (vi (l ++ [y]))[(vi (l ++ [y])).length - 1]? = some (.int y) := by
  rw [vi_len, List.length_append, List.length_singleton, Nat.add_sub_cancel]
  exact vi_get (by simp)
theorem vi_snoc (l : List Int) (y : Int) : vi l ++ [.int y] = vi (l ++ [y]) := by
  unfold vi
  rw [List.map_append]
  rfl
theorem vi_drop (l : List Int) (y : Int) : (vi (l ++ [y])).dropLast = vi l := by
  unfold vi
  rw [List.map_append, List.map_singleton, List.dropLast_concat]
theorem ok_closed (D : C8.Def K mg "closed_walk" sClosedWalk f fd) (b : Binds K fd ["lengths"] []) (T : Txt mg) (cLeastTree : C8.Cal P w K mg base 3 "least_tree" (spTree K) []) (cOddEnds : C8.Cal P w K mg base 1 "odd_ends" spOdd [])
    (cLeastPairing : C8.Cal P w K mg base 9 "least_pairing" (spPairing K) []) (cFirstJoined : C8.Cal P w K mg base 1 "first_joined" spFirst []) : C8.Cal P w K mg base 10 "closed_walk" (spClosed K) [] := by
  refine C8.cal0 D b .nil scClosedWalk (fun vs H Q E h => ?_) (fun cdv A outer s H vs Q E hr h => ?_)
  · obtain ⟨L, rs, M, n, rfl, _⟩ := h
    rfl
  obtain ⟨L, rs, M, n, rfl, m, G, q⟩ := h
  have top := G.top
  have pos := G.pos
  refine ⟨_, (pss_cons (ps_set (i := 1) scClosedWalk.nd rfl (.inl rfl) (C8.pe_c cLeastTree hr (by omega) (by rfl) (pa_cons (pv 0) pa_nil)))
 (pss_cons (ps_set (i := 2) scClosedWalk.nd rfl (.inl rfl) (pe_op op_cat (pv 1) (C8.pe_c cLeastPairing hr (by omega) (by rfl) (pa_cons (pv 0) (pa_cons (C8.pe_c cOddEnds hr (by omega) (by rfl) (pa_cons (pv 1) pa_nil)) pa_nil)))))
 (pss_cons (ps_set (i := 3) scClosedWalk.nd rfl (.inl rfl) (pe_lst (pa_cons pe_int pa_nil)))
 (pss_cons (ps_set (i := 4) scClosedWalk.nd rfl (.inl rfl) (pe_lst pa_nil))
 (pss_cons (ps_while PassesOwn.never (pt_cmpR op_gt (pe_callB call_len_seq (by rfl) T.len_ PySem.boot_len (pa_cons (pv 3) pa_nil)) pe_int (nomark _))
 (pss_cons (ps_set (i := 5) scClosedWalk.nd rfl (.inl rfl) (pe_ix ix_list (pv 3) (pe_un un_neg pe_int) (fun _ _ => rfl)))
 (pss_cons (ps_set (i := 6) scClosedWalk.nd rfl (.inl rfl) (C8.pe_c cFirstJoined hr (by omega) (by rfl) (pa_cons (pv 2) (pa_cons (pv 5) pa_nil))))
 (pss_one (ps_if (pt_cmpR op_isN (pv 6) pe_non (nomark _))
 (pss_one (ps_expr (pe_bm PySem.F.plainAttrs_list PySem.F.slot_list_append PySem.F.type_list_append mt_append (pv 4) (pa_cons (pe_bm0 PySem.F.plainAttrs_list PySem.F.slot_list_pop PySem.F.type_list_pop mt_pop (pv 3)) pa_nil))))
 (pss_cons (ps_asg (pe_bm PySem.F.plainAttrs_list PySem.F.slot_list_pop PySem.F.type_list_pop mt_popAt (pv 2) (pa_cons (pv 6) pa_nil)) (pg_tup rfl (pgs_cons (pg_name (i := 7) scClosedWalk.nd rfl (.inl rfl)) (pgs_cons (pg_name (i := 8) scClosedWalk.nd rfl (.inl rfl)) pgs_nil))))
 (pss_one (ps_expr (pe_bm PySem.F.plainAttrs_list PySem.F.slot_list_append PySem.F.type_list_append mt_append (pv 3) (pa_cons (pe_op op_sub (pe_op op_add (pv 7) (pv 8)) (pv 5)) pa_nil))))))))))
 (pss_one (ps_ret (pv 4)))))))), ?_⟩
  have pr := tree_prim (d := lm n M) pos
  have tl := tree_len (d := lm n M) pos
  have tv := pr.vends (v0 pos)
  -- roads = least_tree(lengths)
  refine ⟨_, rfl, L, rs, M, n, rfl, m, G, fun R H1 s1 hR => ?_⟩
  obtain ⟨ts, hRt, hts⟩ := hR.ex
  -- least_pairing(lengths, odd_ends(roads))
  refine ⟨_, rfl, _, rfl, _, rfl, R, _, rfl, hR, by omega, fun O H2 os s2 ho hO => ?_⟩
  have oev := ho.even tv
  have osub : ∀ x ∈ os, Vd n x := fun x hx => tv x (List.count_pos_iff.mp (by have := (ho.mem x).mp hx; omega))
  have oln := (full_len ho.nd osub).1
  refine ⟨L, rs, M, n, O, os, rfl, m.same (s1.trans s2), G, SqL.of hO, osub, oev, by omega, fun B H3 ps s3 hl hB => ?_⟩
  obtain ⟨bs, hBt, hbs⟩ := hB.ex
  have s23 := s2.trans s3
  have plen : 2 * ps.length = os.length := by rw [← ends_len, hl.ends.length_eq]
  refine ⟨R, B, ts, bs, rfl, rfl, s23 _ _ hRt, hBt, ?_, fun F nF => ?_⟩
  · rw [hts.1, hbs.1]
    exact small (by omega)
  have hF0 : TupsOf H3 (ts ++ bs) (tree (lm n M) n ++ ps) := (hts.same s23).append hbs
  have s4 : Same H (upd H3 F (.lst (ts ++ bs))) := (s1.trans s23).trans (Same.new nF)
  have nF0 : H F = none := (s1.trans s23).free nF
  have hF4 : (upd H3 F (.lst (ts ++ bs))) F = some (.lst (ts ++ bs)) := upd_same
  have hT4 := hF0.new (o := .lst (ts ++ bs)) nF
  generalize (upd H3 F (.lst (ts ++ bs))) = H4 at s4 hF4 hT4
  -- come = [0], walk = []
  refine ⟨by show 1 ≤ sizeLine; decide, fun C nC => ?_⟩
  refine ⟨by show 0 ≤ sizeLine; decide, fun W nW => ?_⟩
  have nC0 : H C = none := s4.free nC
  have FC : F ≠ C := ne_of_none hF4 nC
  have nW4 : H4 W = none := (Same.new (o := .lst [V.int 0]) nC).free nW
  have FW : F ≠ W := ne_of_none hF4 nW4
  have CW : C ≠ W := fun e => by rw [← e, upd_same] at nW; cases nW
  have nW0 : H W = none := s4.free nW4
  have start := Hi.begin G.met pos pr ho hl
  generalize eE : tree (lm n M) n ++ ps = E0 at start hT4
  refine ⟨fun k σ H5 => ∃ (left : List (Int × Int)) (vs : List V) (st walk : List Int) (t : Int) (u1 u2 u3 u4 : Option V),
      σ = [some (.ref L), some (.ref R), some (.ref F), some (.ref C), some (.ref W), u1, u2, u3, u4] ∧ Same H H5 ∧ H5 F = some (.lst vs) ∧ TupsOf H5 vs left ∧ H5 C = some (.lst (vi st.reverse)) ∧ H5 W = some (.lst (vi walk)) ∧
      2 * left.length + st.length = k ∧ k + walk.length ≤ 2 * E0.length + 1 ∧ (Hi (lm n M) (Vd n) E0 left st walk t ∨ (st = [] ∧ Ho (lm n M) (Vd n) E0 left walk)),
    ⟨2 * E0.length + 1, E0, ts ++ bs, [0], [], 0, none, none, none, none, rfl, (s4.trans (Same.new nC)).trans (Same.new nW), ?_, (hT4.new nC).new nW, ?_, upd_same, rfl, by simp, .inl start⟩, ?_⟩
  · rw [upd_ne FW, upd_ne FC]; exact hF4
  · rw [upd_ne CW, upd_same]; rfl
  rintro k σ H5 ⟨left, vs, st, walk, t, u1, u2, u3, u4, rfl, s5, hF, hT, hC, hW, ek, kb, hi⟩
  have E0len : E0.length ≤ 30 := by rw [← eE, List.length_append]; omega
  refine ⟨_, rfl, C, _, rfl, .inl (SqL.of hC), _, _, rfl, rfl, _, rfl, ?_⟩
  rw [vi_len, List.length_reverse]
  refine ite2 (fun c => ?_) (fun c => ?_)
  · have c' : (0 : Int) < (st.length : Int) := of_decide_eq_true c
    obtain ⟨y, st', rfl⟩ : ∃ y st', st = y :: st' := by
      cases st with
      | nil => simp at c'
      | cons y r => exact ⟨y, r, rfl⟩
    have hi : Hi (lm n M) (Vd n) E0 left (y :: st') walk t := by
      rcases hi with hi | ⟨z, _⟩
      · exact hi
      · cases z
    refine ⟨_, fun σ' H' z => z, ?_⟩
    have er : (y :: st').reverse = st'.reverse ++ [y] := List.reverse_cons
    rw [er] at hC
    have gl : atI (vi (st'.reverse ++ [y])) (-1) = some (.int y) := at_last (by simp)
    refine ⟨_, rfl, _, rfl, C, _, _, _, rfl, rfl, SqL.of hC, gl, ?_⟩
    -- number = first_joined(left, place)
    refine ⟨_, rfl, _, rfl, F, left, y, rfl, ⟨vs, hF, hT⟩, fun H6 s6 hy => ?_, fun H6 j e s6 hj he => ?_⟩
    · refine ⟨_, rfl, rfl, _, rfl, iteT ?_⟩
      have hC6 := s6 _ _ hC
      have hW6 := s6 _ _ hW
      refine ⟨_, rfl, .inl ⟨rfl, _, SqL.of hW6⟩, ?_⟩
      refine ⟨_, rfl, .inl ⟨rfl, _, SqL.of hC6⟩, C, _, .int y, rfl, rfl, hC6, last_snoc, ?_⟩
      rw [vi_drop]
      have hW7 : (upd H6 C (.lst (vi st'.reverse))) W = some (.lst (vi walk)) := by rw [upd_ne CW.symm]; exact hW6
      refine ⟨W, _, _, rfl, rfl, hW7, ?_, ?_⟩
      · rw [vi_len]; exact small1000 (by omega)
      rw [vi_snoc]
      simp only [List.length_cons] at ek
      refine ⟨k - 1, by omega, left, vs, st', walk ++ [y], st'.headD 0, _, _, _, _, rfl, ((s5.trans s6).put nC0).put nW0, ?_, ((hT.same s6).put hC6).put hW7, ?_, upd_same, by omega, by rw [List.length_append, List.length_singleton]; omega, ?_⟩
      · rw [upd_ne FW, upd_ne FC]; exact s6 _ _ hF
      · rw [upd_ne CW, upd_same]
      · cases st' with
        | nil => exact .inr ⟨rfl, hi.last G.met hy⟩
        | cons u st2 => exact .inl (hi.pop G.met hy)
    · refine ⟨_, rfl, rfl, _, rfl, iteF ?_⟩
      have hF6 := s6 _ _ hF
      have hC6 := s6 _ _ hC
      have hT6 := hT.same s6
      have jlt := (List.getElem?_eq_some_iff.mp hj).1
      obtain ⟨tt, g1, g2⟩ := hT6.2 j e hj
      have sq : seqIndex? (j : Int) vs.length = some j := by
        have hx : atI vs (j : Int) = some (.ref tt) := atI_nat g1
        obtain ⟨j', h1, _, _, _, _⟩ := atI_get hx
        have e2 : ixN vs.length (j : Int) = some j := by
          unfold ixN
          rw [hT6.1, if_pos (by omega), if_pos (by omega)]
          simp
        exact (ixN_seq e2).1
      refine ⟨_, rfl, .inl ⟨rfl, _, SqL.of hF6⟩, _, rfl, F, vs, _, j, .ref tt, rfl, rfl, hF6, by omega, by omega, sq, g1, ?_⟩
      have g3 : (upd H6 F (.lst (vs.eraseIdx j))) tt = some (.tup [.int e.1, .int e.2]) := by
        rw [upd_ne (ne_of g2 hF6 (by intro z; cases z))]
        exact g2
      refine ⟨tt, _, rfl, SqT.of g3, rfl, .int e.1, [.int e.2], rfl, .int e.2, [], rfl, rfl, ?_⟩
      have hC7 : (upd H6 F (.lst (vs.eraseIdx j))) C = some (.lst (vi (st'.reverse ++ [y]))) := by rw [upd_ne FC.symm]; exact hC6
      refine ⟨_, rfl, .inl ⟨rfl, _, SqL.of hC7⟩, _, rfl, _, rfl, _, _, rfl, rfl, _, rfl, _, _, rfl, rfl, C, _, _, rfl, rfl, hC7, ?_, ?_⟩
      · rw [vi_len, List.length_append, List.length_reverse]
        simp only [List.length_cons, List.length_nil] at ek ⊢
        exact small1000 (by omega)
      obtain ⟨z, ez, hz⟩ : ∃ z, e.1 + e.2 - y = z ∧ (e = (y, z) ∨ e = (z, y)) := by
        rcases he with he | he
        · exact ⟨e.2, by omega, .inl (by rw [he])⟩
        · exact ⟨e.1, by omega, .inr (by rw [he])⟩
      simp only [List.length_cons] at ek
      have le1 : (left.eraseIdx j).length = left.length - 1 := List.length_eraseIdx_of_lt jlt
      refine ⟨k - 1, by omega, left.eraseIdx j, vs.eraseIdx j, z :: y :: st', walk, t, _, _, _, _, rfl, ((s5.trans s6).put nF0).put nC0, ?_, ((hT6.erase j).put hF6).put hC7, ?_, ?_, ?_, by omega, .inl (hi.push G.met j hj hz)⟩
      · rw [upd_ne FC, upd_same]
      · show (upd (upd H6 F (.lst (vs.eraseIdx j))) C (.lst (vi (st'.reverse ++ [y]) ++ [.int (e.1 + e.2 - y)]))) C = _
        rw [upd_same, ez, vi_snoc, List.reverse_cons, List.reverse_cons]
      · rw [upd_ne CW.symm, upd_ne FW.symm]; exact s6 _ _ hW
      · simp only [List.length_cons]; omega
  · have c' : ¬ (0 : Int) < (st.length : Int) := fun z => c (decide_eq_true z)
    have e0 : st = [] := List.length_eq_zero_iff.mp (by omega)
    subst e0
    have fin : Ho (lm n M) (Vd n) E0 left walk := by
      rcases hi with hi | ⟨_, z⟩
      · have := hi.bot
        simp at this
      · exact z
    rw [← eE] at fin
    exact ⟨_, rfl, q W H5 walk s5 ⟨left, ps, os, ho, hl, fin⟩ hW⟩
end
/-! ### paired_round -/
abbrev sPairedRound : Stmt := topS 22
abbrev nPairedRound : List Str := ["lengths", "found", "place"]
theorem scPairedRound : FnScope nPairedRound ["lengths"] (C8.fnScope sPairedRound) := C8.fnScope_by (by decide +kernel)
/-- a round that is no longer than tree and pairing -/
def PairOf (d : Int → Int → Int) (n : Nat) (l : List Int) : Prop := Round n l ∧ l.head? = some 0 ∧ ∃ ps os, Odd (tree d n) os ∧ Least d os ps ∧ cyc d l ≤ cost d (tree d n) + cost d ps
def spPaired (K : PySem.W.Frag) : Sp := fun vs H Q _ => ∃ (L : Addr) (rs : List Addr) (M : List (List Int)) (n : Nat), vs = [.ref L] ∧ MatAt K H L rs M ∧ Good n M ∧ ∀ p H' l, Same H H' → PairOf (lm n M) n l → H' p = some (.lst (vi l)) → Q (.ref p) H'
theorem WalkOf.pair {d : Int → Int → Int} {n : Nat} {l : List Int} (M : Met d) (hn : 0 < n) (h : WalkOf d n l) : PairOf d n (dd [] l) := by
  obtain ⟨left, ps, os, ho, hl, hh⟩ := h
  obtain ⟨h1, h2, h3⟩ := hh.paired M hn (tree_prim hn)
  exact ⟨h1, h2, ps, os, ho, hl, h3⟩
section
variable {P : Program} {w : World} {K : PySem.W.Frag} {mg : Str → Option Value} {base : Heap} {f : Addr} {fd : FuncData}
theorem ok_paired (D : C8.Def K mg "paired_round" sPairedRound f fd) (b : Binds K fd ["lengths"] []) (T : Txt mg) (cClosedWalk : C8.Cal P w K mg base 10 "closed_walk" (spClosed K) []) : C8.Cal P w K mg base 11 "paired_round" (spPaired K) [] := by
  refine C8.cal0 D b .nil scPairedRound (fun vs H Q E h => ?_) (fun cdv A outer s H vs Q E hr h => ?_)
  · obtain ⟨L, rs, M, n, rfl, _⟩ := h
    rfl
  obtain ⟨L, rs, M, n, rfl, m, G, q⟩ := h
  have top := G.top
  have pos := G.pos
  refine ⟨_, (pss_cons (ps_set (i := 1) scPairedRound.nd rfl (.inl rfl) (pe_lst pa_nil))
 (pss_cons (ps_for PassesOwn.never rfl (pi_list (C8.pe_c cClosedWalk hr (by omega) (by rfl) (pa_cons (pv 0) pa_nil))) (pg_name (i := 2) scPairedRound.nd rfl (.inl rfl))
 (pss_one (ps_if (pt_cmpR op_notIn_seq (pv 2) (pv 1) (by rfl))
 (pss_one (ps_expr (pe_bm PySem.F.plainAttrs_list PySem.F.slot_list_append PySem.F.type_list_append mt_append (pv 1) (pa_cons (pv 2) pa_nil))))
 pss_nil)))
 (pss_one (ps_ret (pv 1))))), ?_⟩
  refine ⟨by show 0 ≤ sizeLine; decide, fun F nF => ?_⟩
  have s1 : Same H (upd H F (.lst [])) := Same.new nF
  refine ⟨_, rfl, L, rs, M, n, rfl, m.same s1, G, fun p H1 l s2 hw hp => ?_⟩
  have hF1 := s2 F _ upd_same
  have vl : ∀ x ∈ l, Vd n x := by
    obtain ⟨left, ps, os, ho, hl, hh⟩ := hw
    exact hh.vw
  have pF : p ≠ F ∨ l = [] := by
    by_cases e : p = F
    · right
      rw [e, hF1] at hp
      have e2 : ([] : List V) = vi l := HO.lst.inj (Option.some.inj hp)
      cases l with
      | nil => rfl
      | cons x r => cases e2
    · exact .inl e
  have hne : l ≠ [] := by
    obtain ⟨left, ps, os, ho, hl, hh⟩ := hw
    rintro rfl
    have := hh.hd
    simp at this
  have pF : p ≠ F := pF.resolve_right hne
  refine ⟨p, rfl, ⟨_, SqL.of hp⟩, for_list (K := K) (a := p) (xs := vi l) (fun i σ H2 => ∃ v, σ = [some (.ref L), some (.ref F), v] ∧ Same H H2 ∧ H2 p = some (.lst (vi l)) ∧ H2 F = some (.lst (vi (dd [] (l.take i)))))
    ⟨none, rfl, s1.trans s2, hp, hF1⟩ (fun i σ H2 _ ⟨_, _, _, e, _⟩ => SqL.of e) ?_ ?_⟩
  · rintro i y σ H2 hi ⟨v, rfl, s3, hp2, hF2⟩
    obtain ⟨x, hx, rfl⟩ := vi_inv hi
    have ed : dd [] (l.take (i + 1)) = dds (dd [] (l.take i)) x := foldl_take hx
    rw [ed]
    obtain ⟨l', d1, d2, d3, d4⟩ := dd_spec (l.take i) [] (by simp)
    rw [List.nil_append] at d1 d3
    have dl : (dd [] (l.take i)).length ≤ 1000 := by
      rw [d1]
      have := (full_len d3 (n := n) fun z hz => by
        have := (d4 z).mp hz
        rcases this with h | h
        · simp at h
        · exact vl z (List.mem_of_mem_take h)).1
      omega
    generalize dd [] (l.take i) = f0 at hF2 dl
    refine ⟨_, rfl, _, rfl, F, _, rfl, .inl (SqL.of hF2), rfl, flat_vi _, _, rfl, ?_⟩
    show if (!(inV (.int x) (vi f0))) = true then _ else _
    rw [in_vi]
    by_cases c : x ∈ f0
    · rw [decide_eq_true c]
      refine iteF ⟨_, rfl, s3, hp2, ?_⟩
      rw [dds, if_pos c]
      exact hF2
    · rw [decide_eq_false c]
      refine iteT ⟨_, rfl, .inl ⟨rfl, _, SqL.of hF2⟩, _, rfl, F, _, _, rfl, rfl, hF2, ?_, _, rfl, s3.put nF, ?_, ?_⟩
      · rw [vi_len]; exact small1000 dl
      · rw [upd_ne pF]; exact hp2
      · rw [upd_same, dds, if_neg c, vi_snoc]
  · rintro σ H2 ⟨v, rfl, s3, hp2, hF2⟩
    rw [vi_len, List.take_length] at hF2
    exact ⟨_, rfl, q F H2 _ s3 (hw.pair G.met pos) hF2⟩
end
/-! ### _law_cell_at -/
abbrev sLawCellAt : Stmt := topS 24
abbrev nLawCellAt : List Str := ["_law_script", "_law_k"]
theorem scLawCellAt : FnScope nLawCellAt ["_law_script", "_law_k"] (C8.fnScope sLawCellAt) := C8.fnScope_by (by decide +kernel)
def spCell (K : PySem.W.Frag) : Sp := fun vs H Q _ => ∃ (a : Addr) (ns : List Int) (k : Int), vs = [.ref a, .int k] ∧ SqL K H a (vi ns) ∧ 0 ≤ k ∧ ∀ z, Q (.int z) H
section
variable {P : Program} {w : World} {K : PySem.W.Frag} {mg : Str → Option Value} {base : Heap} {f : Addr} {fd : FuncData}
theorem ok_cell (D : C8.Def K mg "_law_cell_at" sLawCellAt f fd) (b : Binds K fd ["_law_script", "_law_k"] []) (T : Txt mg) : C8.Cal P w K mg base 1 "_law_cell_at" (spCell K) [] := by
  refine C8.cal0 D b .nil scLawCellAt (fun vs H Q E h => ?_) (fun cdv A outer s H vs Q E hr h => ?_)
  · obtain ⟨a, ns, k, rfl, _⟩ := h
    rfl
  obtain ⟨a, ns, k, rfl, hS, h0, q⟩ := h
  refine ⟨_, (pss_cons (ps_if (pt_cmpR op_lt (pv 1) (pe_callB call_len_seq (by rfl) T.len_ PySem.boot_len (pa_cons (pv 0) pa_nil)) (nomark _))
 (pss_one (ps_ret (pe_ix ix_list (pv 0) (pv 1) (fun _ _ => rfl))))
 pss_nil)
 (pss_one (ps_ret pe_int))), ?_⟩
  refine ⟨_, rfl, _, rfl, a, _, rfl, .inl hS, _, _, rfl, rfl, _, rfl, ?_⟩
  rw [vi_len]
  refine ite2 (fun c => ?_) (fun c => ?_)
  · have c' : k < (ns.length : Int) := of_decide_eq_true c
    have hk : k.toNat < ns.length := by omega
    refine ⟨_, rfl, _, rfl, a, _, _, _, rfl, rfl, hS, at_z h0 (vi_get (List.getElem?_eq_getElem hk)), q _⟩
  · exact q 0
end
/-! ### _law_number -/
abbrev sLawNumber : Stmt := topS 25
abbrev nLawNumber : List Str := ["_law_script", "_law_k", "_law_top", "_law_cell", "_law_high", "_law_low"]
theorem scLawNumber : FnScope nLawNumber ["_law_script", "_law_k", "_law_top"] (C8.fnScope sLawNumber) := C8.fnScope_by (by decide +kernel)
def spNumber (K : PySem.W.Frag) : Sp := fun vs H Q _ => ∃ (a : Addr) (ns : List Int) (k top : Int), vs = [.ref a, .int k, .int top] ∧ SqL K H a (vi ns) ∧ 0 ≤ k ∧ k ≤ 1000 ∧ 0 ≤ top ∧ ∀ z, 0 ≤ z → z ≤ top → Q (.int z) H
section
variable {P : Program} {w : World} {K : PySem.W.Frag} {mg : Str → Option Value} {base : Heap} {f : Addr} {fd : FuncData}
theorem ok_number (D : C8.Def K mg "_law_number" sLawNumber f fd) (b : Binds K fd ["_law_script", "_law_k", "_law_top"] []) (T : Txt mg) (cLawCellAt : C8.Cal P w K mg base 1 "_law_cell_at" (spCell K) []) : C8.Cal P w K mg base 2 "_law_number" (spNumber K) [] := by
  refine C8.cal0 D b .nil scLawNumber (fun vs H Q E h => ?_) (fun cdv A outer s H vs Q E hr h => ?_)
  · obtain ⟨a, ns, k, top, rfl, _⟩ := h
    rfl
  obtain ⟨a, ns, k, top, rfl, hS, h0, h1, ht, q⟩ := h
  refine ⟨_, (pss_cons (ps_set (i := 3) scLawNumber.nd rfl (.inl rfl) (pe_op op_mod (C8.pe_c cLawCellAt hr (by omega) (by rfl) (pa_cons (pv 0) (pa_cons (pv 1) pa_nil))) (pe_op op_pow pe_int pe_int)))
 (pss_cons (ps_set (i := 4) scLawNumber.nd rfl (.inl rfl) (pe_op op_mod (pe_op op_add (pe_op op_mul (pv 3) pe_int) (pe_op op_mul (pe_op op_mul (pe_op op_add (pv 1) pe_int) (pe_op op_add (pv 1) pe_int)) pe_int)) pe_int))
 (pss_cons (ps_set (i := 5) scLawNumber.nd rfl (.inl rfl) (pe_op op_mod (pe_op op_add (pe_op op_add (pe_op op_mul (pv 3) pe_int) (pe_op op_mul (pe_op op_mul (pv 1) (pv 1)) pe_int)) pe_int) pe_int))
 (pss_one (ps_ret (pe_op op_mod (pe_op op_add (pe_op op_mul (pv 4) pe_int) (pv 5)) (pe_op op_add (pv 2) pe_int))))))), ?_⟩
  have cm : ∀ {i j : Int}, -(2 ^ 64) < j → j < 2 ^ 64 → CMul i j := fun h1 h2 => .inr ⟨h1, h2⟩
  refine ⟨_, rfl, _, rfl, a, ns, k, rfl, hS, h0, fun z => ?_⟩
  refine ⟨_, _, rfl, rfl, ⟨by decide, by decide, by decide⟩, _, _, rfl, rfl, (by show (0 : Int) < 10 ^ (20 : Int).toNat; decide), ?_⟩
  refine ⟨_, rfl, _, _, rfl, rfl, .inr ⟨by decide, by decide⟩, ?_⟩
  refine ⟨_, rfl, _, _, rfl, rfl, _, rfl, _, _, rfl, rfl, _, _, rfl, rfl, .inl ⟨by omega, by omega⟩, _, _, rfl, rfl, .inr ⟨by decide, by decide⟩, _, _, rfl, rfl, _, _, rfl, rfl, (by show (0 : Int) < 2147483647; decide), ?_⟩
  refine ⟨_, rfl, _, _, rfl, rfl, .inr ⟨by decide, by decide⟩, ?_⟩
  refine ⟨_, rfl, _, rfl, _, _, rfl, rfl, .inl ⟨by omega, by omega⟩, _, _, rfl, rfl, .inr ⟨by decide, by decide⟩, _, _, rfl, rfl, _, _, rfl, rfl, _, _, rfl, rfl, (by show (0 : Int) < 2147483629; decide), ?_⟩
  refine ⟨_, rfl, _, _, rfl, rfl, .inr ⟨by decide, by decide⟩, _, rfl, _, _, rfl, rfl, _, rfl, _, _, rfl, rfl, _, _, rfl, rfl, (by show (0 : Int) < top + 1; omega), ?_⟩
  refine q _ (Int.emod_nonneg _ (by omega)) ?_
  have := Int.emod_lt_of_pos (((((z % (10 : Int) ^ (20 : Int).toNat) * 48271 + (k + 1) * (k + 7) * 69621) % 2147483647) * 2147483629 + ((z % (10 : Int) ^ (20 : Int).toNat) * 16807 + k * k * 40692 + 7) % 2147483629)) (show (0 : Int) < top + 1 by omega)
  exact Int.le_of_lt_add_one this
end
/-! ### tables that may be written -/
structure MatM (H : Hp) (L : Addr) (rs : List Addr) (M : List (List Int)) : Prop where
  top : H L = some (.lst (rs.map V.ref))
  len : rs.length = M.length
  nd : rs.Nodup
  nL : L ∉ rs
  row : ∀ (i : Nat) (row : List Int), M[i]? = some row → ∃ r, rs[i]? = some r ∧ H r = some (.lst (vi row))
section
variable {K : PySem.W.Frag} {H H' : Hp} {L r p : Addr} {rs : List Addr} {M : List (List Int)} {n : Nat} {o : HO} {row : List Int}
theorem MatM.at_ (m : MatM H L rs M) : MatAt K H L rs M := ⟨SqL.of m.top, m.len, fun i row h => let ⟨r, h1, h2⟩ := m.row i row h; ⟨r, h1, SqL.of h2⟩⟩
theorem MatM.same (m : MatM H L rs M) (s : Same H H') : MatM H' L rs M := ⟨s _ _ m.top, m.len, m.nd, m.nL, fun i row h => let ⟨r, h1, h2⟩ := m.row i row h; ⟨r, h1, s _ _ h2⟩⟩
theorem MatM.nil (e : H L = some (.lst [])) : MatM H L [] [] := ⟨e, rfl, by simp, by simp, fun i row h => by simp at h⟩
theorem MatM.isrow (m : MatM H L rs M) (h : r ∈ rs) : ∃ xs, H r = some (.lst xs) := by
  obtain ⟨i, hi⟩ := List.getElem?_of_mem h
  have hl := (List.getElem?_eq_some_iff.mp hi).1
  rw [m.len] at hl
  obtain ⟨r', h1, h2⟩ := m.row i M[i] (List.getElem?_eq_getElem hl)
  rw [hi] at h1
  cases h1
  exact ⟨_, h2⟩
theorem MatM.free (m : MatM H L rs M) (h : H p = none) : p ∉ rs ∧ p ≠ L := by
  refine ⟨fun z => ?_, fun z => ?_⟩
  · obtain ⟨xs, e⟩ := m.isrow z
    rw [h] at e; cases e
  · rw [z, m.top] at h; cases h
/-- one more line -/
theorem MatM.snoc (m : MatM H L rs M) (nr : r ∉ rs) (rL : r ≠ L) (hr : H r = some (.lst (vi row))) : MatM (upd H L (.lst (rs.map V.ref ++ [.ref r]))) L (rs ++ [r]) (M ++ [row]) := by
  refine ⟨?_, by rw [List.length_append, List.length_append, m.len]; rfl, ?_, ?_, fun i ro h => ?_⟩
  · rw [upd_same, List.map_append]; rfl
  · rw [List.nodup_append]
    refine ⟨m.nd, by simp, fun x hx y hy => ?_⟩
    have : y = r := by simpa using hy
    rw [this]
    rintro rfl
    exact nr hx
  · intro z
    rcases List.mem_append.mp z with z | z
    · exact m.nL z
    · have : L = r := by simpa using z
      exact rL this.symm
  · rw [List.getElem?_append] at h
    rw [List.getElem?_append, m.len]
    split at h
    · rw [if_pos (by assumption)]
      obtain ⟨r', h1, h2⟩ := m.row i ro h
      refine ⟨r', h1, ?_⟩
      have ne : r' ≠ L := fun z => m.nL (by rw [← z]; exact List.mem_of_getElem? h1)
      rw [upd_ne ne]
      exact h2
    · rw [if_neg (by assumption)]
      rename_i hlt
      have e0 : i - M.length = 0 := by
        have := (List.getElem?_eq_some_iff.mp h).1
        simp at this
        omega
      rw [e0] at h ⊢
      have : row = ro := by simpa using h
      subst this
      exact ⟨r, rfl, by rw [upd_ne rL]; exact hr⟩
/-- one place is written -/
theorem MatM.set (m : MatM H L rs M) (S : Sq n M) {i j : Nat} {v : Int} (hi : i < n) (hj : j < n) :
    ∃ r row, rs[i]? = some r ∧ H r = some (.lst (vi row)) ∧ row.length = n ∧ MatM (upd H r (.lst ((vi row).set j (.int v)))) L rs (mset M i j v) := by
  obtain ⟨row, h1, h2, h3⟩ := mg_at S hi hj
  obtain ⟨r, e1, e2⟩ := m.row i row h1
  have hrm := List.mem_of_getElem? e1
  refine ⟨r, row, e1, e2, h2, ?_, ?_, m.nd, m.nL, fun k ro h => ?_⟩
  · have ne : L ≠ r := fun z => m.nL (by rw [z]; exact hrm)
    rw [upd_ne ne]; exact m.top
  · unfold mset; rw [List.length_set, m.len]
  · unfold mset at h
    have hg : M.getD i [] = row := by rw [List.getD_eq_getElem?_getD, h1]; rfl
    rw [hg, List.getElem?_set] at h
    by_cases c : i = k
    · subst c
      rw [if_pos rfl] at h
      split at h
      · have : row.set j v = ro := Option.some.inj h
        refine ⟨r, e1, ?_⟩
        rw [upd_same, ← this]
        unfold vi
        rw [List.map_set]
      · cases h
    · rw [if_neg c] at h
      obtain ⟨r', g1, g2⟩ := m.row k ro h
      refine ⟨r', g1, ?_⟩
      have : r' ≠ r := fun z => by
        subst z
        exact c (nd_ix m.nd e1 g1)
      rw [upd_ne this]
      exact g2
end
/-! ### _law_grid -/
abbrev sLawGrid : Stmt := topS 26
abbrev nLawGrid : List Str := ["_law_script", "_law_many", "_law_top", "_law_spots", "_law_lengths_here", "_law_x", "_law_y", "_law_k", "_law_other"]
theorem scLawGrid : FnScope nLawGrid ["_law_script", "_law_many", "_law_top"] (C8.fnScope sLawGrid) := C8.fnScope_by (by decide +kernel)
def gridRow (ps : List (Int × Int)) (p : Int × Int) : List Int := ps.map fun q => (if p.1 - q.1 < 0 then -(p.1 - q.1) else p.1 - q.1) + (if p.2 - q.2 < 0 then -(p.2 - q.2) else p.2 - q.2)
def spGrid (K : PySem.W.Frag) : Sp := fun vs H Q _ => ∃ (a : Addr) (ns : List Int) (n : Nat) (top : Int), vs = [.ref a, .int (n : Int), .int top] ∧ SqL K H a (vi ns) ∧ 0 < n ∧ n ≤ 11 ∧ 0 ≤ top ∧ ∀ p H' rs M, Same H H' → Good n M → MatAt K H' p rs M → Q (.ref p) H'
theorem yes_ {σ : L2.St} {H : Hp} {Q : Bool → Hp → Prop} (h : Q true H) : tYes σ H Q := h
theorem vi_snoc' (l : List Int) (y : Int) : vi l ++ [.int y] = vi (l ++ [y]) := by
  unfold vi
  rw [List.map_append]
  rfl
section
variable {P : Program} {w : World} {K : PySem.W.Frag} {mg : Str → Option Value} {base : Heap} {f : Addr} {fd : FuncData}
theorem ok_grid (D : C8.Def K mg "_law_grid" sLawGrid f fd) (b : Binds K fd ["_law_script", "_law_many", "_law_top"] []) (T : Txt mg) (cLawNumber : C8.Cal P w K mg base 2 "_law_number" (spNumber K) []) : C8.Cal P w K mg base 3 "_law_grid" (spGrid K) [] := by
  refine C8.cal0 D b .nil scLawGrid (fun vs H Q E h => ?_) (fun cdv A outer s H vs Q E hr h => ?_)
  · obtain ⟨a, ns, n, top, rfl, _⟩ := h
    rfl
  obtain ⟨a, ns, n, top, rfl, hS, h0, h1, ht, q⟩ := h
  refine ⟨_, (pss_cons (ps_setLc (i := 3) (own := [("_law_k", 7)]) rfl scLawGrid.nd rfl rfl (sw_true rfl rfl rfl (by decide +kernel))  (pi_range1 (by rfl) T.range_ (pa_cons (pv 1) pa_nil)) (blkOk_by (own := [("_law_k", 7)]) (N := nLawGrid) (sc := C8.fnScope sLawGrid) (by decide +kernel)) (fun _ _ _ _ _ => pg_name (i := 7) scLawGrid.nd rfl (.inl rfl)) (fun _ _ _ _ _ => pts_nil) (fun _ _ _ _ _ => (pe_tup (pa_cons (C8.pe_c cLawNumber hr (by omega) (by rfl) (pa_cons (pv 0) (pa_cons (pe_op op_add pe_int (pe_op op_mul pe_int (pv 7))) (pa_cons (pv 2) pa_nil)))) (pa_cons (C8.pe_c cLawNumber hr (by omega) (by rfl) (pa_cons (pv 0) (pa_cons (pe_op op_add pe_int (pe_op op_mul pe_int (pv 7))) (pa_cons (pv 2) pa_nil)))) pa_nil)))))
 (pss_cons (ps_set (i := 4) scLawGrid.nd rfl (.inl rfl) (pe_lst pa_nil))
 (pss_cons (ps_for PassesOwn.never rfl (pi_list (pv 3)) (pg_tup rfl (pgs_cons (pg_name (i := 5) scLawGrid.nd rfl (.inr rfl)) (pgs_cons (pg_name (i := 6) scLawGrid.nd rfl (.inr rfl)) pgs_nil)))
 (pss_one (ps_expr (pe_bm PySem.F.plainAttrs_list PySem.F.slot_list_append PySem.F.type_list_append mt_append (pv 4) (pa_cons (pe_lc (own := [("_law_other", 8)])  rfl scLawGrid.nd (pi_list (pv 3)) (blkOk_by (own := [("_law_other", 8)]) (N := nLawGrid) (sc := C8.fnScope sLawGrid) (by decide +kernel)) (fun _ _ _ _ _ => pg_name (i := 8) scLawGrid.nd rfl (.inl rfl)) (fun _ _ _ _ _ => pts_nil) (fun _ _ _ _ _ => (pe_op op_add (pe_callB call_abs (by rfl) T.abs_ (by decide +kernel) (pa_cons (pe_op op_sub (pv 5) (pe_ix (r := rIxT K) ix_tup (pv 8) pe_int (fun _ _ => rfl))) pa_nil)) (pe_callB call_abs (by rfl) T.abs_ (by decide +kernel) (pa_cons (pe_op op_sub (pv 6) (pe_ix (r := rIxT K) ix_tup (pv 8) pe_int (fun _ _ => rfl))) pa_nil))))) pa_nil)))))
 (pss_one (ps_ret (pv 4)))))), ?_⟩
  -- the spots
  refine ⟨_, rfl, _, rfl, by omega, by omega, fun S nS => ?_⟩
  refine lc_range (lo := 0) (n := n) (fun i H2 => ∃ vs ps, H2 S = some (.lst vs) ∧ TupsOf H2 vs ps ∧ ps.length = i ∧ Same H H2) ⟨[], [], upd_same, TupsOf.nil, rfl, Same.new nS⟩ ?_ ?_
  · rintro i H2 hi ⟨vs, ps, hv, hT, hl, s2⟩
    refine ⟨rfl, yes_ (iteT ?_)⟩
    refine ⟨_, rfl, _, rfl, _, _, rfl, rfl, .inl ⟨by decide, by decide⟩, _, _, rfl, rfl, _, rfl, a, ns, _, top, rfl, s2.seq hS, by omega, by omega, ht, fun x _ _ => ?_⟩
    refine ⟨_, rfl, _, rfl, _, _, rfl, rfl, .inl ⟨by decide, by decide⟩, _, _, rfl, rfl, _, rfl, a, ns, _, top, rfl, s2.seq hS, by omega, by omega, ht, fun y _ _ => ?_⟩
    refine ⟨by show 2 ≤ sizeLine; decide, fun t nt => ?_⟩
    have s3 : Same H2 (upd H2 t (.tup [.int x, .int y])) := Same.new nt
    refine ⟨vs, s3 _ _ hv, ?_, vs ++ [.ref t], ps ++ [(x, y)], upd_same, ((hT.same s3).append (TupsOf.one upd_same)).put (s3 _ _ hv), by simp [hl], (s2.trans s3).put nS⟩
    rw [hT.1]; exact small1000 (by omega)
  rintro H2 ⟨vs, ps, hv, hT, hl, s2⟩
  -- lengths = []
  refine ⟨by show 0 ≤ sizeLine; decide, fun L nL => ?_⟩
  have nL0 : H L = none := s2.free nL
  have SL : S ≠ L := ne_of_none hv nL
  have s3 : Same H2 (upd H2 L (.lst [])) := Same.new nL
  refine ⟨_, rfl, S, rfl, ⟨_, SqL.of (s3 _ _ hv)⟩, for_list (K := K) (a := S) (xs := vs) (fun i σ H3 => ∃ u v rs, σ = [some (.ref a), some (.int (n : Int)), some (.int top), some (.ref S), some (.ref L), u, v, none, none] ∧ Same H H3 ∧ H3 S = some (.lst vs) ∧ TupsOf H3 vs ps ∧ MatM H3 L rs ((gridM ps).take i))
    ⟨none, none, [], rfl, s2.trans s3, s3 _ _ hv, hT.same s3, MatM.nil upd_same⟩ (fun i σ H3 _ ⟨_, _, _, _, _, e, _⟩ => SqL.of e) ?_ ?_⟩
  · rintro i y σ H3 hi ⟨u, v, rs, rfl, s4, hv3, hT3, m⟩
    obtain ⟨p, t, e1, rfl, e2⟩ := hT3.at_ hi
    have hps : i < ps.length := (List.getElem?_eq_some_iff.mp e1).1
    have eM : (gridM ps).take (i + 1) = (gridM ps).take i ++ [gridRow ps p] := by
      rw [List.take_add_one]
      unfold gridM
      rw [List.getElem?_map, e1]
      rfl
    refine ⟨t, _, rfl, SqT.of e2, rfl, .int p.1, [.int p.2], rfl, .int p.2, [], rfl, rfl, ?_⟩
    refine ⟨_, rfl, .inl ⟨rfl, _, SqL.of m.top⟩, ?_⟩
    refine ⟨_, rfl, S, rfl, ⟨_, SqL.of hv3⟩, fun E nE => ?_⟩
    have nE0 : H E = none := s4.free nE
    obtain ⟨nEr, nEL⟩ := m.free nE
    have SE : S ≠ E := ne_of_none hv3 nE
    refine lc_list (K := K) (a := S) (xs := vs) (fun j H4 => Same H3 H4 ∧ H4 E = some (.lst (vi ((gridRow ps p).take j)))) ⟨Same.new nE, upd_same⟩ (fun j H4 _ h => SqL.of (h.1 _ _ hv3)) ?_ ?_
    · rintro j y H4 hj ⟨s5, hE⟩
      obtain ⟨g, t2, g1, rfl, g2⟩ := (hT3.same s5).at_ hj
      have eR : (gridRow ps p).take (j + 1) = (gridRow ps p).take j ++ [(if p.1 - g.1 < 0 then -(p.1 - g.1) else p.1 - g.1) + (if p.2 - g.2 < 0 then -(p.2 - g.2) else p.2 - g.2)] := by
        rw [List.take_add_one]
        unfold gridRow
        rw [List.getElem?_map, g1]
        rfl
      refine ⟨rfl, yes_ (iteT ?_)⟩
      refine ⟨_, rfl, _, rfl, t2, _, _, _, rfl, rfl, SqT.of g2, atI_nat (j := 0) rfl, _, _, rfl, rfl, _, rfl, ?_⟩
      refine ⟨_, rfl, _, rfl, t2, _, _, _, rfl, rfl, SqT.of g2, atI_nat (j := 1) rfl, _, _, rfl, rfl, _, rfl, ?_⟩
      refine ⟨_, _, rfl, rfl, _, hE, ?_, s5.put nE, ?_⟩
      · rw [vi_len, List.length_take]
        have : (gridRow ps p).length = ps.length := List.length_map _
        exact small1000 (by omega)
      · rw [upd_same, eR, ← vi_snoc']
    · rintro H4 ⟨s5, hE⟩
      have lE : (gridRow ps p).length = ps.length := List.length_map _
      rw [hT3.1, ← lE, List.take_length] at hE
      have m4 := m.same s5
      refine ⟨L, _, _, rfl, rfl, m4.top, ?_, ?_⟩
      · rw [List.length_map, m4.len, List.length_take]; exact small1000 (by unfold gridM; rw [List.length_map]; omega)
      refine ⟨_, _, rs ++ [E], rfl, (s4.trans s5).put nL0, ?_, (hT3.same s5).put m4.top, ?_⟩
      · rw [upd_ne SL]; exact s5 _ _ hv3
      · rw [eM]
        exact m4.snoc nEr nEL hE
  · rintro σ H3 ⟨u, v, rs, rfl, s4, hv3, hT3, m⟩
    have e : (gridM ps).take vs.length = gridM ps := List.take_of_length_le (by unfold gridM; rw [List.length_map, hT3.1]; exact Nat.le_refl _)
    rw [e] at m
    have G := grid_good (ps := ps) (by omega) (by omega)
    rw [hl] at G
    exact ⟨_, rfl, q L H3 rs _ s4 G m.at_⟩
end
/-! ### _law_shortest -/
abbrev sLawShortest : Stmt := topS 27
abbrev nLawShortest : List Str := ["_law_lengths_here", "_law_amid", "_law_one", "_law_other", "_law_both"]
theorem scLawShortest : FnScope nLawShortest ["_law_lengths_here"] (C8.fnScope sLawShortest) := C8.fnScope_by (by decide +kernel)
def spShort : Sp := fun vs H Q _ => ∃ (L : Addr) (rs : List Addr) (M : List (List Int)) (n : Nat), vs = [.ref L] ∧ MatM H L rs M ∧ PreF n M ∧ 0 < n ∧ n ≤ 11 ∧ ∀ H' M', MatM H' L rs M' → Good n M' → (∀ b o, b ∉ rs → H b = some o → H' b = some o) → Q (.ref L) H'
section
variable {P : Program} {w : World} {K : PySem.W.Frag} {mg : Str → Option Value} {base : Heap} {f : Addr} {fd : FuncData}
theorem MatM.len_n {H : Hp} {L : Addr} {rs : List Addr} {M : List (List Int)} {n : Nat} (m : MatM H L rs M) (S : Sq n M) : (rs.map V.ref).length = n := by rw [List.length_map, m.len, S.len]
theorem ix_nat {n i : Nat} (h : i < n) : ixN n (i : Int) = some i := by
  unfold ixN
  rw [if_pos (by omega), if_pos (by omega)]
  simp
theorem ok_short (D : C8.Def K mg "_law_shortest" sLawShortest f fd) (b : Binds K fd ["_law_lengths_here"] []) (T : Txt mg) : C8.Cal P w K mg base 1 "_law_shortest" spShort [] := by
  refine C8.cal0 D b .nil scLawShortest (fun vs H Q E h => ?_) (fun cdv A outer s H vs Q E hr h => ?_)
  · obtain ⟨L, rs, M, n, rfl, _⟩ := h
    rfl
  obtain ⟨L, rs, M, n, rfl, m, F, h0, h1, q⟩ := h
  refine ⟨_, (pss_cons (ps_for PassesOwn.never rfl (pi_range1 (by rfl) T.range_ (pa_cons (pe_callB call_len_seq (by rfl) T.len_ PySem.boot_len (pa_cons (pv 0) pa_nil)) pa_nil)) (pg_name (i := 1) scLawShortest.nd rfl (.inl rfl))
 (pss_one (ps_for PassesOwn.never rfl (pi_range1 (by rfl) T.range_ (pa_cons (pe_callB call_len_seq (by rfl) T.len_ PySem.boot_len (pa_cons (pv 0) pa_nil)) pa_nil)) (pg_name (i := 2) scLawShortest.nd rfl (.inl rfl))
 (pss_one (ps_for PassesOwn.never rfl (pi_range1 (by rfl) T.range_ (pa_cons (pe_callB call_len_seq (by rfl) T.len_ PySem.boot_len (pa_cons (pv 0) pa_nil)) pa_nil)) (pg_name (i := 3) scLawShortest.nd rfl (.inl rfl))
 (pss_cons (ps_set (i := 4) scLawShortest.nd rfl (.inl rfl) (pe_op op_add (pe_ix ix_list (pe_ix ix_list (pv 0) (pv 2) (fun _ _ => rfl)) (pv 1) (fun _ _ => rfl)) (pe_ix ix_list (pe_ix ix_list (pv 0) (pv 1) (fun _ _ => rfl)) (pv 3) (fun _ _ => rfl))))
 (pss_one (ps_asg (pe_callB (call_min2 rfl) (by rfl) T.min_ (by decide +kernel) (pa_cons (pe_ix ix_list (pe_ix ix_list (pv 0) (pv 2) (fun _ _ => rfl)) (pv 3) (fun _ _ => rfl)) (pa_cons (pv 4) pa_nil))) (pg_sub (pe_ix ix_list (pv 0) (pv 2) (fun _ _ => rfl)) (pv 3) set_list)))))))))
 (pss_one (ps_ret (pv 0)))), ?_⟩
  have z0 : ∀ i : Nat, (0 : Int) + (i : Int) = (i : Int) := fun i => by omega
  refine ⟨_, rfl, L, _, rfl, .inl (SqL.of m.top), _, rfl, by omega, by rw [m.len_n F.sq]; omega, ?_⟩
  rw [m.len_n F.sq]
  refine for_range (lo := 0) (n := n) (fun i σ H2 => ∃ u1 u2 u3 u4 M1, σ = [some (.ref L), u1, u2, u3, u4] ∧ Ph n i M1 ∧ MatM H2 L rs M1 ∧ (∀ b o, b ∉ rs → H b = some o → H2 b = some o))
    ⟨none, none, none, none, M, rfl, Ph.start F, m, fun _ _ _ e => e⟩ ?_ ?_
  · rintro i σ H2 hi ⟨u1, u2, u3, u4, M1, rfl, ph, m1, k1⟩
    rw [z0]
    refine ⟨_, rfl, L, _, rfl, .inl (SqL.of m1.top), _, rfl, by omega, by rw [m1.len_n ph.pre.sq]; omega, ?_⟩
    rw [m1.len_n ph.pre.sq]
    refine for_range (lo := 0) (n := n) (fun j σ H3 => ∃ u2 u3 u4 M2, σ = [some (.ref L), some (.int (i : Int)), u2, u3, u4] ∧ Mid n i M1 j 0 M2 ∧ MatM H3 L rs M2 ∧ (∀ b o, b ∉ rs → H b = some o → H3 b = some o))
      ⟨_, _, _, M1, rfl, Mid.start ph.pre.sq, m1, k1⟩ ?_ ?_
    · rintro j σ H3 hj ⟨u2, u3, u4, M2, rfl, md, m2, k2⟩
      rw [z0]
      refine ⟨_, rfl, L, _, rfl, .inl (SqL.of m2.top), _, rfl, by omega, by rw [m2.len_n md.sq]; omega, ?_⟩
      rw [m2.len_n md.sq]
      refine for_range (lo := 0) (n := n) (fun l σ H4 => ∃ u3 u4 M3, σ = [some (.ref L), some (.int (i : Int)), some (.int (j : Int)), u3, u4] ∧ Mid n i M1 j l M3 ∧ MatM H4 L rs M3 ∧ (∀ b o, b ∉ rs → H b = some o → H4 b = some o))
        ⟨_, _, M2, rfl, md, m2, k2⟩ ?_ ?_
      · rintro l σ H4 hl ⟨u3, u4, M3, rfl, me, m3, k3⟩
        rw [z0]
        have mk : MatAt K H4 L rs M3 := m3.at_
        refine rd2 mk me.sq (vd_nat hj) (vd_nat hi) (rdv rfl) (rdv rfl) (rdv rfl) ?_
        refine rd2 mk me.sq (vd_nat hi) (vd_nat hl) (rdv rfl) (rdv rfl) (rdv rfl) ?_
        refine ⟨_, _, rfl, rfl, ?_⟩
        refine rd2 mk me.sq (vd_nat hj) (vd_nat hl) (rdv rfl) (rdv rfl) (rdv rfl) ?_
        refine ⟨_, rfl, _, _, rfl, ?_⟩
        rw [lm_nat hj hl, lm_nat hj hi, lm_nat hi hl]
        obtain ⟨r, row, g1, g2, g3, g4⟩ := m3.set (v := mn (KM.mg M3 j l) (KM.mg M3 j i + KM.mg M3 i l)) me.sq hj hl
        refine ⟨_, rfl, _, rfl, L, _, _, _, rfl, rfl, SqL.of m3.top, atI_nat (j := j) (by rw [List.getElem?_map, g1]; rfl), _, rfl, r, vi row, _, l, rfl, rfl, g2, by rw [vi_len, g3]; exact ix_nat hl, ?_⟩
        refine ⟨_, _, _, rfl, Mid.step ph.pre me hi hj hl, g4, fun b o hb e => ?_⟩
        have : b ≠ r := fun z => hb (z ▸ List.mem_of_getElem? g1)
        rw [upd_ne this]
        exact k3 b o hb e
      · rintro σ H4 ⟨u3, u4, M3, rfl, me, m3, k3⟩
        exact ⟨_, _, _, M3, rfl, me.next, m3, k3⟩
    · rintro σ H3 ⟨u2, u3, u4, M2, rfl, md, m2, k2⟩
      exact ⟨_, _, _, _, M2, rfl, md.done ph hi, m2, k2⟩
  · rintro σ H2 ⟨u1, u2, u3, u4, M1, rfl, ph, m1, k1⟩
    exact ⟨_, rfl, q H2 M1 m1 (ph.good h0 h1) k1⟩
end
/-- a block of a block, without captured names -/
theorem blk_in {N : List Str} {sc scope : Scope} {own : List (Str × Nat)} (h : blkC N { kind := .function, names := [], isGenerator := false, isCoroutine := false } scope own = true) : BlkOk N sc scope own := by
  have B := blkOk_by h
  exact ⟨B.kind, B.uniq, B.ix, fun y hy e => by have := B.free y hy e; simp at this, B.own⟩
/-! ### _law_lengths -/
abbrev sLawLengths : Stmt := topS 28
abbrev nLawLengths : List Str := ["_law_script", "_law_most", "_law_head", "_law_many", "_law_way", "_law_top", "_law_lengths_here", "_law_one", "_law_other", "_law_number_here"]
theorem scLawLengths : FnScope nLawLengths ["_law_script", "_law_most"] (C8.fnScope sLawLengths) := C8.fnScope_by (by decide +kernel)
def spLengths (K : PySem.W.Frag) : Sp := fun vs H Q _ => ∃ (a : Addr) (ns : List Int) (most : Int), vs = [.ref a, .int most] ∧ SqL K H a (vi ns) ∧ 0 ≤ most ∧ ∀ p H' rs M n, Same H H' → Good n M → MatAt K H' p rs M → Q (.ref p) H'
theorem tri_small : ∀ i : Nat, i < 11 → 0 ≤ ((0 : Int) + (i : Int)) * ((0 : Int) + (i : Int) - 1) ∧ ((0 : Int) + (i : Int)) * ((0 : Int) + (i : Int) - 1) ≤ 110 := by decide
section
variable {P : Program} {w : World} {K : PySem.W.Frag} {mg : Str → Option Value} {base : Heap} {f : Addr} {fd : FuncData}
theorem ok_lengths (D : C8.Def K mg "_law_lengths" sLawLengths f fd) (b : Binds K fd ["_law_script", "_law_most"] []) (T : Txt mg) (cLawCellAt : C8.Cal P w K mg base 1 "_law_cell_at" (spCell K) []) (cLawNumber : C8.Cal P w K mg base 2 "_law_number" (spNumber K) [])
    (cLawGrid : C8.Cal P w K mg base 3 "_law_grid" (spGrid K) []) (cLawShortest : C8.Cal P w K mg base 1 "_law_shortest" spShort []) : C8.Cal P w K mg base 4 "_law_lengths" (spLengths K) [] := by
  refine C8.cal0 D b .nil scLawLengths (fun vs H Q E h => ?_) (fun cdv A outer s H vs Q E hr h => ?_)
  · obtain ⟨a, ns, most, rfl, _⟩ := h
    rfl
  obtain ⟨a, ns, most, rfl, hS, hm, q⟩ := h
  refine ⟨_, (pss_cons (ps_set (i := 2) scLawLengths.nd rfl (.inl rfl) (C8.pe_c cLawCellAt hr (by omega) (by rfl) (pa_cons (pv 0) (pa_cons pe_int pa_nil))))
 (pss_cons (ps_set (i := 3) scLawLengths.nd rfl (.inr rfl) (pe_op op_add pe_int (pe_op op_mod (pv 2) pe_int)))
 (C8.pss_cut (ps_if (pt_cmpR op_eq (pe_op op_mod (pe_op op_fdiv (pv 2) pe_int) pe_int) pe_int (nomark _))
 (pss_one (ps_set (i := 3) scLawLengths.nd rfl (.inr rfl) (pe_op op_add pe_int (pe_op op_mod (pe_op op_fdiv (pv 2) pe_int) pe_int))))
 pss_nil)
 (pss_cons (ps_set (i := 4) scLawLengths.nd rfl (.inl rfl) (pe_op op_mod (pe_op op_fdiv (pv 2) pe_int) pe_int))
 (C8.pss_cut (ps_set (i := 5) scLawLengths.nd rfl (.inl rfl) (pe_ix ix_list (pe_lst (pa_cons pe_int (pa_cons pe_int (pa_cons (pv 1) pa_nil)))) (pe_op op_mod (pe_op op_fdiv (pv 2) pe_int) pe_int) (fun _ _ => rfl)))
 (pss_cons (ps_if (pt_cmpR op_eq (pv 4) pe_int (nomark _))
 (pss_one (ps_ret (C8.pe_c cLawGrid hr (by omega) (by rfl) (pa_cons (pv 0) (pa_cons (pv 3) (pa_cons (pv 5) pa_nil))))))
 pss_nil)
 (pss_cons (ps_setLc (i := 6) (own := [("_law_one", 7)]) rfl scLawLengths.nd rfl rfl (sw_true rfl rfl rfl (by decide +kernel))  (pi_range1 (by rfl) T.range_ (pa_cons (pv 3) pa_nil)) (blkOk_by (own := [("_law_one", 7)]) (N := nLawLengths) (sc := C8.fnScope sLawLengths) (by decide +kernel)) (fun _ _ _ _ _ => pg_name (i := 7) scLawLengths.nd rfl (.inl rfl)) (fun _ _ _ _ _ => pts_nil) (fun _ _ _ _ _ => (pe_lc (own := [("_law_other", 8)])  rfl scLawLengths.nd (pi_range1 (by rfl) T.range_ (pa_cons (pv 3) pa_nil)) (blk_in (own := [("_law_other", 8)]) (N := nLawLengths) (by decide +kernel)) (fun _ _ _ _ _ => pg_name (i := 8) scLawLengths.nd rfl (.inl rfl)) (fun _ _ _ _ _ => pts_nil) (fun _ _ _ _ _ => pe_int))))
 (pss_cons (ps_for PassesOwn.never rfl (pi_range1 (by rfl) T.range_ (pa_cons (pv 3) pa_nil)) (pg_name (i := 7) scLawLengths.nd rfl (.inl rfl))
 (pss_one (ps_for PassesOwn.never rfl (pi_range1 (by rfl) T.range_ (pa_cons (pv 7) pa_nil)) (pg_name (i := 8) scLawLengths.nd rfl (.inl rfl))
 (pss_cons (ps_set (i := 9) scLawLengths.nd rfl (.inl rfl) (C8.pe_c cLawNumber hr (by omega) (by rfl) (pa_cons (pv 0) (pa_cons (pe_op op_add (pe_op op_add pe_int (pe_op op_fdiv (pe_op op_mul (pv 7) (pe_op op_sub (pv 7) pe_int)) pe_int)) (pv 8)) (pa_cons (pv 5) pa_nil)))))
 (C8.pss_cut (ps_if (pt_cmpR op_eq (pv 4) pe_int (nomark _))
 (pss_one (ps_set (i := 9) scLawLengths.nd rfl (.inl rfl) (pe_op op_add (pv 9) (pv 5))))
 pss_nil)
 (pss_cons (ps_asg (pv 9) (pg_sub (pe_ix ix_list (pv 6) (pv 7) (fun _ _ => rfl)) (pv 8) set_list))
 (pss_one (ps_asg (pv 9) (pg_sub (pe_ix ix_list (pv 6) (pv 8) (fun _ _ => rfl)) (pv 7) set_list)))))))))
 (pss_cons (ps_if (pt_cmpR op_eq (pv 4) pe_int (nomark _))
 (pss_one (ps_ret (C8.pe_c cLawShortest hr (by omega) (by rfl) (pa_cons (pv 6) pa_nil))))
 pss_nil)
 (pss_one (ps_ret (pv 6)))))))))))), ?_⟩
  -- head, many
  refine ⟨_, rfl, a, ns, 0, rfl, hS, by omega, fun hd => ?_⟩
  refine ⟨_, rfl, _, _, rfl, rfl, (by show (0 : Int) < 7; decide), _, _, rfl, rfl, ?_⟩
  refine ⟨fun σ' H' => ∃ n : Nat, σ' = [some (.ref a), some (.int most), some (.int hd), some (.int (n : Int)), none, none, none, none, none, none] ∧ H' = H ∧ 0 < n ∧ n ≤ 11, ?_, ?_⟩
  · refine ⟨_, rfl, _, _, rfl, rfl, ⟨by decide, by decide⟩, _, _, rfl, rfl, (by show (0 : Int) < 8; decide), rfl, _, rfl, ite2 (fun _ => ?_) (fun _ => ?_)⟩
    · refine ⟨_, rfl, _, _, rfl, rfl, ⟨by decide, by decide⟩, _, _, rfl, rfl, (by show (0 : Int) < 4; decide), _, _, rfl, rfl, ?_⟩
      obtain ⟨n, hn⟩ : ∃ n : Nat, 8 + hd / 56 % 4 = (n : Int) := ⟨(8 + hd / 56 % 4).toNat, by omega⟩
      exact ⟨n, by rw [← hn]; rfl, rfl, by omega, by omega⟩
    · obtain ⟨n, hn⟩ : ∃ n : Nat, 1 + hd % 7 = (n : Int) := ⟨(1 + hd % 7).toNat, by omega⟩
      exact ⟨n, by rw [← hn]; rfl, rfl, by omega, by omega⟩
  rintro σ' H' ⟨n, rfl, rfl, n0, n11⟩
  -- way, top
  refine ⟨_, rfl, _, _, rfl, rfl, ⟨by decide, by decide⟩, _, _, rfl, rfl, (by show (0 : Int) < 3; decide), ?_⟩
  refine ⟨fun σ' H2 => ∃ way top : Int, σ' = [some (.ref a), some (.int most), some (.int hd), some (.int (n : Int)), some (.int way), some (.int top), none, none, none, none] ∧ Same H' H2 ∧ 0 ≤ way ∧ way < 3 ∧ 0 ≤ top, ?_, ?_⟩
  · refine ⟨_, rfl, by show 3 ≤ sizeLine; decide, fun B nB => ?_⟩
    obtain ⟨top, ht0, hat⟩ : ∃ top : Int, 0 ≤ top ∧ atI [V.int 6, V.int 60, V.int most] (hd / 336 % 3) = some (.int top) := by
      have : hd / 336 % 3 = 0 ∨ hd / 336 % 3 = 1 ∨ hd / 336 % 3 = 2 := by omega
      rcases this with e | e | e <;> rw [e]
      · exact ⟨6, by decide, atI_nat (j := 0) rfl⟩
      · exact ⟨60, by decide, atI_nat (j := 1) rfl⟩
      · exact ⟨most, hm, atI_nat (j := 2) rfl⟩
    refine ⟨_, rfl, _, _, rfl, rfl, ⟨by decide, by decide⟩, _, _, rfl, rfl, (by show (0 : Int) < 3; decide), B, _, _, _, rfl, rfl, SqL.of upd_same, hat, ?_⟩
    exact ⟨hd / 112 % 3, top, rfl, Same.new nB, by omega, by omega, ht0⟩
  rintro σ' H2 ⟨way, top, rfl, s2, w0, w3, ht0⟩
  have hS2 := s2.seq hS
  refine ⟨_, rfl, rfl, _, rfl, ite2 (fun c => ?_) (fun c => ?_)⟩
  · exact ⟨_, rfl, _, rfl, _, rfl, a, ns, n, top, rfl, hS2, n0, n11, ht0, fun p H3 rs M s3 G m => q p H3 rs M n (s2.trans s3) G m⟩
  have wn0 : way ≠ 0 := fun z => c (decide_eq_true (congrArg V.int z))
  -- the table of noughts
  refine ⟨_, rfl, _, rfl, by omega, by omega, fun L nL => ?_⟩
  have nL0 : H' L = none := s2.free nL
  refine lc_range (lo := 0) (n := n) (fun i H3 => ∃ rs, Same H' H3 ∧ MatM H3 L rs (List.replicate i (List.replicate n 0)) ∧ ∀ r ∈ rs, H' r = none) ⟨[], s2.trans (Same.new nL), MatM.nil upd_same, by simp⟩ ?_ ?_
  · rintro i H3 hi ⟨rs, s3, m, fr⟩
    refine ⟨rfl, yes_ (iteT ?_)⟩
    refine ⟨_, rfl, _, rfl, by omega, by omega, fun E nE => ?_⟩
    have nE0 : H' E = none := s3.free nE
    obtain ⟨nEr, nEL⟩ := m.free nE
    refine lc_range (lo := 0) (n := n) (fun j H4 => Same H3 H4 ∧ H4 E = some (.lst (vi (List.replicate j 0)))) ⟨Same.new nE, upd_same⟩ ?_ ?_
    · rintro j H4 hj ⟨s4, hE⟩
      refine ⟨rfl, yes_ (iteT ?_)⟩
      refine ⟨_, hE, ?_, s4.put nE, ?_⟩
      · rw [vi_len, List.length_replicate]; exact small1000 (by omega)
      · rw [upd_same, vi_snoc', List.replicate_succ']
    · rintro H4 ⟨s4, hE⟩
      have m4 := m.same s4
      refine ⟨_, m4.top, ?_, rs ++ [E], (s3.trans s4).put nL0, ?_, fun r hr => ?_⟩
      · rw [List.length_map, m4.len, List.length_replicate]; exact small1000 (by omega)
      · rw [List.replicate_succ']
        exact m4.snoc nEr nEL hE
      · rcases List.mem_append.mp hr with z | z
        · exact fr r z
        · have : r = E := by simpa using z
          rw [this]; exact nE0
  rintro H3 ⟨rs, s3, m, fr⟩
  obtain ⟨lo, hi, hb1, hb2⟩ : ∃ lo hi : Int, (way = 1 → lo = top ∧ hi = top + top) ∧ (way ≠ 1 → lo = 0 ∧ hi = top) := by
    by_cases z : way = 1
    · exact ⟨top, top + top, fun _ => ⟨rfl, rfl⟩, fun y => absurd z y⟩
    · exact ⟨0, top, fun y => absurd y z, fun _ => ⟨rfl, rfl⟩⟩
  -- filled both ways
  refine ⟨_, rfl, _, rfl, by omega, by omega, ?_⟩
  refine for_range (lo := 0) (n := n) (fun i σ H4 => ∃ u7 u8 u9 M, σ = [some (.ref a), some (.int most), some (.int hd), some (.int (n : Int)), some (.int way), some (.int top), some (.ref L), u7, u8, u9] ∧ Same H' H4 ∧ MatM H4 L rs M ∧ Fill n lo hi i 0 M)
    ⟨none, none, none, _, rfl, s3, m, Fill.start (zeros_pre n)⟩ ?_ ?_
  · rintro i σ H4 hin ⟨u7, u8, u9, M, rfl, s4, m4, F4⟩
    refine ⟨_, rfl, _, rfl, by omega, by omega, ?_⟩
    have ei : ((0 : Int) + (i : Int)).toNat = i := by omega
    rw [ei]
    refine for_range (lo := 0) (n := i) (fun j σ H5 => ∃ u8 u9 M, σ = [some (.ref a), some (.int most), some (.int hd), some (.int (n : Int)), some (.int way), some (.int top), some (.ref L), some (.int (0 + (i : Int))), u8, u9] ∧ Same H' H5 ∧ MatM H5 L rs M ∧ Fill n lo hi i j M)
      ⟨_, _, M, rfl, s4, m4, F4⟩ ?_ ?_
    · rintro j σ H5 hj ⟨u8, u9, M5, rfl, s5, m5, F5⟩
      have tri := tri_small i (by omega)
      have hjn : j < n := by omega
      refine ⟨_, rfl, _, rfl, _, rfl, _, _, rfl, rfl, _, _, rfl, rfl, .inl ⟨by omega, by omega⟩, _, _, rfl, rfl, ⟨by decide, by decide⟩, _, _, rfl, rfl, _, rfl, _, _, rfl, rfl, _, rfl, a, ns, _, top, rfl, s5.seq hS, ?_, ?_, ht0, fun z z0 z1 => ?_⟩
      · generalize ((0 : Int) + (i : Int)) * ((0 : Int) + (i : Int) - 1) = t at tri
        omega
      · generalize ((0 : Int) + (i : Int)) * ((0 : Int) + (i : Int) - 1) = t at tri
        omega
      refine ⟨fun σ' H6 => ∃ v : Int, σ' = [some (.ref a), some (.int most), some (.int hd), some (.int (n : Int)), some (.int way), some (.int top), some (.ref L), some (.int (0 + (i : Int))), some (.int (0 + (j : Int))), some (.int v)] ∧ H6 = H5 ∧ 0 ≤ v ∧ lo ≤ v ∧ v ≤ hi, ?_, ?_⟩
      · refine ⟨_, rfl, rfl, _, rfl, ite2 (fun c => ?_) (fun c => ?_)⟩
        · have w1 : way = 1 := V.int.inj (of_decide_eq_true c)
          obtain ⟨l1, l2⟩ := hb1 w1
          exact ⟨_, rfl, _, rfl, _, _, rfl, rfl, z + top, rfl, rfl, by omega, by omega, by omega⟩
        · have w1 : way ≠ 1 := fun y => c (decide_eq_true (congrArg V.int y))
          obtain ⟨l1, l2⟩ := hb2 w1
          exact ⟨z, rfl, rfl, by omega, by omega, by omega⟩
      rintro σ' H6 ⟨v, rfl, rfl, v0, vl, vh⟩
      obtain ⟨r1, row1, g1, g2, g3, g4⟩ := m5.set (v := v) F5.pre.sq hin hjn
      obtain ⟨r2, row2, k1, k2, k3, k4⟩ := g4.set (v := v) (mset_sq F5.pre.sq hin) hjn hin
      have a1 : atI (rs.map V.ref) (0 + (i : Int)) = some (.ref r1) := at_of (j := i) (by omega) (by rw [List.getElem?_map, g1]; rfl)
      have a2 : atI (rs.map V.ref) (0 + (j : Int)) = some (.ref r2) := at_of (j := j) (by omega) (by rw [List.getElem?_map, k1]; rfl)
      have x1 : ixN (vi row1).length (0 + (j : Int)) = some j := by rw [vi_len, g3, show (0 : Int) + (j : Int) = (j : Int) by omega]; exact ix_nat hjn
      have x2 : ixN (vi row2).length (0 + (i : Int)) = some i := by rw [vi_len, k3, show (0 : Int) + (i : Int) = (i : Int) by omega]; exact ix_nat hin
      refine ⟨_, rfl, _, rfl, _, rfl, L, _, _, _, rfl, rfl, SqL.of m5.top, a1, _, rfl, r1, vi row1, _, j, rfl, rfl, g2, x1, ?_⟩
      refine ⟨_, rfl, _, rfl, _, rfl, L, _, _, _, rfl, rfl, SqL.of g4.top, a2, _, rfl, r2, vi row2, _, i, rfl, rfl, k2, x2, ?_⟩
      exact ⟨_, _, _, rfl, (s5.put (fr r1 (List.mem_of_getElem? g1))).put (fr r2 (List.mem_of_getElem? k1)), k4, F5.step hin hj v0 vl vh⟩
    · rintro σ H5 ⟨u8, u9, M5, rfl, s5, m5, F5⟩
      exact ⟨_, _, _, M5, rfl, s5, m5, F5.next⟩
  · rintro σ H4 ⟨u7, u8, u9, M, rfl, s4, m4, F4⟩
    refine ⟨_, rfl, rfl, _, rfl, ite2 (fun c => ?_) (fun c => ?_)⟩
    · refine ⟨_, rfl, L, rs, M, n, rfl, m4, F4.pre, n0, n11, fun H5 M5 m5 G5 k5 => ?_⟩
      refine q L H5 rs M5 n (fun b o e => k5 b o (fun hb => ?_) (s4 b o e)) G5 m5.at_
      rw [fr b hb] at e
      cases e
    · have w2 : way ≠ 2 := fun z => c (decide_eq_true (congrArg V.int z))
      obtain ⟨rfl, rfl⟩ := hb1 (by omega)
      exact ⟨_, rfl, q L H4 rs M n s4 (F4.good n0 n11) m4.at_⟩
end
/-! ### _law_round -/
abbrev sLawRound : Stmt := topS 29
abbrev nLawRound : List Str := ["_law_script", "_law_many", "_law_left", "_law_drawn", "_law_k"]
theorem scLawRound : FnScope nLawRound ["_law_script", "_law_many"] (C8.fnScope sLawRound) := C8.fnScope_by (by decide +kernel)
def spDrawn (K : PySem.W.Frag) : Sp := fun vs H Q _ => ∃ (a : Addr) (ns : List Int) (n : Nat), vs = [.ref a, .int (n : Int)] ∧ SqL K H a (vi ns) ∧ n ≤ 11 ∧ ∀ p H' l, Same H H' → Round n l → H' p = some (.lst (vi l)) → Q (.ref p) H'
theorem rg_places (n : Nat) : rgV 0 (n : Int) = vi (places n) := by
  unfold rgV places vi
  rw [List.map_map]
  have : ((n : Int) - 0).toNat = n := by omega
  rw [this]
  apply List.map_congr_left
  intro k _
  show V.int (0 + (k : Int)) = V.int (k : Int)
  rw [Int.zero_add]
theorem seq_ix {n j : Nat} (h : j < n) : seqIndex? (j : Int) n = some j := (ixN_seq (ix_nat h)).1
section
variable {P : Program} {w : World} {K : PySem.W.Frag} {mg : Str → Option Value} {base : Heap} {f : Addr} {fd : FuncData}
theorem ok_drawn (D : C8.Def K mg "_law_round" sLawRound f fd) (b : Binds K fd ["_law_script", "_law_many"] []) (T : Txt mg) (cLawNumber : C8.Cal P w K mg base 2 "_law_number" (spNumber K) []) : C8.Cal P w K mg base 3 "_law_round" (spDrawn K) [] := by
  refine C8.cal0 D b .nil scLawRound (fun vs H Q E h => ?_) (fun cdv A outer s H vs Q E hr h => ?_)
  · obtain ⟨a, ns, n, rfl, _⟩ := h
    rfl
  obtain ⟨a, ns, n, rfl, hS, h1, q⟩ := h
  refine ⟨_, (pss_cons (ps_set (i := 2) scLawRound.nd rfl (.inl rfl) (pe_listRg rfl (by rfl) T.list_ (prg_1 (by rfl) T.range_ (pv 1))))
 (pss_cons (ps_set (i := 3) scLawRound.nd rfl (.inl rfl) (pe_lst pa_nil))
 (pss_cons (ps_for PassesOwn.never rfl (pi_range1 (by rfl) T.range_ (pa_cons (pv 1) pa_nil)) (pg_name (i := 4) scLawRound.nd rfl (.inl rfl))
 (pss_one (ps_expr (pe_bm PySem.F.plainAttrs_list PySem.F.slot_list_append PySem.F.type_list_append mt_append (pv 3) (pa_cons (pe_bm PySem.F.plainAttrs_list PySem.F.slot_list_pop PySem.F.type_list_pop mt_popAt (pv 2) (pa_cons (C8.pe_c cLawNumber hr (by omega) (by rfl) (pa_cons (pv 0) (pa_cons (pe_op op_add pe_int (pv 4)) (pa_cons (pe_op op_sub (pe_callB call_len_seq (by rfl) T.len_ PySem.boot_len (pa_cons (pv 2) pa_nil)) pe_int) pa_nil)))) pa_nil)) pa_nil)))))
 (pss_one (ps_ret (pv 3)))))), ?_⟩
  refine ⟨_, rfl, n, rfl, RgOk.of_le (by omega) (by omega) (by omega) (by omega), fun F nF => ?_⟩
  rw [rg_places]
  refine ⟨by show 0 ≤ sizeLine; decide, fun G nG => ?_⟩
  have s1 : Same H (upd H F (.lst (vi (places n)))) := Same.new nF
  have nG0 : H G = none := s1.free nG
  have GF : G ≠ F := fun e => by rw [e, upd_same] at nG; cases nG
  refine ⟨_, rfl, _, rfl, by omega, by omega, ?_⟩
  refine for_range (lo := 0) (n := n) (fun i σ H2 => ∃ u ls ds, σ = [some (.ref a), some (.int (n : Int)), some (.ref F), some (.ref G), u] ∧ Same H H2 ∧ H2 F = some (.lst (vi ls)) ∧ H2 G = some (.lst (vi ds)) ∧ ls.length + i = n ∧ (ds ++ ls).Perm (places n))
    ⟨none, places n, [], rfl, s1.trans (Same.new nG), by rw [upd_ne GF.symm, upd_same], upd_same, by rw [places_len]; rfl, .refl _⟩ ?_ ?_
  · rintro i σ H2 hi ⟨u, ls, ds, rfl, s2, hF, hG, hl, hp⟩
    have hpl := hp.length_eq
    rw [places_len, List.length_append] at hpl
    refine ⟨_, rfl, .inl ⟨rfl, _, SqL.of hG⟩, ?_⟩
    refine ⟨_, rfl, .inl ⟨rfl, _, SqL.of hF⟩, ?_⟩
    refine ⟨_, rfl, _, rfl, _, _, rfl, rfl, _, rfl, F, _, rfl, .inl (SqL.of hF), _, _, rfl, rfl, a, ns, _, _, rfl, s2.seq hS, by omega, by omega, by rw [vi_len]; omega, fun z z0 z1 => ?_⟩
    rw [vi_len] at z1
    obtain ⟨j, rfl⟩ : ∃ j : Nat, z = (j : Int) := ⟨z.toNat, by omega⟩
    have hj : j < ls.length := by omega
    refine ⟨F, _, _, j, .int ls[j], rfl, rfl, hF, by omega, by omega, seq_ix (by rw [vi_len]; exact hj), vi_get (List.getElem?_eq_getElem hj), ?_⟩
    have e1 : (vi ls).eraseIdx j = vi (ls.eraseIdx j) := by
      unfold vi
      rw [List.eraseIdx_eq_take_drop_succ, List.eraseIdx_eq_take_drop_succ, List.map_append, List.map_take, List.map_drop]
    rw [e1]
    have hG2 : (upd H2 F (.lst (vi (ls.eraseIdx j)))) G = some (.lst (vi ds)) := by rw [upd_ne GF]; exact hG
    refine ⟨G, _, _, rfl, rfl, hG2, by rw [vi_len]; exact small1000 (by omega), ?_⟩
    rw [vi_snoc']
    refine ⟨_, ls.eraseIdx j, ds ++ [ls[j]], rfl, (s2.put nF).put nG0, by rw [upd_ne GF.symm, upd_same], upd_same, ?_, ?_⟩
    · rw [List.length_eraseIdx_of_lt hj]; omega
    · rw [List.append_assoc, List.singleton_append]
      exact ((eraseIdx_perm hj).append_left ds).trans hp
  · rintro σ H2 ⟨u, ls, ds, rfl, s2, hF, hG, hl, hp⟩
    have e0 : ls = [] := List.length_eq_zero_iff.mp (by omega)
    rw [e0, List.append_nil] at hp
    exact ⟨_, rfl, q G H2 ds s2 ⟨hp⟩ hG⟩
end
/-! ### _law_sum -/
abbrev sLawSum : Stmt := topS 30
abbrev nLawSum : List Str := ["_law_lengths_here", "_law_way", "_law_total", "_law_one", "_law_other"]
theorem scLawSum : FnScope nLawSum ["_law_lengths_here", "_law_way"] (C8.fnScope sLawSum) := C8.fnScope_by (by decide +kernel)
theorem cut_init (l : List Int) : cutV (vi l) none (some (-1)) = vi l.dropLast := by
  unfold cutV
  have e1 : HT.sIx (vi l).length (vi l).length (some (-1)) = l.length - 1 := by
    unfold HT.sIx
    simp only
    rw [if_pos (by omega), vi_len]
    omega
  rw [HT.sIx_none, e1, List.drop_zero, Nat.sub_zero, List.dropLast_eq_take]
  unfold vi
  rw [List.map_take]
theorem cut_tail (l : List Int) : cutV (vi l) (some 1) none = vi l.tail := by
  unfold cutV
  have e1 : HT.sIx (vi l).length 0 (some 1) = min 1 l.length := by
    have := HT.sIx_nat (vi l).length 0 1
    rw [vi_len] at *
    exact this
  rw [e1, HT.sIx_none]
  cases l with
  | nil => rfl
  | cons x r =>
    have : min 1 (x :: r).length = 1 := by rw [List.length_cons]; omega
    rw [this]
    show (List.take ((vi (x :: r)).length - 1) (vi r)) = vi r
    rw [vi_len, List.length_cons, Nat.add_sub_cancel, ← vi_len r, List.take_length]
def spSum (K : PySem.W.Frag) : Sp := fun vs H Q _ => ∃ (L : Addr) (rs : List Addr) (M : List (List Int)) (n : Nat) (a : Addr) (l : List Int), vs = [.ref L, .ref a] ∧ MatAt K H L rs M ∧ Good n M ∧ SqL K H a (vi l) ∧ (∀ x ∈ l, Vd n x) ∧ l ≠ [] ∧ ∀ H', Same H H' → Q (.int (cyc (lm n M) l)) H'
section
variable {P : Program} {w : World} {K : PySem.W.Frag} {mg : Str → Option Value} {base : Heap} {f : Addr} {fd : FuncData}
theorem ok_sum (D : C8.Def K mg "_law_sum" sLawSum f fd) (b : Binds K fd ["_law_lengths_here", "_law_way"] []) (T : Txt mg) : C8.Cal P w K mg base 1 "_law_sum" (spSum K) [] := by
  refine C8.cal0 D b .nil scLawSum (fun vs H Q E h => ?_) (fun cdv A outer s H vs Q E hr h => ?_)
  · obtain ⟨L, rs, M, n, a, l, rfl, _⟩ := h
    rfl
  obtain ⟨L, rs, M, n, a, l, rfl, m, G, hl, hv, ne, q⟩ := h
  refine ⟨_, (pss_cons (ps_set (i := 2) scLawSum.nd rfl (.inl rfl) (pe_ix ix_list (pe_ix ix_list (pv 0) (pe_ix ix_list (pv 1) (pe_un un_neg pe_int) (fun _ _ => rfl)) (fun _ _ => rfl)) (pe_ix ix_list (pv 1) pe_int (fun _ _ => rfl)) (fun _ _ => rfl)))
 (pss_cons (ps_for PassesOwn.never rfl (pi_zip (by rfl) T.zip_ (pa_cons (pe_slice sl_list (pv 1) po_none (po_some (pe_un un_neg pe_int))) (pa_cons (pe_slice sl_list (pv 1) (po_some pe_int) po_none) pa_nil))) (pg_tup rfl (pgs_cons (pg_name (i := 3) scLawSum.nd rfl (.inl rfl)) (pgs_cons (pg_name (i := 4) scLawSum.nd rfl (.inl rfl)) pgs_nil)))
 (pss_one (ps_set (i := 2) scLawSum.nd rfl (.inl rfl) (pe_op op_add (pv 2) (pe_ix ix_list (pe_ix ix_list (pv 0) (pv 3) (fun _ _ => rfl)) (pv 4) (fun _ _ => rfl))))))
 (pss_one (ps_ret (pv 2))))), ?_⟩
  obtain ⟨x, z, h1, h2, m1, m2⟩ := two_ends ne
  refine rd2 m G.pre.sq (hv _ m2) (hv _ m1) (rdv rfl) (fun R y => ⟨_, rfl, _, rfl, a, _, _, _, rfl, rfl, hl, at_last h2, y⟩) (fun R y => ⟨_, rfl, a, _, _, _, rfl, rfl, hl, at_head h1, y⟩) ?_
  refine ⟨_, rfl, _, rfl, _, rfl, a, _, rfl, hl, fun c1 nc1 => ?_⟩
  rw [cut_init]
  have s1 : Same H (upd H c1 (.lst (vi l.dropLast))) := Same.new nc1
  refine ⟨_, rfl, 1, rfl, a, _, rfl, s1.seq hl, fun c2 nc2 => ?_⟩
  rw [cut_tail]
  have s2 : Same (upd H c1 (.lst (vi l.dropLast))) (upd (upd H c1 (.lst (vi l.dropLast))) c2 (.lst (vi l.tail))) := Same.new nc2
  have hc1 : (upd (upd H c1 (.lst (vi l.dropLast))) c2 (.lst (vi l.tail))) c1 = some (.lst (vi l.dropLast)) := s2 _ _ upd_same
  have hc2 : (upd (upd H c1 (.lst (vi l.dropLast))) c2 (.lst (vi l.tail))) c2 = some (.lst (vi l.tail)) := upd_same
  have s12 := s1.trans s2
  generalize (upd (upd H c1 (.lst (vi l.dropLast))) c2 (.lst (vi l.tail))) = H3 at hc1 hc2 s12
  refine ⟨c1, c2, _, _, rfl, SqL.of hc1, SqL.of hc2, ?_⟩
  have ll : 0 < l.length := List.length_pos_iff.mpr ne
  refine for_it (walk_zip (n := l.length - 1) (xs := vi l.dropLast) (ys := vi l.tail) (by rw [vi_len, vi_len, List.length_dropLast, List.length_tail]; omega)) (fun i σ H4 => ∃ u v, σ = [some (.ref L), some (.ref a), some (.int (lm n M z x + pl (lm n M) (l.take (i + 1)))), u, v] ∧ Same H3 H4)
    ⟨none, none, ?_, Same.refl H3⟩ (fun i σ H4 _ ⟨_, _, _, s4⟩ => ⟨SqL.of (s4 _ _ hc1), SqL.of (s4 _ _ hc2)⟩) ?_ ?_
  · cases l with
    | nil => exact absurd rfl ne
    | cons y r =>
      show [some (V.ref L), some (V.ref a), some (V.int (lm n M z x)), none, none] = [some (V.ref L), some (V.ref a), some (V.int (lm n M z x + 0)), none, none]
      rw [Int.add_zero]
  · rintro i y σ H4 H5 hi ⟨u, v, rfl, s4⟩ ⟨t, p, r, rfl, nt, rfl, hp, hr'⟩
    have h3 : i < l.length := by omega
    have h4 : i + 1 < l.length := by omega
    have e1 : (vi l.dropLast)[i]? = some (.int l[i]) := vi_get (by rw [List.getElem?_dropLast, if_pos (by omega), List.getElem?_eq_getElem h3])
    have e2 : (vi l.tail)[i]? = some (.int l[i + 1]) := vi_get (by rw [List.getElem?_tail, List.getElem?_eq_getElem h4])
    replace hp := e1.symm.trans hp
    replace hr' := e2.symm.trans hr'
    cases hp
    cases hr'
    have s5 : Same H4 (upd H4 t (.tup [.int l[i], .int l[i + 1]])) := Same.new nt
    refine ⟨t, _, rfl, SqT.of upd_same, rfl, .int l[i], [.int l[i + 1]], rfl, .int l[i + 1], [], rfl, rfl, ?_⟩
    refine ⟨_, rfl, ?_⟩
    refine rd2 (m.same (s12.trans (s4.trans s5))) G.pre.sq (hv _ (List.getElem_mem h3)) (hv _ (List.getElem_mem h4)) (rdv rfl) (rdv rfl) (rdv rfl) ?_
    refine ⟨_, _, rfl, rfl, some (.int l[i]), some (.int l[i + 1]), ?_, s4.trans s5⟩
    rw [pl_take l i _ _ (List.getElem?_eq_getElem h3) (List.getElem?_eq_getElem h4), ← Int.add_assoc]
    rfl
  · rintro σ H4 ⟨u, v, rfl, s4⟩
    have e : l.take (l.length - 1 + 1) = l := List.take_of_length_le (by omega)
    rw [e]
    refine ⟨_, rfl, ?_⟩
    have := q H4 (s12.trans s4)
    rw [cyc_pl l x h1 z h2, Int.add_comm] at this
    exact this
end
/-! ### _law_roads_sum -/
abbrev sLawRoadsSum : Stmt := topS 31
abbrev nLawRoadsSum : List Str := ["_law_lengths_here", "_law_roads", "_law_total", "_law_one", "_law_other"]
theorem scLawRoadsSum : FnScope nLawRoadsSum ["_law_lengths_here", "_law_roads"] (C8.fnScope sLawRoadsSum) := C8.fnScope_by (by decide +kernel)
section
variable {P : Program} {w : World} {K : PySem.W.Frag} {mg : Str → Option Value} {base : Heap} {f : Addr} {fd : FuncData}
theorem ok_rsum (D : C8.Def K mg "_law_roads_sum" sLawRoadsSum f fd) (b : Binds K fd ["_law_lengths_here", "_law_roads"] []) (T : Txt mg) : C8.Cal P w K mg base 1 "_law_roads_sum" (spRoads K) [] := by
  refine C8.cal0 D b .nil scLawRoadsSum (fun vs H Q E h => ?_) (fun cdv A outer s H vs Q E hr h => ?_)
  · obtain ⟨L, rs, M, n, a, l, rfl, _⟩ := h
    rfl
  obtain ⟨L, rs, M, n, p, l, rfl, m, G, hR, hv, q⟩ := h
  obtain ⟨ts, hp, ht⟩ := hR.ex
  refine ⟨_, (pss_cons (ps_set (i := 2) scLawRoadsSum.nd rfl (.inl rfl) pe_int)
 (pss_cons (ps_for PassesOwn.never rfl (pi_list (pv 1)) (pg_tup rfl (pgs_cons (pg_name (i := 3) scLawRoadsSum.nd rfl (.inl rfl)) (pgs_cons (pg_name (i := 4) scLawRoadsSum.nd rfl (.inl rfl)) pgs_nil)))
 (pss_one (ps_set (i := 2) scLawRoadsSum.nd rfl (.inl rfl) (pe_op op_add (pv 2) (pe_ix ix_list (pe_ix ix_list (pv 0) (pv 3) (fun _ _ => rfl)) (pv 4) (fun _ _ => rfl))))))
 (pss_one (ps_ret (pv 2))))), ?_⟩
  refine ⟨_, rfl, p, rfl, ⟨_, SqL.of hp⟩, for_list (K := K) (a := p) (xs := ts) (fun i σ H2 => ∃ u v, σ = [some (.ref L), some (.ref p), some (.int (cost (lm n M) (l.take i))), u, v] ∧ H2 = H) ⟨none, none, rfl, rfl⟩ (fun i σ H2 _ ⟨_, _, _, e⟩ => e ▸ SqL.of hp) ?_ ?_⟩
  · rintro i y σ H2 hi ⟨u, v, rfl, rfl⟩
    obtain ⟨r, t, h1, rfl, h2⟩ := ht.at_ hi
    have hm := List.mem_of_getElem? h1
    refine ⟨t, _, rfl, SqT.of h2, rfl, .int r.1, [.int r.2], rfl, .int r.2, [], rfl, rfl, ?_⟩
    refine ⟨_, rfl, ?_⟩
    refine rd2 m G.pre.sq (hv _ (mem_ends.mpr ⟨r, hm, .inl rfl⟩)) (hv _ (mem_ends.mpr ⟨r, hm, .inr rfl⟩)) (rdv rfl) (rdv rfl) (rdv rfl) ?_
    refine ⟨_, _, rfl, rfl, some (.int r.1), some (.int r.2), ?_, rfl⟩
    rw [cost_take l i r h1]
    rfl
  · rintro σ H2 ⟨u, v, rfl, rfl⟩
    rw [ht.1, List.take_length]
    exact ⟨_, rfl, q⟩
end
/-! ### data as a whole -/
def dInts (l : List Int) : PyData := .list (l.map PyData.int)
def dMat (M : List (List Int)) : PyData := .list (M.map dInts)
theorem dp_ints {K : PySem.W.Frag} {H : Hp} : ∀ l : List Int, DpAll K H (vi l) (l.map PyData.int)
  | [] => .nil
  | x :: l => .cons (.int x) (dp_ints l)
theorem dp_list {K : PySem.W.Frag} {H : Hp} {a : Addr} {l : List Int} (h : SqL K H a (vi l)) : Dp K H (.ref a) (dInts l) := .lst h (dp_ints l)
theorem lay_ints : ∀ l : List Int, PyData.canLayAll0 (l.map PyData.int) = true ∧ PyData.depthAll (l.map PyData.int) = 0
  | [] => ⟨rfl, rfl⟩
  | x :: l => by
    obtain ⟨h1, h2⟩ := lay_ints l
    constructor
    · simp [PyData.canLayAll0, PyData.canLay0, h1]
    · simp [PyData.depthAll, PyData.depth, h2]
theorem lay_dints (l : List Int) : (dInts l).canLay0 = true ∧ (dInts l).depth = 1 := by
  obtain ⟨h1, h2⟩ := lay_ints l
  exact ⟨by simp [dInts, PyData.canLay0, h1], by simp [dInts, PyData.depth, h2]⟩
theorem lay_mat : ∀ M : List (List Int), PyData.canLayAll0 (M.map dInts) = true ∧ PyData.depthAll (M.map dInts) ≤ 1
  | [] => ⟨rfl, Nat.zero_le _⟩
  | r :: M => by
    obtain ⟨h1, h2⟩ := lay_mat M
    obtain ⟨h3, h4⟩ := lay_dints r
    constructor
    · simp [PyData.canLayAll0, h1, h3]
    · simp only [List.map_cons, PyData.depthAll, h4]
      omega
theorem lay_dmat (M : List (List Int)) : (dMat M).canLay0 = true ∧ (dMat M).depth ≤ 2 := by
  obtain ⟨h1, h2⟩ := lay_mat M
  exact ⟨by simp [dMat, PyData.canLay0, h1], by simp only [dMat, PyData.depth]; omega⟩
theorem shaped_ints (l : List Int) : SeqAt.shaped (dInts l) = true := by
  obtain ⟨h1, h2⟩ := lay_dints l
  unfold SeqAt.shaped
  rw [h1, h2]; rfl
theorem shaped_mat (M : List (List Int)) : SeqAt.shaped (dMat M) = true := by
  obtain ⟨h1, h2⟩ := lay_dmat M
  unfold SeqAt.shaped
  rw [h1, decide_eq_true (by omega)]; rfl
theorem dp_mat {K : PySem.W.Frag} {H : Hp} {L : Addr} {rs : List Addr} {M : List (List Int)} (m : MatAt K H L rs M) : Dp K H (.ref L) (dMat M) := by
  have gen : ∀ (M : List (List Int)) (rs : List Addr), rs.length = M.length → (∀ (i : Nat) (row : List Int), M[i]? = some row → ∃ r, rs[i]? = some r ∧ SqL K H r (vi row)) → DpAll K H (rs.map V.ref) (M.map dInts) := by
    intro M
    induction M with
    | nil =>
      intro rs hl _
      have : rs = [] := List.length_eq_zero_iff.mp hl
      subst this
      exact .nil
    | cons r M ih =>
      intro rs hl hr
      cases rs with
      | nil => simp at hl
      | cons a rs =>
        obtain ⟨a', h1, h2⟩ := hr 0 r rfl
        have : a = a' := Option.some.inj h1
        subst this
        exact .cons (dp_list h2) (ih rs (by simpa using hl) fun i row h => hr (i + 1) row h)
  exact .lst m.top (gen M rs m.len m.row)
theorem places_sorted (n : Nat) : (places n).Pairwise (· ≤ ·) := by
  unfold places
  rw [List.pairwise_map]
  refine List.Pairwise.imp ?_ (List.pairwise_lt_range (n := n))
  intro a b h
  omega
/-! ### _law_is_round -/
abbrev sLawIsRound : Stmt := topS 32
abbrev nLawIsRound : List Str := ["_law_found", "_law_many", "_law_place"]
theorem scLawIsRound : FnScope nLawIsRound ["_law_found", "_law_many"] (C8.fnScope sLawIsRound) := C8.fnScope_by (by decide +kernel)
def spIsRound (K : PySem.W.Frag) : Sp := fun vs H Q _ => ∃ (a : Addr) (l : List Int) (n : Nat), vs = [.ref a, .int (n : Int)] ∧ H a = some (.lst (vi l)) ∧ Round n l ∧ l.head? = some 0 ∧ n ≤ 11 ∧ ∀ H', Same H H' → Q (.bl true) H'
section
variable {P : Program} {w : World} {K : PySem.W.Frag} {mg : Str → Option Value} {base : Heap} {f : Addr} {fd : FuncData}
theorem ok_isround (D : C8.Def K mg "_law_is_round" sLawIsRound f fd) (b : Binds K fd ["_law_found", "_law_many"] []) (T : Txt mg) : C8.Cal P w K mg base 1 "_law_is_round" (spIsRound K) [] := by
  refine C8.cal0 D b .nil scLawIsRound (fun vs H Q E h => ?_) (fun cdv A outer s H vs Q E hr h => ?_)
  · obtain ⟨a, l, n, rfl, _⟩ := h
    rfl
  obtain ⟨a, l, n, rfl, ha, hR, h0, h11, q⟩ := h
  refine ⟨_, (pss_cons (ps_if (PW.pt (pw_or (pt_not (pt_val (pe_callB call_isi (by rfl) T.isinstance_ (by decide +kernel) (pa_cons (pv 0) (pa_cons (pe_bltn (v := .ty "list") (by rfl) T.list_ (by decide +kernel) rfl) pa_nil))))) (pw_or (pt_cmpR op_ne (pe_callB call_len_seq (by rfl) T.len_ PySem.boot_len (pa_cons (pv 0) pa_nil)) (pv 1) (nomark _)) (pw_or1 (pt_cmpR op_ne (pe_ix ix_list (pv 0) pe_int (fun _ _ => rfl)) pe_int (nomark _))))))
 (pss_one (ps_ret pe_bl))
 pss_nil)
 (pss_cons (ps_for PassesOwn.never rfl (pi_list (pv 0)) (pg_name (i := 2) scLawIsRound.nd rfl (.inl rfl))
 (pss_one (ps_if (PW.pt (pw_or (pt_not (pt_val (pe_callB call_isi (by rfl) T.isinstance_ (by decide +kernel) (pa_cons (pv 2) (pa_cons (pe_bltn (v := .ty "int") (by rfl) T.int_ (by decide +kernel) rfl) pa_nil))))) (pw_or1 (pt_val (pe_callB call_isi (by rfl) T.isinstance_ (by decide +kernel) (pa_cons (pv 2) (pa_cons (pe_bltn (v := .ty "bool") (by rfl) T.bool_ (by decide +kernel) rfl) pa_nil)))))))
 (pss_one (ps_ret pe_bl))
 pss_nil)))
 (pss_one (ps_ret (pe_cmpR (op_eqD hr.units) (pe_callB cr_sorted (by rfl) T.sorted_ (by decide +kernel) (pa_cons (pv 0) pa_nil)) (pe_listRg rfl (by rfl) T.list_ (prg_1 (by rfl) T.range_ (pv 1))) (nomark _)))))), ?_⟩
  have ln : l.length = n := by rw [hR.perm.length_eq, places_len]
  refine ⟨_, rfl, _, _, .type "list", .type "list", true, rfl, .ty "list", .base (.lst ha), kit_ty (by decide +kernel), _, rfl, iteF ?_⟩
  refine ⟨_, rfl, a, _, rfl, .inl (SqL.of ha), _, rfl, rfl, _, rfl, ?_⟩
  rw [vi_len, ln, decide_eq_true rfl]
  refine iteF ?_
  refine ⟨_, rfl, a, _, _, _, rfl, rfl, SqL.of ha, at_head h0, rfl, _, rfl, iteF ?_⟩
  refine ⟨_, rfl, a, rfl, ⟨_, SqL.of ha⟩, for_list (K := K) (a := a) (xs := vi l) (fun i σ H2 => ∃ u, σ = [some (.ref a), some (.int (n : Int)), u] ∧ H2 = H) ⟨none, rfl, rfl⟩ (fun i σ H2 _ ⟨_, _, e⟩ => e ▸ SqL.of ha) ?_ ?_⟩
  · rintro i y σ H2 hi ⟨u, rfl, rfl⟩
    obtain ⟨x, hx, rfl⟩ := vi_inv hi
    refine ⟨_, rfl, _, _, .type "int", .type "int", true, rfl, .ty "int", .base (.int x), kit_ty (by decide +kernel), _, rfl, iteF ?_⟩
    refine ⟨_, rfl, _, _, .type "int", .type "bool", false, rfl, .ty "bool", .base (.int x), kit_ty (by decide +kernel), _, rfl, iteF ?_⟩
    exact ⟨_, rfl, rfl⟩
  · rintro σ H2 ⟨u, rfl, rfl⟩
    refine ⟨_, rfl, a, l, rfl, SqL.of ha, by omega, fun ns p pp ps np => ?_⟩
    have e : ns = places n := eq_of_sorted (pp.trans hR.perm) ps (places_sorted n)
    subst e
    have s1 : Same H2 (upd H2 p (.lst ((places n).map V.int))) := Same.new np
    refine ⟨_, rfl, n, rfl, RgOk.of_le (by omega) (by omega) (by omega) (by omega), fun r nr => ?_⟩
    rw [rg_places]
    have s2 : Same (upd H2 p (.lst ((places n).map V.int))) (upd (upd H2 p (.lst ((places n).map V.int))) r (.lst (vi (places n)))) := Same.new nr
    refine ⟨dInts (places n), dInts (places n), dp_list (SqL.of (s2 _ _ upd_same)), dp_list (SqL.of upd_same), shaped_ints _, shaped_ints _, ?_⟩
    rw [SeqAt.eqv_refl _ (lay_dints _).1]
    exact q _ (s1.trans s2)
end
/-! ### _law_told -/
abbrev sLawTold : Stmt := topS 33
abbrev nLawTold : List Str := ["_law_lengths_here", "_law_way", "_law_found"]
theorem scLawTold : FnScope nLawTold ["_law_lengths_here", "_law_way"] (C8.fnScope sLawTold) := C8.fnScope_by (by decide +kernel)
def rListOf (K : PySem.W.Frag) : List V → Hp → VK → Prop := fun xs H Q => ∃ p ys, xs = [.ref p] ∧ (SqL K H p ys ∨ SqT K H p ys) ∧ ∀ l, H l = none → Q (.ref l) (upd H l (.lst ys))
def spTold (K : PySem.W.Frag) : Sp := fun vs H Q _ => ∃ (L : Addr) (rs : List Addr) (M : List (List Int)) (n : Nat) (a : Addr) (l : List Int), vs = [.ref L, .ref a] ∧ MatAt K H L rs M ∧ Good n M ∧ SqL K H a (vi l) ∧ Round n l ∧ ∀ H', Same H H' → Q (.bl true) H'
section
variable {P : Program} {w : World} {K : PySem.W.Frag} {mg : Str → Option Value} {base : Heap} {f : Addr} {fd : FuncData}
theorem _root_.KM.Round.ne {n : Nat} {l : List Int} (h : Round n l) (hn : 0 < n) : l ≠ [] := by
  rintro rfl
  have := h.zero hn
  simp at this
theorem ok_told (D : C8.Def K mg "_law_told" sLawTold f fd) (b : Binds K fd ["_law_lengths_here", "_law_way"] []) (T : Txt mg) (cRoundLength : C8.Cal P w K mg base 2 "round_length" (spWay K cyc) []) (cLawSum : C8.Cal P w K mg base 1 "_law_sum" (spSum K) []) : C8.Cal P w K mg base 3 "_law_told" (spTold K) [] := by
  refine C8.cal0 D b .nil scLawTold (fun vs H Q E h => ?_) (fun cdv A outer s H vs Q E hr h => ?_)
  · obtain ⟨L, rs, M, n, a, l, rfl, _⟩ := h
    rfl
  obtain ⟨L, rs, M, n, a, l, rfl, m, G, hl, hR, q⟩ := h
  refine ⟨_, (pss_cons (ps_set (i := 2) scLawTold.nd rfl (.inl rfl) (C8.pe_c cRoundLength hr (by omega) (by rfl) (pa_cons (pv 0) (pa_cons (pe_callTy (r := rListOf K) call_list_of (by rfl) T.list_ (by decide +kernel) (pa_cons (pv 1) pa_nil)) pa_nil))))
 (pss_one (ps_ret (pe_and (pe_callB call_isi (by rfl) T.isinstance_ (by decide +kernel) (pa_cons (pv 2) (pa_cons (pe_bltn (v := .ty "int") (by rfl) T.int_ (by decide +kernel) rfl) pa_nil))) (pe_and (pe_not (pe_callB call_isi (by rfl) T.isinstance_ (by decide +kernel) (pa_cons (pv 2) (pa_cons (pe_bltn (v := .ty "bool") (by rfl) T.bool_ (by decide +kernel) rfl) pa_nil)))) (pe_one (pe_cmpR op_eq (pv 2) (C8.pe_c cLawSum hr (by omega) (by rfl) (pa_cons (pv 0) (pa_cons (pv 1) pa_nil))) (nomark _)))))))), ?_⟩
  have top := G.top
  have hv : ∀ x ∈ l, Vd n x := fun x hx => (hR.mem x).mpr hx
  have ln : l.length = n := by rw [hR.perm.length_eq, places_len]
  refine ⟨_, rfl, _, rfl, a, _, rfl, .inl hl, fun p np => ?_⟩
  have s1 : Same H (upd H p (.lst (vi l))) := Same.new np
  refine ⟨L, rs, M, n, p, l, rfl, m.same s1, G, SqL.of upd_same, hv, by omega, ?_⟩
  refine ⟨_, rfl, _, _, .type "int", .type "int", true, rfl, .ty "int", .base (.int _), kit_ty (by decide +kernel), _, rfl, iteT ?_⟩
  refine ⟨_, rfl, _, _, .type "int", .type "bool", false, rfl, .ty "bool", .base (.int _), kit_ty (by decide +kernel), _, rfl, _, rfl, iteT ?_⟩
  refine ⟨_, rfl, _, rfl, _, rfl, L, rs, M, n, a, l, rfl, m.same s1, G, s1.seq hl, hv, hR.ne G.pos, fun H2 s2 => ?_⟩
  refine ⟨rfl, ?_⟩
  rw [decide_eq_true rfl]
  exact q H2 (s1.trans s2)
end
/-! ### law -/
abbrev sLaw : Stmt := topS 34
abbrev nLaw : List Str := ["_law_script", "_law_lengths_here", "_law_drawn", "_law_handed", "_law_walked", "_law_paired", "_law_roads", "_law_pairs", "_law_rival", "_law_tree", "_law_pairing", "_law_line"]
theorem scLaw : FnScope nLaw ["_law_script"] (C8.fnScope sLaw) := C8.fnScope_by (by decide +kernel)
def spLaw (K : PySem.W.Frag) : Sp := fun vs H Q _ => ∃ (a : Addr) (ns : List Int), vs = [.ref a] ∧ SqL K H a (vi ns) ∧ ns.length ≤ 63 ∧ ∀ H', Q (.bl true) H'
theorem _root_.KM.Round.rev {n : Nat} {l : List Int} (h : Round n l) : Round n l.reverse := ⟨(List.reverse_perm l).trans h.perm⟩
/-- the law in plain words: a tree, a walked round, a paired round and any round of a table of lengths -/
theorem plain {n : Nat} {M : List (List Int)} (G : Good n M) {wl pl dl : List Int} {os : List Int} {ps : List (Int × Int)} (hw : cyc (lm n M) wl ≤ 2 * cost (lm n M) (tree (lm n M) n)) (hp : PairOf (lm n M) n pl)
    (ho : Odd (tree (lm n M) n) os) (hl : Least (lm n M) os ps) (hd : Round n dl) :
    cost (lm n M) (tree (lm n M) n) ≤ cyc (lm n M) dl ∧ 2 * cost (lm n M) ps ≤ cyc (lm n M) dl ∧ cyc (lm n M) pl ≤ cost (lm n M) (tree (lm n M) n) + cost (lm n M) ps := by
  have pr := tree_prim (d := lm n M) G.pos
  have tv := pr.vends (v0 G.pos)
  obtain ⟨_, _, ps', os', ho', hl', hc⟩ := hp
  have p : os'.Perm os := by
    rw [List.perm_ext_iff_of_nodup ho'.nd ho.nd]
    intro x
    rw [ho'.mem, ho.mem]
  have := (hl'.perm p).le ps hl.ends
  exact ⟨pr.le_cyc G.met hd.mem (hd.zero G.pos), hl.rival G.met ho tv hd, by omega⟩
section
variable {P : Program} {w : World} {K : PySem.W.Frag} {mg : Str → Option Value} {base : Heap} {f : Addr} {fd : FuncData}
theorem ok_law (D : C8.Def K mg "law" sLaw f fd) (T : Txt mg) (cLawLengths : C8.Cal P w K mg base 4 "_law_lengths" (spLengths K) []) (cLawRound : C8.Cal P w K mg base 3 "_law_round" (spDrawn K) [])
    (cWalkedRound : C8.Cal P w K mg base 13 "walked_round" (spWalked K) []) (cPairedRound : C8.Cal P w K mg base 11 "paired_round" (spPaired K) []) (cLeastTree : C8.Cal P w K mg base 3 "least_tree" (spTree K) [])
    (cLeastPairing : C8.Cal P w K mg base 9 "least_pairing" (spPairing K) []) (cOddEnds : C8.Cal P w K mg base 1 "odd_ends" spOdd []) (cLawIsRound : C8.Cal P w K mg base 1 "_law_is_round" (spIsRound K) [])
    (cLawNumber : C8.Cal P w K mg base 2 "_law_number" (spNumber K) []) (cLawSum : C8.Cal P w K mg base 1 "_law_sum" (spSum K) []) (cLawRoadsSum : C8.Cal P w K mg base 1 "_law_roads_sum" (spRoads K) [])
    (cLawTold : C8.Cal P w K mg base 3 "_law_told" (spTold K) []) : FnOk P w K mg base C8.CX0 14 f fd ["_law_script"] (spLaw K) := by
  refine C8.fn0 D.fn scLaw (fun vs H Q E h => ?_) (fun cdv A outer s H vs Q E hr h => ?_)
  · obtain ⟨a, ns, rfl, _⟩ := h
    rfl
  obtain ⟨a, ns, rfl, hS, h63, q⟩ := h
  refine ⟨_, (pss_cons (ps_set (i := 1) scLaw.nd rfl (.inl rfl) (C8.pe_c cLawLengths hr (by omega) (by rfl) (pa_cons (pv 0) (pa_cons (pe_op op_mul pe_int (pe_op op_pow pe_int pe_int)) pa_nil))))
 (pss_cons (ps_set (i := 2) scLaw.nd rfl (.inl rfl) (C8.pe_c cLawRound hr (by omega) (by rfl) (pa_cons (pv 0) (pa_cons (pe_callB call_len_seq (by rfl) T.len_ PySem.boot_len (pa_cons (pv 1) pa_nil)) pa_nil))))
 (pss_cons (ps_setLc (i := 3) (own := [("_law_line", 11)]) rfl scLaw.nd rfl rfl (sw_true rfl rfl rfl (by decide +kernel))  (pi_list (pv 1)) (blkOk_by (own := [("_law_line", 11)]) (N := nLaw) (sc := C8.fnScope sLaw) (by decide +kernel)) (fun _ _ _ _ _ => pg_name (i := 11) scLaw.nd rfl (.inl rfl)) (fun _ _ _ _ _ => pts_nil) (fun _ _ _ _ _ => (pe_callTy (r := rListOf K) call_list_of (by rfl) T.list_ (by decide +kernel) (pa_cons (pv 11) pa_nil))))
 (pss_cons (ps_set (i := 4) scLaw.nd rfl (.inl rfl) (C8.pe_c cWalkedRound hr (by omega) (by rfl) (pa_cons (pv 3) pa_nil)))
 (pss_cons (ps_set (i := 5) scLaw.nd rfl (.inl rfl) (C8.pe_c cPairedRound hr (by omega) (by rfl) (pa_cons (pv 3) pa_nil)))
 (pss_cons (ps_set (i := 6) scLaw.nd rfl (.inl rfl) (C8.pe_c cLeastTree hr (by omega) (by rfl) (pa_cons (pv 3) pa_nil)))
 (pss_cons (ps_set (i := 7) scLaw.nd rfl (.inl rfl) (C8.pe_c cLeastPairing hr (by omega) (by rfl) (pa_cons (pv 3) (pa_cons (C8.pe_c cOddEnds hr (by omega) (by rfl) (pa_cons (pv 6) pa_nil)) pa_nil))))
 (pss_cons (ps_if (PW.pt (pw_or (pt_not (pt_val (C8.pe_c cLawIsRound hr (by omega) (by rfl) (pa_cons (pv 4) (pa_cons (pe_callB call_len_seq (by rfl) T.len_ PySem.boot_len (pa_cons (pv 1) pa_nil)) pa_nil))))) (pw_or (pt_not (pt_val (C8.pe_c cLawIsRound hr (by omega) (by rfl) (pa_cons (pv 5) (pa_cons (pe_callB call_len_seq (by rfl) T.len_ PySem.boot_len (pa_cons (pv 1) pa_nil)) pa_nil))))) (pw_or1 (pt_cmpR (op_neD hr.units) (pv 3) (pv 1) (nomark _))))))
 (pss_one (ps_ret pe_bl))
 pss_nil)
 (C8.pss_cut (ps_if (pt_cmpR op_eq (C8.pe_c cLawNumber hr (by omega) (by rfl) (pa_cons (pv 0) (pa_cons pe_int (pa_cons pe_int pa_nil)))) pe_int (nomark _))
 (pss_one (ps_set (i := 2) scLaw.nd rfl (.inl rfl) (pe_revL (pe_ix ix_list (pe_lst (pa_cons (pv 5) (pa_cons (pv 4) pa_nil))) (C8.pe_c cLawNumber hr (by omega) (by rfl) (pa_cons (pv 0) (pa_cons pe_int (pa_cons pe_int pa_nil)))) (fun _ _ => rfl)))))
 pss_nil)
 (pss_cons (ps_set (i := 8) scLaw.nd rfl (.inl rfl) (C8.pe_c cLawSum hr (by omega) (by rfl) (pa_cons (pv 1) (pa_cons (pv 2) pa_nil))))
 (pss_cons (ps_set (i := 9) scLaw.nd rfl (.inl rfl) (C8.pe_c cLawRoadsSum hr (by omega) (by rfl) (pa_cons (pv 1) (pa_cons (pv 6) pa_nil))))
 (pss_cons (ps_set (i := 10) scLaw.nd rfl (.inl rfl) (C8.pe_c cLawRoadsSum hr (by omega) (by rfl) (pa_cons (pv 1) (pa_cons (pv 7) pa_nil))))
 (pss_cons (ps_if (PW.pt (pw_or (pt_cmpR op_gt (pv 9) (pv 8) (nomark _)) (pw_or1 (pt_cmpR op_gt (pe_op op_mul pe_int (pv 10)) (pv 8) (nomark _)))))
 (pss_one (ps_ret pe_bl))
 pss_nil)
 (pss_cons (ps_if (PW.pt (pw_or (pt_cmpR op_gt (C8.pe_c cLawSum hr (by omega) (by rfl) (pa_cons (pv 1) (pa_cons (pv 4) pa_nil))) (pe_op op_mul pe_int (pv 9)) (nomark _)) (pw_or1 (pt_cmpR op_gt (C8.pe_c cLawSum hr (by omega) (by rfl) (pa_cons (pv 1) (pa_cons (pv 5) pa_nil))) (pe_op op_add (pv 9) (pv 10)) (nomark _)))))
 (pss_one (ps_ret pe_bl))
 pss_nil)
 (pss_cons (ps_if (PW.pt (pw_or (pt_cmpR op_gt (C8.pe_c cLawSum hr (by omega) (by rfl) (pa_cons (pv 1) (pa_cons (pv 4) pa_nil))) (pe_op op_mul pe_int (pv 8)) (nomark _)) (pw_or1 (pt_cmpR op_gt (pe_op op_mul pe_int (C8.pe_c cLawSum hr (by omega) (by rfl) (pa_cons (pv 1) (pa_cons (pv 5) pa_nil)))) (pe_op op_mul pe_int (pv 8)) (nomark _)))))
 (pss_one (ps_ret pe_bl))
 pss_nil)
 (pss_one (ps_ret (pe_and (C8.pe_c cLawTold hr (by omega) (by rfl) (pa_cons (pv 1) (pa_cons (pv 2) pa_nil))) (pe_and (C8.pe_c cLawTold hr (by omega) (by rfl) (pa_cons (pv 1) (pa_cons (pv 4) pa_nil))) (pe_one (C8.pe_c cLawTold hr (by omega) (by rfl) (pa_cons (pv 1) (pa_cons (pv 5) pa_nil))))))))))))))))))))))), ?_⟩
  -- the lengths, a round
  refine ⟨_, rfl, _, _, rfl, rfl, ⟨by decide, by decide, by decide⟩, _, _, rfl, rfl, .inl ⟨by decide, by decide⟩, a, ns, _, rfl, hS, by decide, fun L H1 rs M n s1 G m => ?_⟩
  have top := G.top
  have pos := G.pos
  have pr := tree_prim (d := lm n M) pos
  have tl := tree_len (d := lm n M) pos
  have tv := pr.vends (v0 pos)
  have ml := m.len_n G.pre.sq
  refine ⟨_, rfl, _, rfl, L, _, rfl, .inl m.top, a, ns, n, by rw [ml]; rfl, s1.seq hS, top, fun Dd H2 dl s2 hD hDl => ?_⟩
  have m2 := m.same s2
  -- handed
  refine ⟨_, rfl, L, rfl, ⟨_, m2.top⟩, fun X nX => ?_⟩
  refine lc_list (K := K) (a := L) (xs := rs.map V.ref) (fun i H3 => ∃ hs, Same H2 H3 ∧ MatM H3 X hs (M.take i)) ⟨[], Same.new nX, MatM.nil upd_same⟩ (fun i H3 _ ⟨_, s3, _⟩ => s3.seq m2.top) ?_ ?_
  · rintro i y H3 hi ⟨hs, s3, mh⟩
    have hil := (List.getElem?_eq_some_iff.mp hi).1
    rw [ml, ← G.pre.sq.len] at hil
    obtain ⟨r, e1, e2⟩ := m2.row i M[i] (List.getElem?_eq_getElem hil)
    have ey : y = .ref r := by
      rw [List.getElem?_map, e1] at hi
      exact (Option.some.inj hi).symm
    subst ey
    refine ⟨rfl, yes_ (iteT ?_)⟩
    refine ⟨_, rfl, r, _, rfl, .inl (s3.seq e2), fun l nl => ?_⟩
    obtain ⟨n1, n2⟩ := mh.free nl
    have s4 : Same H3 (upd H3 l (.lst (vi M[i]))) := Same.new nl
    have mh4 := mh.same s4
    refine ⟨_, mh4.top, ?_, hs ++ [l], (s3.trans s4).put nX, ?_⟩
    · rw [List.length_map, mh.len, List.length_take]; exact small1000 (by have := G.pre.sq.len; omega)
    · have e : M.take (i + 1) = M.take i ++ [M[i]] := by
        rw [List.take_add_one, List.getElem?_eq_getElem hil]
        rfl
      rw [e]
      exact mh4.snoc n1 n2 upd_same
  rintro H3 ⟨hs, s3, mh⟩
  have eM : M.take (rs.map V.ref).length = M := List.take_of_length_le (by rw [ml, G.pre.sq.len]; exact Nat.le_refl _)
  rw [eM] at mh
  have mX : MatAt K H3 X hs M := mh.at_
  -- the two rounds, the tree, the pairing
  refine ⟨_, rfl, X, hs, M, n, rfl, mX, G, fun Wa H4 wl s4 hW w0 hwc hWl => ?_⟩
  refine ⟨_, rfl, X, hs, M, n, rfl, mX.same s4, G, fun Pa H5 pl s5 hP hPl => ?_⟩
  refine ⟨_, rfl, X, hs, M, n, rfl, mX.same (s4.trans s5), G, fun Ra H6 s6 hRa => ?_⟩
  refine ⟨_, rfl, _, rfl, Ra, _, rfl, hRa, by omega, fun O H7 os s7 ho hO => ?_⟩
  have oev := ho.even tv
  have osub : ∀ x ∈ os, Vd n x := fun x hx => tv x (List.count_pos_iff.mp (by have := (ho.mem x).mp hx; omega))
  have oln := (full_len ho.nd osub).1
  refine ⟨X, hs, M, n, O, os, rfl, mX.same (s4.trans (s5.trans (s6.trans s7))), G, SqL.of hO, osub, oev, by omega, fun Ba H8 ps s8 hle hBa => ?_⟩
  have s78 := s7.trans s8
  have s68 := s6.trans s78
  have s58 := s5.trans s68
  have s48 := s4.trans s58
  have s38 := s3.trans s48
  -- the tests of the rounds
  have m8 : MatAt K H8 L rs M := m2.same s38
  refine ⟨_, rfl, _, rfl, L, _, rfl, .inl m8.top, Wa, wl, n, by rw [ml]; rfl, s58 _ _ hWl, hW, w0, top, fun H9 s9 => ?_⟩
  refine ⟨_, rfl, iteF ?_⟩
  refine ⟨_, rfl, _, rfl, L, _, rfl, .inl (s9.seq m8.top), Pa, pl, n, by rw [ml]; rfl, s9 _ _ (s68 _ _ hPl), hP.1, hP.2.1, top, fun HA sA => ?_⟩
  refine ⟨_, rfl, iteF ?_⟩
  have s8A := s9.trans sA
  have mA : MatAt K HA L rs M := m8.same s8A
  have mXA : MatAt K HA X hs M := mX.same (s48.trans s8A)
  refine ⟨_, rfl, _, rfl, dMat M, dMat M, dp_mat mXA, dp_mat mA, shaped_mat M, shaped_mat M, ?_⟩
  rw [SeqAt.eqv_refl _ (lay_dmat M).1]
  refine ⟨_, rfl, iteF ?_⟩
  have hDA : HA Dd = some (.lst (vi dl)) := s8A _ _ (s38 _ _ hDl)
  have hWA : HA Wa = some (.lst (vi wl)) := s8A _ _ (s58 _ _ hWl)
  have hPA : HA Pa = some (.lst (vi pl)) := s8A _ _ (s68 _ _ hPl)
  have hRA : RdsAt HA Ra (tree (lm n M) n) := hRa.same (s78.trans s8A)
  have hBA : RdsAt HA Ba ps := hBa.same s8A
  have hSA : SqL K HA a (vi ns) := (s1.trans (s2.trans (s38.trans s8A))).seq hS
  -- another round
  refine ⟨fun σ' HB => ∃ Db db, σ' = [some (.ref a), some (.ref L), some (.ref Db), some (.ref X), some (.ref Wa), some (.ref Pa), some (.ref Ra), some (.ref Ba), none, none, none, none] ∧ Same HA HB ∧ HB Db = some (.lst (vi db)) ∧ Round n db, ?_, ?_⟩
  · refine ⟨_, rfl, a, ns, 47, 2, rfl, hSA, by decide, by decide, by decide, fun z _ _ => ?_⟩
    refine ⟨rfl, _, rfl, ite2 (fun c => ?_) (fun c => ?_)⟩
    · refine ⟨_, rfl, _, rfl, by show 2 ≤ sizeLine; decide, fun B nB => ?_⟩
      have sB : Same HA (upd HA B (.lst [.ref Pa, .ref Wa])) := Same.new nB
      refine ⟨_, rfl, a, ns, 48, 1, rfl, sB.seq hSA, by decide, by decide, by decide, fun z z0 z1 => ?_⟩
      obtain ⟨Y, yl, hat, hY, hyR⟩ : ∃ (Y : Addr) (yl : List Int), atI [V.ref Pa, V.ref Wa] z = some (.ref Y) ∧ HA Y = some (.lst (vi yl)) ∧ Round n yl := by
        have : z = 0 ∨ z = 1 := by omega
        rcases this with rfl | rfl
        · exact ⟨Pa, pl, atI_nat (j := 0) rfl, hPA, hP.1⟩
        · exact ⟨Wa, wl, atI_nat (j := 1) rfl, hWA, hW⟩
      refine ⟨B, _, _, _, rfl, rfl, SqL.of upd_same, hat, Y, _, rfl, SqL.of (sB _ _ hY), fun p np => ?_⟩
      refine ⟨p, yl.reverse, rfl, sB.trans (Same.new np), ?_, hyR.rev⟩
      rw [upd_same]
      unfold vi
      rw [List.map_reverse]
    · exact ⟨Dd, dl, rfl, Same.refl HA, hDA, hD⟩
  rintro σ' HB ⟨Db, db, rfl, sB, hDb, hdR⟩
  obtain ⟨c1, c2, c3⟩ := plain G (wl := wl) hwc hP ho hle hdR
  have mB : MatAt K HB L rs M := mA.same sB
  have vdb : ∀ x ∈ db, Vd n x := fun x hx => (hdR.mem x).mpr hx
  have vwl : ∀ x ∈ wl, Vd n x := fun x hx => (hW.mem x).mpr hx
  have vpl : ∀ x ∈ pl, Vd n x := fun x hx => (hP.1.mem x).mpr hx
  have pv : ∀ x ∈ ends ps, Vd n x := fun x hx => osub x (hle.ends.mem_iff.mp hx)
  -- the sums
  refine ⟨_, rfl, _, rfl, L, rs, M, n, Db, db, rfl, mB, G, SqL.of hDb, vdb, hdR.ne pos, fun HC sC => ?_⟩
  refine ⟨_, rfl, _, rfl, L, rs, M, n, Ra, _, rfl, mB.same sC, G, hRA.same (sB.trans sC), tv, ?_⟩
  refine ⟨_, rfl, _, rfl, L, rs, M, n, Ba, _, rfl, mB.same sC, G, hBA.same (sB.trans sC), pv, ?_⟩
  -- the tests of the sums
  refine ⟨_, rfl, _, rfl, _, _, rfl, rfl, _, rfl, ite2 (fun c => ?_) (fun _ => ?_)⟩
  · exfalso
    have := of_decide_eq_true c
    omega
  refine ⟨_, rfl, _, _, rfl, rfl, .inl ⟨by decide, by decide⟩, _, rfl, _, _, rfl, rfl, _, rfl, ite2 (fun c => ?_) (fun _ => ?_)⟩
  · exfalso
    have := of_decide_eq_true c
    omega
  have sBC := sB.trans sC
  refine ⟨_, rfl, _, rfl, L, rs, M, n, Wa, wl, rfl, mB.same sC, G, SqL.of (sBC _ _ hWA), vwl, hW.ne pos, fun HD sD => ?_⟩
  refine ⟨_, rfl, _, _, rfl, rfl, .inl ⟨by decide, by decide⟩, _, _, rfl, rfl, _, rfl, ite2 (fun c => ?_) (fun _ => ?_)⟩
  · exfalso
    have := of_decide_eq_true c
    omega
  refine ⟨_, rfl, _, rfl, L, rs, M, n, Pa, pl, rfl, mB.same (sC.trans sD), G, SqL.of (sD _ _ (sBC _ _ hPA)), vpl, hP.1.ne pos, fun HE sE => ?_⟩
  refine ⟨_, rfl, _, rfl, _, _, rfl, rfl, _, _, rfl, rfl, _, rfl, ite2 (fun c => ?_) (fun _ => ?_)⟩
  · exfalso
    have := of_decide_eq_true c
    omega
  have sDE := sD.trans sE
  have sCE := sC.trans sDE
  refine ⟨_, rfl, _, rfl, L, rs, M, n, Wa, wl, rfl, mB.same sCE, G, SqL.of (sDE _ _ (sBC _ _ hWA)), vwl, hW.ne pos, fun HF sF => ?_⟩
  refine ⟨_, rfl, _, _, rfl, rfl, .inl ⟨by decide, by decide⟩, _, _, rfl, rfl, _, rfl, ite2 (fun c => ?_) (fun _ => ?_)⟩
  · exfalso
    have := of_decide_eq_true c
    omega
  have sCF := sCE.trans sF
  refine ⟨_, rfl, _, rfl, L, rs, M, n, Pa, pl, rfl, mB.same sCF, G, SqL.of ((sDE.trans sF) _ _ (sBC _ _ hPA)), vpl, hP.1.ne pos, fun HG sG => ?_⟩
  refine ⟨_, _, rfl, rfl, .inl ⟨by decide, by decide⟩, _, rfl, _, _, rfl, rfl, .inl ⟨by decide, by decide⟩, _, _, rfl, rfl, _, rfl, ite2 (fun c => ?_) (fun _ => ?_)⟩
  · exfalso
    have := of_decide_eq_true c
    omega
  have sCG := sCF.trans sG
  have sAG := sB.trans sCG
  -- told
  refine ⟨_, rfl, _, rfl, L, rs, M, n, Db, db, rfl, mB.same sCG, G, SqL.of (sCG _ _ hDb), hdR, fun HH sH => ?_⟩
  refine ⟨_, rfl, iteT ?_⟩
  refine ⟨_, rfl, _, rfl, L, rs, M, n, Wa, wl, rfl, mB.same (sCG.trans sH), G, SqL.of (sH _ _ (sAG _ _ hWA)), hW, fun HI sI => ?_⟩
  refine ⟨_, rfl, iteT ?_⟩
  refine ⟨_, rfl, _, rfl, L, rs, M, n, Pa, pl, rfl, mB.same (sCG.trans (sH.trans sI)), G, SqL.of (sI _ _ (sH _ _ (sAG _ _ hPA))), hP.1, fun HJ sJ => ?_⟩
  exact q HJ
end
/-! ### what the top has written; the law's own head -/
/-- a def of the top, by what is seen of it -/
theorem def_mk {K : PySem.W.Frag} {h : Heap} {mg : Str → Option Value} {x : Str} {st : Stmt} {f : Addr} {oc : Value} {od an : Option Addr} {osl : Array (Option Value)} {kV doc pm cdv ct : Value} (X : K.In h) (G : h.Ns mainGlobals mg)
    (a : PySem.W.nsIn K mainGlobals x = some (some (.ref f))) (l : K.lookup f = some ⟨oc, od, .func (PySem.W.fnOf x x (C8.fnArgs st) (C8.fnBody st) (C8.fnScope st) .none kV doc pm an cdv ct), osl⟩) (c : PySem.W.codeIn K cdv x = true) (k : PySem.W.keepIn K (.ref f) = true) :
    C8.Def K mg x st f (PySem.W.fnOf x x (C8.fnArgs st) (C8.fnBody st) (C8.fnScope st) .none kV doc pm an cdv ct) := ⟨⟨oc, od, .none, kV, doc, pm, an, cdv, ct, osl, rfl, l, c⟩, PySem.W.mg_of X G a, k⟩
theorem all_mk {l : PySem.W.OpenLaw} {w : World} {K : PySem.W.Frag} {h : Heap} {mg : Str → Option Value} {fa f1 f2 f3 f4 f5 f6 f7 f8 f9 f10 f11 f12 f13 f14 f15 f16 f17 f18 f19 f20 f21 f22 f23 f24 f25 f26 f27 : Addr} (X : K.In h) (G : h.Ns mainGlobals mg) (hfa : mg "law" = some (.ref fa))
    {od1 an1 od2 an2 od3 an3 od4 an4 od5 an5 od6 an6 od7 an7 od8 an8 od9 an9 od10 an10 od11 an11 od12 an12 od13 an13 od14 an14 od15 an15 od16 an16 od17 an17 od18 an18 od19 an19 od20 an20 od21 an21 od22 an22 od23 an23 od24 an24 od25 an25 od26 an26 od27 an27 : Option Addr} {sl1 sl2 sl3 sl4 sl5 sl6 sl7 sl8 sl9 sl10 sl11 sl12 sl13 sl14 sl15 sl16 sl17 sl18 sl19 sl20 sl21 sl22 sl23 sl24 sl25 sl26 sl27 : Array (Option Value)} {oc1 kV1 dc1 pm1 cd1 ct1 oc2 kV2 dc2 pm2 cd2 ct2 oc3 kV3 dc3 pm3 cd3 ct3 oc4 kV4 dc4 pm4 cd4 ct4 oc5 kV5 dc5 pm5 cd5 ct5 oc6 kV6 dc6 pm6 cd6 ct6 oc7 kV7 dc7 pm7 cd7 ct7 oc8 kV8 dc8 pm8 cd8 ct8 oc9 kV9 dc9 pm9 cd9 ct9 oc10 kV10 dc10 pm10 cd10 ct10 oc11 kV11 dc11 pm11 cd11 ct11 oc12 kV12 dc12 pm12 cd12 ct12 oc13 kV13 dc13 pm13 cd13 ct13 oc14 kV14 dc14 pm14 cd14 ct14 oc15 kV15 dc15 pm15 cd15 ct15 oc16 kV16 dc16 pm16 cd16 ct16 oc17 kV17 dc17 pm17 cd17 ct17 oc18 kV18 dc18 pm18 cd18 ct18 oc19 kV19 dc19 pm19 cd19 ct19 oc20 kV20 dc20 pm20 cd20 ct20 oc21 kV21 dc21 pm21 cd21 ct21 oc22 kV22 dc22 pm22 cd22 ct22 oc23 kV23 dc23 pm23 cd23 ct23 oc24 kV24 dc24 pm24 cd24 ct24 oc25 kV25 dc25 pm25 cd25 ct25 oc26 kV26 dc26 pm26 cd26 ct26 oc27 kV27 dc27 pm27 cd27 ct27 : Value}
    (a1 : PySem.W.nsIn K mainGlobals "alike_both_ways" = some (some (.ref f1))) (l1 : K.lookup f1 = some ⟨oc1, od1, .func (PySem.W.fnOf "alike_both_ways" "alike_both_ways" (C8.fnArgs sAlikeBothWays) (C8.fnBody sAlikeBothWays) (C8.fnScope sAlikeBothWays) .none kV1 dc1 pm1 an1 cd1 ct1), sl1⟩) (c1 : PySem.W.codeIn K cd1 "alike_both_ways" = true) (k1 : PySem.W.keepIn K (.ref f1) = true)
    (a2 : PySem.W.nsIn K mainGlobals "straight_is_least" = some (some (.ref f2))) (l2 : K.lookup f2 = some ⟨oc2, od2, .func (PySem.W.fnOf "straight_is_least" "straight_is_least" (C8.fnArgs sStraightIsLeast) (C8.fnBody sStraightIsLeast) (C8.fnScope sStraightIsLeast) .none kV2 dc2 pm2 an2 cd2 ct2), sl2⟩) (c2 : PySem.W.codeIn K cd2 "straight_is_least" = true) (k2 : PySem.W.keepIn K (.ref f2) = true)
    (a3 : PySem.W.nsIn K mainGlobals "look_at" = some (some (.ref f3))) (l3 : K.lookup f3 = some ⟨oc3, od3, .func (PySem.W.fnOf "look_at" "look_at" (C8.fnArgs sLookAt) (C8.fnBody sLookAt) (C8.fnScope sLookAt) .none kV3 dc3 pm3 an3 cd3 ct3), sl3⟩) (c3 : PySem.W.codeIn K cd3 "look_at" = true) (k3 : PySem.W.keepIn K (.ref f3) = true)
    (a4 : PySem.W.nsIn K mainGlobals "way_length" = some (some (.ref f4))) (l4 : K.lookup f4 = some ⟨oc4, od4, .func (PySem.W.fnOf "way_length" "way_length" (C8.fnArgs sWayLength) (C8.fnBody sWayLength) (C8.fnScope sWayLength) .none kV4 dc4 pm4 an4 cd4 ct4), sl4⟩) (c4 : PySem.W.codeIn K cd4 "way_length" = true) (k4 : PySem.W.keepIn K (.ref f4) = true)
    (a5 : PySem.W.nsIn K mainGlobals "round_length" = some (some (.ref f5))) (l5 : K.lookup f5 = some ⟨oc5, od5, .func (PySem.W.fnOf "round_length" "round_length" (C8.fnArgs sRoundLength) (C8.fnBody sRoundLength) (C8.fnScope sRoundLength) .none kV5 dc5 pm5 an5 cd5 ct5), sl5⟩) (c5 : PySem.W.codeIn K cd5 "round_length" = true) (k5 : PySem.W.keepIn K (.ref f5) = true)
    (a6 : PySem.W.nsIn K mainGlobals "roads_length" = some (some (.ref f6))) (l6 : K.lookup f6 = some ⟨oc6, od6, .func (PySem.W.fnOf "roads_length" "roads_length" (C8.fnArgs sRoadsLength) (C8.fnBody sRoadsLength) (C8.fnScope sRoadsLength) .none kV6 dc6 pm6 an6 cd6 ct6), sl6⟩) (c6 : PySem.W.codeIn K cd6 "roads_length" = true) (k6 : PySem.W.keepIn K (.ref f6) = true)
    (a7 : PySem.W.nsIn K mainGlobals "odd_ends" = some (some (.ref f7))) (l7 : K.lookup f7 = some ⟨oc7, od7, .func (PySem.W.fnOf "odd_ends" "odd_ends" (C8.fnArgs sOddEnds) (C8.fnBody sOddEnds) (C8.fnScope sOddEnds) .none kV7 dc7 pm7 an7 cd7 ct7), sl7⟩) (c7 : PySem.W.codeIn K cd7 "odd_ends" = true) (k7 : PySem.W.keepIn K (.ref f7) = true)
    (a8 : PySem.W.nsIn K mainGlobals "paired_least" = some (some (.ref f8))) (l8 : K.lookup f8 = some ⟨oc8, od8, .func (PySem.W.fnOf "paired_least" "paired_least" (C8.fnArgs sPairedLeast) (C8.fnBody sPairedLeast) (C8.fnScope sPairedLeast) .none kV8 dc8 pm8 an8 cd8 ct8), sl8⟩) (c8 : PySem.W.codeIn K cd8 "paired_least" = true) (k8 : PySem.W.keepIn K (.ref f8) = true)
    (a9 : PySem.W.nsIn K mainGlobals "least_pairing" = some (some (.ref f9))) (l9 : K.lookup f9 = some ⟨oc9, od9, .func (PySem.W.fnOf "least_pairing" "least_pairing" (C8.fnArgs sLeastPairing) (C8.fnBody sLeastPairing) (C8.fnScope sLeastPairing) .none kV9 dc9 pm9 an9 cd9 ct9), sl9⟩) (c9 : PySem.W.codeIn K cd9 "least_pairing" = true) (k9 : PySem.W.keepIn K (.ref f9) = true)
    (a10 : PySem.W.nsIn K mainGlobals "next_road" = some (some (.ref f10))) (l10 : K.lookup f10 = some ⟨oc10, od10, .func (PySem.W.fnOf "next_road" "next_road" (C8.fnArgs sNextRoad) (C8.fnBody sNextRoad) (C8.fnScope sNextRoad) .none kV10 dc10 pm10 an10 cd10 ct10), sl10⟩) (c10 : PySem.W.codeIn K cd10 "next_road" = true) (k10 : PySem.W.keepIn K (.ref f10) = true)
    (a11 : PySem.W.nsIn K mainGlobals "least_tree" = some (some (.ref f11))) (l11 : K.lookup f11 = some ⟨oc11, od11, .func (PySem.W.fnOf "least_tree" "least_tree" (C8.fnArgs sLeastTree) (C8.fnBody sLeastTree) (C8.fnScope sLeastTree) .none kV11 dc11 pm11 an11 cd11 ct11), sl11⟩) (c11 : PySem.W.codeIn K cd11 "least_tree" = true) (k11 : PySem.W.keepIn K (.ref f11) = true)
    (a12 : PySem.W.nsIn K mainGlobals "with_all_behind" = some (some (.ref f12))) (l12 : K.lookup f12 = some ⟨oc12, od12, .func (PySem.W.fnOf "with_all_behind" "with_all_behind" (C8.fnArgs sWithAllBehind) (C8.fnBody sWithAllBehind) (C8.fnScope sWithAllBehind) .none kV12 dc12 pm12 an12 cd12 ct12), sl12⟩) (c12 : PySem.W.codeIn K cd12 "with_all_behind" = true) (k12 : PySem.W.keepIn K (.ref f12) = true)
    (a13 : PySem.W.nsIn K mainGlobals "walked_round" = some (some (.ref f13))) (l13 : K.lookup f13 = some ⟨oc13, od13, .func (PySem.W.fnOf "walked_round" "walked_round" (C8.fnArgs sWalkedRound) (C8.fnBody sWalkedRound) (C8.fnScope sWalkedRound) .none kV13 dc13 pm13 an13 cd13 ct13), sl13⟩) (c13 : PySem.W.codeIn K cd13 "walked_round" = true) (k13 : PySem.W.keepIn K (.ref f13) = true)
    (a14 : PySem.W.nsIn K mainGlobals "first_joined" = some (some (.ref f14))) (l14 : K.lookup f14 = some ⟨oc14, od14, .func (PySem.W.fnOf "first_joined" "first_joined" (C8.fnArgs sFirstJoined) (C8.fnBody sFirstJoined) (C8.fnScope sFirstJoined) .none kV14 dc14 pm14 an14 cd14 ct14), sl14⟩) (c14 : PySem.W.codeIn K cd14 "first_joined" = true) (k14 : PySem.W.keepIn K (.ref f14) = true)
    (a15 : PySem.W.nsIn K mainGlobals "closed_walk" = some (some (.ref f15))) (l15 : K.lookup f15 = some ⟨oc15, od15, .func (PySem.W.fnOf "closed_walk" "closed_walk" (C8.fnArgs sClosedWalk) (C8.fnBody sClosedWalk) (C8.fnScope sClosedWalk) .none kV15 dc15 pm15 an15 cd15 ct15), sl15⟩) (c15 : PySem.W.codeIn K cd15 "closed_walk" = true) (k15 : PySem.W.keepIn K (.ref f15) = true)
    (a16 : PySem.W.nsIn K mainGlobals "paired_round" = some (some (.ref f16))) (l16 : K.lookup f16 = some ⟨oc16, od16, .func (PySem.W.fnOf "paired_round" "paired_round" (C8.fnArgs sPairedRound) (C8.fnBody sPairedRound) (C8.fnScope sPairedRound) .none kV16 dc16 pm16 an16 cd16 ct16), sl16⟩) (c16 : PySem.W.codeIn K cd16 "paired_round" = true) (k16 : PySem.W.keepIn K (.ref f16) = true)
    (a17 : PySem.W.nsIn K mainGlobals "_law_cell_at" = some (some (.ref f17))) (l17 : K.lookup f17 = some ⟨oc17, od17, .func (PySem.W.fnOf "_law_cell_at" "_law_cell_at" (C8.fnArgs sLawCellAt) (C8.fnBody sLawCellAt) (C8.fnScope sLawCellAt) .none kV17 dc17 pm17 an17 cd17 ct17), sl17⟩) (c17 : PySem.W.codeIn K cd17 "_law_cell_at" = true) (k17 : PySem.W.keepIn K (.ref f17) = true)
    (a18 : PySem.W.nsIn K mainGlobals "_law_number" = some (some (.ref f18))) (l18 : K.lookup f18 = some ⟨oc18, od18, .func (PySem.W.fnOf "_law_number" "_law_number" (C8.fnArgs sLawNumber) (C8.fnBody sLawNumber) (C8.fnScope sLawNumber) .none kV18 dc18 pm18 an18 cd18 ct18), sl18⟩) (c18 : PySem.W.codeIn K cd18 "_law_number" = true) (k18 : PySem.W.keepIn K (.ref f18) = true)
    (a19 : PySem.W.nsIn K mainGlobals "_law_grid" = some (some (.ref f19))) (l19 : K.lookup f19 = some ⟨oc19, od19, .func (PySem.W.fnOf "_law_grid" "_law_grid" (C8.fnArgs sLawGrid) (C8.fnBody sLawGrid) (C8.fnScope sLawGrid) .none kV19 dc19 pm19 an19 cd19 ct19), sl19⟩) (c19 : PySem.W.codeIn K cd19 "_law_grid" = true) (k19 : PySem.W.keepIn K (.ref f19) = true)
    (a20 : PySem.W.nsIn K mainGlobals "_law_shortest" = some (some (.ref f20))) (l20 : K.lookup f20 = some ⟨oc20, od20, .func (PySem.W.fnOf "_law_shortest" "_law_shortest" (C8.fnArgs sLawShortest) (C8.fnBody sLawShortest) (C8.fnScope sLawShortest) .none kV20 dc20 pm20 an20 cd20 ct20), sl20⟩) (c20 : PySem.W.codeIn K cd20 "_law_shortest" = true) (k20 : PySem.W.keepIn K (.ref f20) = true)
    (a21 : PySem.W.nsIn K mainGlobals "_law_lengths" = some (some (.ref f21))) (l21 : K.lookup f21 = some ⟨oc21, od21, .func (PySem.W.fnOf "_law_lengths" "_law_lengths" (C8.fnArgs sLawLengths) (C8.fnBody sLawLengths) (C8.fnScope sLawLengths) .none kV21 dc21 pm21 an21 cd21 ct21), sl21⟩) (c21 : PySem.W.codeIn K cd21 "_law_lengths" = true) (k21 : PySem.W.keepIn K (.ref f21) = true)
    (a22 : PySem.W.nsIn K mainGlobals "_law_round" = some (some (.ref f22))) (l22 : K.lookup f22 = some ⟨oc22, od22, .func (PySem.W.fnOf "_law_round" "_law_round" (C8.fnArgs sLawRound) (C8.fnBody sLawRound) (C8.fnScope sLawRound) .none kV22 dc22 pm22 an22 cd22 ct22), sl22⟩) (c22 : PySem.W.codeIn K cd22 "_law_round" = true) (k22 : PySem.W.keepIn K (.ref f22) = true)
    (a23 : PySem.W.nsIn K mainGlobals "_law_sum" = some (some (.ref f23))) (l23 : K.lookup f23 = some ⟨oc23, od23, .func (PySem.W.fnOf "_law_sum" "_law_sum" (C8.fnArgs sLawSum) (C8.fnBody sLawSum) (C8.fnScope sLawSum) .none kV23 dc23 pm23 an23 cd23 ct23), sl23⟩) (c23 : PySem.W.codeIn K cd23 "_law_sum" = true) (k23 : PySem.W.keepIn K (.ref f23) = true)
    (a24 : PySem.W.nsIn K mainGlobals "_law_roads_sum" = some (some (.ref f24))) (l24 : K.lookup f24 = some ⟨oc24, od24, .func (PySem.W.fnOf "_law_roads_sum" "_law_roads_sum" (C8.fnArgs sLawRoadsSum) (C8.fnBody sLawRoadsSum) (C8.fnScope sLawRoadsSum) .none kV24 dc24 pm24 an24 cd24 ct24), sl24⟩) (c24 : PySem.W.codeIn K cd24 "_law_roads_sum" = true) (k24 : PySem.W.keepIn K (.ref f24) = true)
    (a25 : PySem.W.nsIn K mainGlobals "_law_is_round" = some (some (.ref f25))) (l25 : K.lookup f25 = some ⟨oc25, od25, .func (PySem.W.fnOf "_law_is_round" "_law_is_round" (C8.fnArgs sLawIsRound) (C8.fnBody sLawIsRound) (C8.fnScope sLawIsRound) .none kV25 dc25 pm25 an25 cd25 ct25), sl25⟩) (c25 : PySem.W.codeIn K cd25 "_law_is_round" = true) (k25 : PySem.W.keepIn K (.ref f25) = true)
    (a26 : PySem.W.nsIn K mainGlobals "_law_told" = some (some (.ref f26))) (l26 : K.lookup f26 = some ⟨oc26, od26, .func (PySem.W.fnOf "_law_told" "_law_told" (C8.fnArgs sLawTold) (C8.fnBody sLawTold) (C8.fnScope sLawTold) .none kV26 dc26 pm26 an26 cd26 ct26), sl26⟩) (c26 : PySem.W.codeIn K cd26 "_law_told" = true) (k26 : PySem.W.keepIn K (.ref f26) = true)
    (a27 : PySem.W.nsIn K mainGlobals "law" = some (some (.ref f27))) (l27 : K.lookup f27 = some ⟨oc27, od27, .func (PySem.W.fnOf "law" "law" (C8.fnArgs sLaw) (C8.fnBody sLaw) (C8.fnScope sLaw) .none kV27 dc27 pm27 an27 cd27 ct27), sl27⟩) (c27 : PySem.W.codeIn K cd27 "law" = true) (k27 : PySem.W.keepIn K (.ref f27) = true)
    (z0 : PySem.W.nsIn K mainGlobals "len" = some none) (z1 : PySem.W.nsIn K mainGlobals "range" = some none) (z2 : PySem.W.nsIn K mainGlobals "sorted" = some none) (z3 : PySem.W.nsIn K mainGlobals "abs" = some none) (z4 : PySem.W.nsIn K mainGlobals "min" = some none) (z5 : PySem.W.nsIn K mainGlobals "list" = some none) (z6 : PySem.W.nsIn K mainGlobals "int" = some none) (z7 : PySem.W.nsIn K mainGlobals "bool" = some none) (z8 : PySem.W.nsIn K mainGlobals "isinstance" = some none) (z9 : PySem.W.nsIn K mainGlobals "zip" = some none) (z10 : PySem.W.nsIn K mainGlobals "enumerate" = some none) :
    ∃ fd : FuncData, (∀ (s : Shared) (v : Value), BindsTo s fd ⟨[v], []⟩ [("_law_script", v)]) ∧ ∀ base : Heap, K.In base → base.Ns mainGlobals mg → FnOk l.prog w K mg base C8.CX0 14 fa fd ["_law_script"] (spLaw K) := by
  have e := hfa.symm.trans (PySem.W.mg_of X G a27)
  cases e
  have T : Txt mg := ⟨PySem.W.mg_none_of X G z0, PySem.W.mg_none_of X G z1, PySem.W.mg_none_of X G z2, PySem.W.mg_none_of X G z3, PySem.W.mg_none_of X G z4, PySem.W.mg_none_of X G z5, PySem.W.mg_none_of X G z6, PySem.W.mg_none_of X G z7, PySem.W.mg_none_of X G z8, PySem.W.mg_none_of X G z9, PySem.W.mg_none_of X G z10⟩
  have D1 := def_mk (st := sAlikeBothWays) X G a1 l1 c1 k1
  have b1 := D1.fn.binds rfl (ps := ["lengths", "one", "other"]) fun _ _ _ _ _ _ us hl => match us, hl with | [_, _, _], _ => rfl
  have D2 := def_mk (st := sStraightIsLeast) X G a2 l2 c2 k2
  have b2 := D2.fn.binds rfl (ps := ["lengths", "one", "other"]) fun _ _ _ _ _ _ us hl => match us, hl with | [_, _, _], _ => rfl
  have D3 := def_mk (st := sLookAt) X G a3 l3 c3 k3
  have b3 := D3.fn.binds rfl (ps := ["lengths"]) fun _ _ _ _ _ _ us hl => match us, hl with | [_], _ => rfl
  have D4 := def_mk (st := sWayLength) X G a4 l4 c4 k4
  have b4 := D4.fn.binds rfl (ps := ["lengths", "way"]) fun _ _ _ _ _ _ us hl => match us, hl with | [_, _], _ => rfl
  have D5 := def_mk (st := sRoundLength) X G a5 l5 c5 k5
  have b5 := D5.fn.binds rfl (ps := ["lengths", "way"]) fun _ _ _ _ _ _ us hl => match us, hl with | [_, _], _ => rfl
  have D6 := def_mk (st := sRoadsLength) X G a6 l6 c6 k6
  have b6 := D6.fn.binds rfl (ps := ["lengths", "roads"]) fun _ _ _ _ _ _ us hl => match us, hl with | [_, _], _ => rfl
  have D7 := def_mk (st := sOddEnds) X G a7 l7 c7 k7
  have b7 := D7.fn.binds rfl (ps := ["roads"]) fun _ _ _ _ _ _ us hl => match us, hl with | [_], _ => rfl
  have D8 := def_mk (st := sPairedLeast) X G a8 l8 c8 k8
  have b8 := D8.fn.binds rfl (ps := ["lengths", "some"]) fun _ _ _ _ _ _ us hl => match us, hl with | [_, _], _ => rfl
  have D9 := def_mk (st := sLeastPairing) X G a9 l9 c9 k9
  have b9 := D9.fn.binds rfl (ps := ["lengths", "some"]) fun _ _ _ _ _ _ us hl => match us, hl with | [_, _], _ => rfl
  have D10 := def_mk (st := sNextRoad) X G a10 l10 c10 k10
  have b10 := D10.fn.binds rfl (ps := ["lengths", "within"]) fun _ _ _ _ _ _ us hl => match us, hl with | [_, _], _ => rfl
  have D11 := def_mk (st := sLeastTree) X G a11 l11 c11 k11
  have b11 := D11.fn.binds rfl (ps := ["lengths"]) fun _ _ _ _ _ _ us hl => match us, hl with | [_], _ => rfl
  have D12 := def_mk (st := sWithAllBehind) X G a12 l12 c12 k12
  have b12 := D12.fn.binds rfl (ps := ["roads", "place"]) fun _ _ _ _ _ _ us hl => match us, hl with | [_, _], _ => rfl
  have D13 := def_mk (st := sWalkedRound) X G a13 l13 c13 k13
  have b13 := D13.fn.binds rfl (ps := ["lengths"]) fun _ _ _ _ _ _ us hl => match us, hl with | [_], _ => rfl
  have D14 := def_mk (st := sFirstJoined) X G a14 l14 c14 k14
  have b14 := D14.fn.binds rfl (ps := ["roads", "place"]) fun _ _ _ _ _ _ us hl => match us, hl with | [_, _], _ => rfl
  have D15 := def_mk (st := sClosedWalk) X G a15 l15 c15 k15
  have b15 := D15.fn.binds rfl (ps := ["lengths"]) fun _ _ _ _ _ _ us hl => match us, hl with | [_], _ => rfl
  have D16 := def_mk (st := sPairedRound) X G a16 l16 c16 k16
  have b16 := D16.fn.binds rfl (ps := ["lengths"]) fun _ _ _ _ _ _ us hl => match us, hl with | [_], _ => rfl
  have D17 := def_mk (st := sLawCellAt) X G a17 l17 c17 k17
  have b17 := D17.fn.binds rfl (ps := ["_law_script", "_law_k"]) fun _ _ _ _ _ _ us hl => match us, hl with | [_, _], _ => rfl
  have D18 := def_mk (st := sLawNumber) X G a18 l18 c18 k18
  have b18 := D18.fn.binds rfl (ps := ["_law_script", "_law_k", "_law_top"]) fun _ _ _ _ _ _ us hl => match us, hl with | [_, _, _], _ => rfl
  have D19 := def_mk (st := sLawGrid) X G a19 l19 c19 k19
  have b19 := D19.fn.binds rfl (ps := ["_law_script", "_law_many", "_law_top"]) fun _ _ _ _ _ _ us hl => match us, hl with | [_, _, _], _ => rfl
  have D20 := def_mk (st := sLawShortest) X G a20 l20 c20 k20
  have b20 := D20.fn.binds rfl (ps := ["_law_lengths_here"]) fun _ _ _ _ _ _ us hl => match us, hl with | [_], _ => rfl
  have D21 := def_mk (st := sLawLengths) X G a21 l21 c21 k21
  have b21 := D21.fn.binds rfl (ps := ["_law_script", "_law_most"]) fun _ _ _ _ _ _ us hl => match us, hl with | [_, _], _ => rfl
  have D22 := def_mk (st := sLawRound) X G a22 l22 c22 k22
  have b22 := D22.fn.binds rfl (ps := ["_law_script", "_law_many"]) fun _ _ _ _ _ _ us hl => match us, hl with | [_, _], _ => rfl
  have D23 := def_mk (st := sLawSum) X G a23 l23 c23 k23
  have b23 := D23.fn.binds rfl (ps := ["_law_lengths_here", "_law_way"]) fun _ _ _ _ _ _ us hl => match us, hl with | [_, _], _ => rfl
  have D24 := def_mk (st := sLawRoadsSum) X G a24 l24 c24 k24
  have b24 := D24.fn.binds rfl (ps := ["_law_lengths_here", "_law_roads"]) fun _ _ _ _ _ _ us hl => match us, hl with | [_, _], _ => rfl
  have D25 := def_mk (st := sLawIsRound) X G a25 l25 c25 k25
  have b25 := D25.fn.binds rfl (ps := ["_law_found", "_law_many"]) fun _ _ _ _ _ _ us hl => match us, hl with | [_, _], _ => rfl
  have D26 := def_mk (st := sLawTold) X G a26 l26 c26 k26
  have b26 := D26.fn.binds rfl (ps := ["_law_lengths_here", "_law_way"]) fun _ _ _ _ _ _ us hl => match us, hl with | [_, _], _ => rfl
  have D27 := def_mk (st := sLaw) X G a27 l27 c27 k27
  refine ⟨PySem.W.fnOf "law" "law" (C8.fnArgs sLaw) (C8.fnBody sLaw) (C8.fnScope sLaw) .none kV27 dc27 pm27 an27 cd27 ct27, fun s v => .of_eq rfl, fun base _ _ => ?_⟩
  have cAlikeBothWays := ok_alike (P := l.prog) (w := w) (base := base) D1 b1 T
  have cStraightIsLeast := ok_straight (P := l.prog) (w := w) (base := base) D2 b2 T
  have cLookAt := ok_look (P := l.prog) (w := w) (base := base) D3 b3 T cAlikeBothWays cStraightIsLeast
  have cWayLength := ok_way (P := l.prog) (w := w) (base := base) D4 b4 T
  have cRoundLength := ok_roundl (P := l.prog) (w := w) (base := base) D5 b5 T cWayLength
  have cRoadsLength := ok_roads (P := l.prog) (w := w) (base := base) D6 b6 T
  have cOddEnds := ok_odd (P := l.prog) (w := w) (base := base) D7 b7 T
  have cPairedLeast := ok_pl (P := l.prog) (w := w) (base := base) D8 b8 T cRoadsLength 7
  have cLeastPairing := ok_pairing (P := l.prog) (w := w) (base := base) D9 b9 T cLookAt cPairedLeast
  have cNextRoad := ok_next (P := l.prog) (w := w) (base := base) D10 b10 T
  have cLeastTree := ok_tree (P := l.prog) (w := w) (base := base) D11 b11 T cLookAt cNextRoad
  have cWithAllBehind := ok_behind (P := l.prog) (w := w) (base := base) D12 b12 T 12
  have cWalkedRound := ok_walked (P := l.prog) (w := w) (base := base) D13 b13 T cLeastTree cWithAllBehind
  have cFirstJoined := ok_first (P := l.prog) (w := w) (base := base) D14 b14 T
  have cClosedWalk := ok_closed (P := l.prog) (w := w) (base := base) D15 b15 T cLeastTree cOddEnds cLeastPairing cFirstJoined
  have cPairedRound := ok_paired (P := l.prog) (w := w) (base := base) D16 b16 T cClosedWalk
  have cLawCellAt := ok_cell (P := l.prog) (w := w) (base := base) D17 b17 T
  have cLawNumber := ok_number (P := l.prog) (w := w) (base := base) D18 b18 T cLawCellAt
  have cLawGrid := ok_grid (P := l.prog) (w := w) (base := base) D19 b19 T cLawNumber
  have cLawShortest := ok_short (P := l.prog) (w := w) (base := base) D20 b20 T
  have cLawLengths := ok_lengths (P := l.prog) (w := w) (base := base) D21 b21 T cLawCellAt cLawNumber cLawGrid cLawShortest
  have cLawRound := ok_drawn (P := l.prog) (w := w) (base := base) D22 b22 T cLawNumber
  have cLawSum := ok_sum (P := l.prog) (w := w) (base := base) D23 b23 T
  have cLawRoadsSum := ok_rsum (P := l.prog) (w := w) (base := base) D24 b24 T
  have cLawIsRound := ok_isround (P := l.prog) (w := w) (base := base) D25 b25 T
  have cLawTold := ok_told (P := l.prog) (w := w) (base := base) D26 b26 T cRoundLength cLawSum
  exact ok_law D27 T cLawLengths cLawRound cWalkedRound cPairedRound cLeastTree cLeastPairing cOddEnds cLawIsRound cLawNumber cLawSum cLawRoadsSum cLawTold
end KP
open PySem PySem.W PyProof.Rows
set_option maxRecDepth 100000 in
set_option maxHeartbeats 0 in
theorem PySem.Challenge.cw_goodenough_k19_whole_any_round_holds : PySem.Challenge.rw_goodenough_k19_whole_any_round.Holds := by
  w_on; o_law; k_head; (case hw => w_witness2)
  k_fill
  refine L2.walk_of (l := PySem.Challenge.rw_goodenough_k19_whole_any_round) (n := 63) (k := 14) (x := "_law_script") (CX := fun _ => C8.CX0) (sp := fun w => KP.spLaw _) rfl (by decide) rfl ⟨rfl, by decide, by decide⟩ (fun w h Y => PySem.W.kIn_of Y) ?F (fun _ _ a ns hl _ hS => ⟨a, ns, rfl, hS, hl, fun _ => rfl⟩) (fun _ _ _ _ _ h => h)
  case F =>
    intro w mg fa h KX G hmg
    refine' KP.all_mk KX G hmg ?a1 ?l1 ?c1 ?k1 ?a2 ?l2 ?c2 ?k2 ?a3 ?l3 ?c3 ?k3 ?a4 ?l4 ?c4 ?k4 ?a5 ?l5 ?c5 ?k5 ?a6 ?l6 ?c6 ?k6 ?a7 ?l7 ?c7 ?k7 ?a8 ?l8 ?c8 ?k8 ?a9 ?l9 ?c9 ?k9 ?a10 ?l10 ?c10 ?k10 ?a11 ?l11 ?c11 ?k11 ?a12 ?l12 ?c12 ?k12 ?a13 ?l13 ?c13 ?k13 ?a14 ?l14 ?c14 ?k14 ?a15 ?l15 ?c15 ?k15 ?a16 ?l16 ?c16 ?k16 ?a17 ?l17 ?c17 ?k17 ?a18 ?l18 ?c18 ?k18 ?a19 ?l19 ?c19 ?k19 ?a20 ?l20 ?c20 ?k20 ?a21 ?l21 ?c21 ?k21 ?a22 ?l22 ?c22 ?k22 ?a23 ?l23 ?c23 ?k23 ?a24 ?l24 ?c24 ?k24 ?a25 ?l25 ?c25 ?k25 ?a26 ?l26 ?c26 ?k26 ?a27 ?l27 ?c27 ?k27 ?z0 ?z1 ?z2 ?z3 ?z4 ?z5 ?z6 ?z7 ?z8 ?z9 ?z10
    (case a1 => k_is); (case l1 => k_is); (case c1 => k_is); (case k1 => k_is)
    (case a2 => k_is); (case l2 => k_is); (case c2 => k_is); (case k2 => k_is)
    (case a3 => k_is); (case l3 => k_is); (case c3 => k_is); (case k3 => k_is)
    (case a4 => k_is); (case l4 => k_is); (case c4 => k_is); (case k4 => k_is)
    (case a5 => k_is); (case l5 => k_is); (case c5 => k_is); (case k5 => k_is)
    (case a6 => k_is); (case l6 => k_is); (case c6 => k_is); (case k6 => k_is)
    (case a7 => k_is); (case l7 => k_is); (case c7 => k_is); (case k7 => k_is)
    (case a8 => k_is); (case l8 => k_is); (case c8 => k_is); (case k8 => k_is)
    (case a9 => k_is); (case l9 => k_is); (case c9 => k_is); (case k9 => k_is)
    (case a10 => k_is); (case l10 => k_is); (case c10 => k_is); (case k10 => k_is)
    (case a11 => k_is); (case l11 => k_is); (case c11 => k_is); (case k11 => k_is)
    (case a12 => k_is); (case l12 => k_is); (case c12 => k_is); (case k12 => k_is)
    (case a13 => k_is); (case l13 => k_is); (case c13 => k_is); (case k13 => k_is)
    (case a14 => k_is); (case l14 => k_is); (case c14 => k_is); (case k14 => k_is)
    (case a15 => k_is); (case l15 => k_is); (case c15 => k_is); (case k15 => k_is)
    (case a16 => k_is); (case l16 => k_is); (case c16 => k_is); (case k16 => k_is)
    (case a17 => k_is); (case l17 => k_is); (case c17 => k_is); (case k17 => k_is)
    (case a18 => k_is); (case l18 => k_is); (case c18 => k_is); (case k18 => k_is)
    (case a19 => k_is); (case l19 => k_is); (case c19 => k_is); (case k19 => k_is)
    (case a20 => k_is); (case l20 => k_is); (case c20 => k_is); (case k20 => k_is)
    (case a21 => k_is); (case l21 => k_is); (case c21 => k_is); (case k21 => k_is)
    (case a22 => k_is); (case l22 => k_is); (case c22 => k_is); (case k22 => k_is)
    (case a23 => k_is); (case l23 => k_is); (case c23 => k_is); (case k23 => k_is)
    (case a24 => k_is); (case l24 => k_is); (case c24 => k_is); (case k24 => k_is)
    (case a25 => k_is); (case l25 => k_is); (case c25 => k_is); (case k25 => k_is)
    (case a26 => k_is); (case l26 => k_is); (case c26 => k_is); (case k26 => k_is)
    (case a27 => k_is); (case l27 => k_is); (case c27 => k_is); (case k27 => k_is)
    (case z0 => k_is); (case z1 => k_is); (case z2 => k_is); (case z3 => k_is); (case z4 => k_is); (case z5 => k_is); (case z6 => k_is); (case z7 => k_is); (case z8 => k_is); (case z9 => k_is); (case z10 => k_is)

