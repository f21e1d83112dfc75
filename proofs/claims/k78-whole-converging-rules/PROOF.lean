import PyProof.Rows.All
import Wide.All
import OpenK.AllK
import Wide.FinOn
import HandS.ForMost
import HandS.IsInst
import HandS.Flow
import HandS.Deep
import HandS.Conv
import HandS.Zip
import HandS.TupLe
import HandS.SortKw
import HandS.Defaults
import HandS.TupAny
import HandS.Small
import HandS.Property
import HandS.More
import HandS.Walk
import KE.KDictZip
import KE.DataMinMax
import PySem.Challenge.RW_elenchus_k78_whole_converging_rules
set_option Elab.async false
set_option linter.all false
set_option maxRecDepth 100000
section
set_option maxHeartbeats 4000000
/-! M0: terms and the plain functions over them -/
namespace K78
/-- terms over three constants, one unary and one binary symbol; variables are numbers -/
inductive Tm where
  | v (n : Nat)
  | c (k : Fin 3)
  | f (t : Tm)
  | g (t u : Tm)
  deriving DecidableEq, Inhabited
namespace Tm
/-- the head symbol's place in the menu of names -/
def hd : Tm → Nat
  | v _ => 0
  | c k => k.val
  | f _ => 3
  | g _ _ => 4
def kids : Tm → List Tm
  | v _ => []
  | c _ => []
  | f t => [t]
  | g t u => [t, u]
def isV : Tm → Bool
  | v _ => true
  | _ => false
def size : Tm → Nat
  | v _ => 1
  | c _ => 1
  | f t => 1 + t.size
  | g t u => 1 + t.size + u.size
def nest : Tm → Nat
  | v _ => 1
  | c _ => 1
  | f t => 1 + t.nest
  | g t u => 1 + max t.nest u.nest
/-- how often a variable occurs -/
def cnt (x : Nat) : Tm → Nat
  | v n => if n = x then 1 else 0
  | c _ => 0
  | f t => t.cnt x
  | g t u => t.cnt x + u.cnt x
/-- a variable occurs -/
def has (x : Nat) : Tm → Prop
  | v n => n = x
  | c _ => False
  | f t => t.has x
  | g t u => t.has x ∨ u.has x
/-- weight, by the weights of the five symbols -/
def wt (w : Nat → Nat) : Tm → Nat
  | v _ => 1
  | c k => w k.val
  | f t => w 3 + t.wt w
  | g t u => w 4 + t.wt w + u.wt w
/-- a substitution's effect: every variable has a term -/
def ap (s : Nat → Tm) : Tm → Tm
  | v n => s n
  | c k => c k
  | f t => f (t.ap s)
  | g t u => g (t.ap s) (u.ap s)
def shift (d : Nat) : Tm → Tm
  | v n => v (n + d)
  | c k => c k
  | f t => f (t.shift d)
  | g t u => g (t.shift d) (u.shift d)
/-- the positions of what is no variable, in preorder -/
def plc : Tm → List (List Nat)
  | v _ => []
  | c _ => [[]]
  | f t => [] :: t.plc.map (1 :: ·)
  | g t u => [] :: (t.plc.map (1 :: ·) ++ u.plc.map (2 :: ·))
/-- the subterm at a position (where it is none: the term that was reached) -/
def sat : Tm → List Nat → Tm
  | t, [] => t
  | f t, 1 :: p => t.sat p
  | g t _, 1 :: p => t.sat p
  | g _ u, 2 :: p => u.sat p
  | t, _ :: _ => t
def put : Tm → List Nat → Tm → Tm
  | _, [], r => r
  | f t, 1 :: p, r => f (t.put p r)
  | g t u, 1 :: p, r => g (t.put p r) u
  | g t u, 2 :: p, r => g t (u.put p r)
  | t, _ :: _, _ => t
end Tm
/-- a partial substitution -/
abbrev PSub := Nat → Option Tm
def PSub.tot (s : PSub) : Nat → Tm := fun n => (s n).getD (.v n)
def PSub.set (s : PSub) (n : Nat) (t : Tm) : PSub := fun m => if m = n then some t else s m
def PSub.nil : PSub := fun _ => none
/-- matching, growing a partial substitution -/
def mt : Tm → Tm → PSub → Option PSub
  | .v n, t, s => match s n with
    | some u => if u = t then some s else none
    | none => some (s.set n t)
  | .c k, t, s => if t = .c k then some s else none
  | .f p, .f t, s => mt p t s
  | .g p q, .g t u, s => match mt p t s with
    | some s' => mt q u s'
    | none => none
  | .f _, _, _ => none
  | .g _ _, _, _ => none
abbrev Rule := Tm × Tm
/-- rewriting at a position by the first rule that applies there -/
def stepAt (R : List Rule) (t : Tm) (p : List Nat) : Option Tm :=
  R.findSome? fun r => (mt r.1 (t.sat p) PSub.nil).map fun s => t.put p (r.2.ap s.tot)
/-- one rewriting: the first position at which some rule applies -/
def once (R : List Rule) (t : Tm) : Option Tm := t.plc.findSome? fun p => stepAt R t p
/-- the normal form within n rewritings (none: it takes more than n - 1) -/
def nf (R : List Rule) : Nat → Tm → Option Tm
  | 0, _ => none
  | n + 1, t => match once R t with
    | none => some t
    | some u => nf R n u
end K78
end
section
set_option maxHeartbeats 4000000
/-! M1: substitutions, unifiers -/
namespace K78
theorem ap_congr {s s' : Nat → Tm} : ∀ {t : Tm}, (∀ m, t.has m → s m = s' m) → t.ap s = t.ap s'
  | .v n, h => h n rfl
  | .c _, _ => rfl
  | .f t, h => by simp only [Tm.ap]; rw [ap_congr (t := t) h]
  | .g t u, h => by simp only [Tm.ap]; rw [ap_congr (t := t) fun m q => h m (.inl q), ap_congr (t := u) fun m q => h m (.inr q)]
theorem ap_inj {s s' : Nat → Tm} : ∀ {t : Tm}, t.ap s = t.ap s' → ∀ m, t.has m → s m = s' m
  | .v n, h, m, q => by cases q; exact h
  | .c _, _, m, q => by cases q
  | .f t, h, m, q => by simp only [Tm.ap, Tm.f.injEq] at h; exact ap_inj h m q
  | .g t u, h, m, q => by
    simp only [Tm.ap, Tm.g.injEq] at h
    rcases q with q | q
    · exact ap_inj h.1 m q
    · exact ap_inj h.2 m q
theorem ap_ap (s s' : Nat → Tm) : ∀ t : Tm, (t.ap s).ap s' = t.ap fun n => (s n).ap s'
  | .v _ => rfl
  | .c _ => rfl
  | .f t => by simp only [Tm.ap]; rw [ap_ap s s' t]
  | .g t u => by simp only [Tm.ap]; rw [ap_ap s s' t, ap_ap s s' u]
theorem ap_v : ∀ t : Tm, t.ap Tm.v = t
  | .v _ => rfl
  | .c _ => rfl
  | .f t => by simp only [Tm.ap]; rw [ap_v t]
  | .g t u => by simp only [Tm.ap]; rw [ap_v t, ap_v u]
theorem ap_id {s : Nat → Tm} {t : Tm} (h : ∀ m, t.has m → s m = .v m) : t.ap s = t := by
  rw [ap_congr h, ap_v]
theorem has_ap {s : Nat → Tm} {m : Nat} : ∀ {t : Tm}, (t.ap s).has m ↔ ∃ n, t.has n ∧ (s n).has m
  | .v n => ⟨fun h => ⟨n, rfl, h⟩, fun ⟨_, h1, h2⟩ => by cases h1; exact h2⟩
  | .c _ => ⟨fun h => (by cases h), fun ⟨_, h1, _⟩ => (by cases h1)⟩
  | .f t => by simp only [Tm.ap, Tm.has]; exact has_ap (t := t)
  | .g t u => by
    simp only [Tm.ap, Tm.has]
    rw [has_ap (t := t), has_ap (t := u)]
    constructor
    · rintro (⟨n, h1, h2⟩ | ⟨n, h1, h2⟩)
      · exact ⟨n, .inl h1, h2⟩
      · exact ⟨n, .inr h1, h2⟩
    · rintro ⟨n, h1 | h1, h2⟩
      · exact .inl ⟨n, h1, h2⟩
      · exact .inr ⟨n, h1, h2⟩
theorem size_pos : ∀ t : Tm, 0 < t.size
  | .v _ => Nat.one_pos
  | .c _ => Nat.one_pos
  | .f t => by simp [Tm.size]; omega
  | .g t u => by simp [Tm.size]; omega
theorem size_ap_le (s : Nat → Tm) : ∀ t : Tm, t.size ≤ (t.ap s).size
  | .v n => size_pos _
  | .c _ => Nat.le_refl _
  | .f t => by have := size_ap_le s t; simp [Tm.ap, Tm.size]; omega
  | .g t u => by have := size_ap_le s t; have := size_ap_le s u; simp [Tm.ap, Tm.size]; omega
/-- a variable below the top is smaller -/
theorem size_has {s : Nat → Tm} {m : Nat} : ∀ {t : Tm}, t.has m → (s m).size ≤ (t.ap s).size
  | .v n, h => by cases h; exact Nat.le_refl _
  | .c _, h => by cases h
  | .f t, h => by have := size_has (s := s) (t := t) h; simp [Tm.ap, Tm.size]; omega
  | .g t u, h => by
    simp only [Tm.ap, Tm.size]
    rcases h with h | h
    · have := size_has (s := s) (t := t) h; omega
    · have := size_has (s := s) (t := u) h; omega
theorem occurs_size {s : Nat → Tm} {m : Nat} {t : Tm} (h : t.has m) (n : t.isV = false) : (s m).size < (t.ap s).size := by
  cases t with
  | v _ => cases n
  | c _ => cases h
  | f t => have := size_has (s := s) (t := t) h; simp [Tm.ap, Tm.size]; omega
  | g t u =>
    simp only [Tm.ap, Tm.size]
    rcases h with h | h
    · have := size_has (s := s) (t := t) h; omega
    · have := size_has (s := s) (t := u) h; omega
theorem nest_pos' (t : Tm) : 0 < t.nest := by cases t <;> simp [Tm.nest] <;> omega
theorem nest_ap_le {s : Nat → Tm} {D : Nat} (h1 : 0 < D) (h : ∀ m, (s m).nest ≤ D) : ∀ t : Tm, (t.ap s).nest + 1 ≤ t.nest + D
  | .v n => by have := h n; simp only [Tm.ap, Tm.nest]; omega
  | .c _ => by simp [Tm.ap, Tm.nest]; omega
  | .f t => by have := nest_ap_le h1 h t; simp only [Tm.ap, Tm.nest]; omega
  | .g t u => by have := nest_ap_le h1 h t; have := nest_ap_le h1 h u; simp only [Tm.ap, Tm.nest]; omega
theorem nest_le_ap (s : Nat → Tm) : ∀ t : Tm, t.nest ≤ (t.ap s).nest
  | .v n => nest_pos' _
  | .c _ => Nat.le_refl _
  | .f t => by have := nest_le_ap s t; simp [Tm.ap, Tm.nest]; omega
  | .g t u => by have := nest_le_ap s t; have := nest_le_ap s u; simp [Tm.ap, Tm.nest]; omega
/-- one variable alone -/
def single (n : Nat) (r : Tm) : Nat → Tm := fun m => if m = n then r else .v m
theorem single_self (n : Nat) (r : Tm) : single n r n = r := by unfold single; rw [if_pos rfl]
theorem single_ne {n m : Nat} {r : Tm} (h : m ≠ n) : single n r m = .v m := by unfold single; rw [if_neg h]
/-- unifiers -/
def Unif (s t : Tm) (θ : Nat → Tm) : Prop := s.ap θ = t.ap θ
/-- most general, in the strong form -/
structure IsMgu (s t : Tm) (σ : Nat → Tm) : Prop where
  un : Unif s t σ
  most : ∀ θ, Unif s t θ → ∀ n, (σ n).ap θ = θ n
/-! ### one turn after another: what was bound, what is still to be made equal -/
abbrev Eqs := List (Tm × Tm)
structure UInv (s t : Tm) (σ : Nat → Tm) (W : Eqs) : Prop where
  nv : ∀ m k, (σ m).has k → σ k = .v k
  most : ∀ θ, Unif s t θ → (∀ n, (σ n).ap θ = θ n) ∧ ∀ e, e ∈ W → Unif e.1 e.2 θ
  back : ∀ θ, (∀ n, (σ n).ap θ = θ n) → (∀ e, e ∈ W → Unif e.1 e.2 θ) → Unif s t θ
theorem UInv.start (s t : Tm) : UInv s t Tm.v [(s, t)] where
  nv := fun m k h => rfl
  most := fun θ h => ⟨fun n => rfl, fun e he => by rw [List.mem_singleton] at he; subst he; exact h⟩
  back := fun θ _ h => h _ (List.mem_singleton.mpr rfl)
theorem UInv.done {s t : Tm} {σ : Nat → Tm} (I : UInv s t σ []) : IsMgu s t σ :=
  ⟨I.back σ (fun n => ap_id fun m h => I.nv n m h) fun e he => (by cases he), fun θ h => (I.most θ h).1⟩
section
variable {s t a b : Tm} {σ : Nat → Tm} {W : Eqs}
theorem ap_fix {θ : Nat → Tm} (h : ∀ n, (σ n).ap θ = θ n) (a : Tm) : (a.ap σ).ap θ = a.ap θ := by
  rw [ap_ap]; exact ap_congr fun m _ => h m
theorem UInv.both (I : UInv s t σ ((a, b) :: W)) {θ : Nat → Tm} (h : Unif s t θ) : (a.ap σ).ap θ = (b.ap σ).ap θ := by
  obtain ⟨h1, h2⟩ := I.most θ h
  rw [ap_fix h1, ap_fix h1]
  exact h2 _ (List.mem_cons_self ..)
theorem UInv.equal (I : UInv s t σ ((a, b) :: W)) (e : a.ap σ = b.ap σ) : UInv s t σ W where
  nv := I.nv
  most := fun θ h => ⟨(I.most θ h).1, fun e he => (I.most θ h).2 e (List.mem_cons_of_mem _ he)⟩
  back := fun θ h1 h2 => I.back θ h1 fun e' he => by
    rcases List.mem_cons.mp he with rfl | he
    · show a.ap θ = b.ap θ
      rw [← ap_fix h1 a, ← ap_fix h1 b, e]
    · exact h2 e' he
theorem ap_kids' (t : Tm) (s : Nat → Tm) (n : t.isV = false) : (t.ap s).isV = false ∧ (t.ap s).hd = t.hd ∧ (t.ap s).kids = t.kids.map (Tm.ap s) := by
  cases t with
  | v _ => cases n
  | c _ => exact ⟨rfl, rfl, rfl⟩
  | f _ => exact ⟨rfl, rfl, rfl⟩
  | g _ _ => exact ⟨rfl, rfl, rfl⟩
/-- two terms with one head are equal if their arguments are -/
theorem eq_kids {t u : Tm} (nt : t.isV = false) (nu : u.isV = false) : t = u ↔ t.hd = u.hd ∧ t.kids = u.kids := by
  constructor
  · rintro rfl; exact ⟨rfl, rfl⟩
  · rintro ⟨h, k⟩
    cases t with
    | v _ => cases nt
    | c i =>
      cases u with
      | v _ => cases nu
      | c j => exact congrArg Tm.c (Fin.ext h)
      | f _ => exact absurd h (by simp only [Tm.hd]; omega)
      | g _ _ => exact absurd h (by simp only [Tm.hd]; omega)
    | f a =>
      cases u with
      | v _ => cases nu
      | c j => exact absurd h (by simp only [Tm.hd]; omega)
      | f b => simp only [Tm.kids, List.cons.injEq, and_true] at k; rw [k]
      | g _ _ => exact absurd h (by simp only [Tm.hd]; omega)
    | g a b =>
      cases u with
      | v _ => cases nu
      | c j => exact absurd h (by simp only [Tm.hd]; omega)
      | f b => exact absurd h (by simp only [Tm.hd]; omega)
      | g c d => simp only [Tm.kids, List.cons.injEq, and_true] at k; rw [k.1, k.2]
theorem kids_len {t u : Tm} (nt : t.isV = false) (nu : u.isV = false) (h : t.hd = u.hd) : t.kids.length = u.kids.length := by
  cases t with
  | v _ => cases nt
  | c i =>
    cases u with
    | v _ => cases nu
    | c j => rfl
    | f _ => exact absurd h (by simp only [Tm.hd]; omega)
    | g _ _ => exact absurd h (by simp only [Tm.hd]; omega)
  | f a =>
    cases u with
    | v _ => cases nu
    | c j => exact absurd h (by simp only [Tm.hd]; omega)
    | f b => rfl
    | g _ _ => exact absurd h (by simp only [Tm.hd]; omega)
  | g a b =>
    cases u with
    | v _ => cases nu
    | c j => exact absurd h (by simp only [Tm.hd]; omega)
    | f b => exact absurd h (by simp only [Tm.hd]; omega)
    | g c d => rfl
theorem map_eq_zip {α : Type} {f : Tm → α} : ∀ {as bs : List Tm}, as.length = bs.length → (as.map f = bs.map f ↔ ∀ e, e ∈ as.zip bs → f e.1 = f e.2)
  | [], [], _ => by simp
  | a :: as, b :: bs, h => by
    have ih := map_eq_zip (f := f) (as := as) (bs := bs) (by simpa using h)
    simp only [List.map_cons, List.cons.injEq, List.zip_cons_cons, List.mem_cons, ih]
    constructor
    · rintro ⟨h1, h2⟩ e (rfl | he)
      · exact h1
      · exact h2 e he
    · intro h
      exact ⟨h (a, b) (.inl rfl), fun e he => h e (.inr he)⟩
theorem unif_kids {t u : Tm} (nt : t.isV = false) (nu : u.isV = false) (h : t.hd = u.hd) (θ : Nat → Tm) : t.ap θ = u.ap θ ↔ ∀ e, e ∈ t.kids.zip u.kids → Unif e.1 e.2 θ := by
  obtain ⟨n1, h1, k1⟩ := ap_kids' t θ nt
  obtain ⟨n2, h2, k2⟩ := ap_kids' u θ nu
  rw [eq_kids n1 n2, h1, h2, k1, k2, map_eq_zip (kids_len nt nu h)]
  exact ⟨fun q => q.2, fun q => ⟨h, q⟩⟩
theorem UInv.split (I : UInv s t σ ((a, b) :: W)) (na : (a.ap σ).isV = false) (nb : (b.ap σ).isV = false) (h : (a.ap σ).hd = (b.ap σ).hd) : UInv s t σ ((a.ap σ).kids.zip (b.ap σ).kids ++ W) where
  nv := I.nv
  most := fun θ hu => ⟨(I.most θ hu).1, fun e he => by
    rcases List.mem_append.mp he with he | he
    · exact (unif_kids na nb h θ).mp (I.both hu) e he
    · exact (I.most θ hu).2 e (List.mem_cons_of_mem _ he)⟩
  back := fun θ h1 h2 => I.back θ h1 fun e' he => by
    rcases List.mem_cons.mp he with rfl | he
    · show a.ap θ = b.ap θ
      rw [← ap_fix h1 a, ← ap_fix h1 b]
      exact (unif_kids na nb h θ).mpr fun e q => h2 e (List.mem_append.mpr (.inl q))
    · exact h2 e' (List.mem_append.mpr (.inr he))
theorem UInv.clash (I : UInv s t σ ((a, b) :: W)) (na : (a.ap σ).isV = false) (nb : (b.ap σ).isV = false) (h : (a.ap σ).hd ≠ (b.ap σ).hd) : ¬ ∃ θ, Unif s t θ := fun ⟨θ, hu⟩ => by
  have e := I.both hu
  obtain ⟨n1, h1, _⟩ := ap_kids' (a.ap σ) θ na
  obtain ⟨n2, h2, _⟩ := ap_kids' (b.ap σ) θ nb
  exact h (by rw [← h1, ← h2, e])
/-- a pair of a variable and another term, in either order -/
def VarPair (l r : Tm) (n : Nat) (u : Tm) : Prop := (l = .v n ∧ r = u) ∨ (l = u ∧ r = .v n)
theorem UInv.var_eq (I : UInv s t σ ((a, b) :: W)) {n : Nat} {u : Tm} (hp : VarPair (a.ap σ) (b.ap σ) n u) {θ : Nat → Tm} (hu : Unif s t θ) : u.ap θ = θ n := by
  have e := I.both hu
  rcases hp with ⟨h1, h2⟩ | ⟨h1, h2⟩
  · rw [h1, h2] at e; exact e.symm
  · rw [h1, h2] at e; exact e
theorem UInv.occurs (I : UInv s t σ ((a, b) :: W)) {n : Nat} {u : Tm} (hp : VarPair (a.ap σ) (b.ap σ) n u) (hne : u ≠ .v n) (ho : u.has n) : ¬ ∃ θ, Unif s t θ := fun ⟨θ, hu⟩ => by
  have e := I.var_eq hp hu
  have nv : u.isV = false := by
    cases u with
    | v m => cases ho; exact absurd rfl hne
    | _ => rfl
  have := occurs_size (s := θ) ho nv
  rw [e] at this
  omega
theorem UInv.nv_ap (I : UInv s t σ W) {a : Tm} {k : Nat} (h : (a.ap σ).has k) : σ k = .v k := by
  obtain ⟨n, _, h2⟩ := has_ap.mp h
  exact I.nv n k h2
theorem UInv.pair_nv (I : UInv s t σ ((a, b) :: W)) {n : Nat} {u : Tm} (hp : VarPair (a.ap σ) (b.ap σ) n u) : σ n = .v n ∧ ∀ k, u.has k → σ k = .v k := by
  rcases hp with ⟨h1, h2⟩ | ⟨h1, h2⟩
  · exact ⟨I.nv_ap (a := a) (by rw [h1]; rfl), fun k hk => I.nv_ap (a := b) (by rw [h2]; exact hk)⟩
  · exact ⟨I.nv_ap (a := b) (by rw [h2]; rfl), fun k hk => I.nv_ap (a := a) (by rw [h1]; exact hk)⟩
theorem UInv.bind (I : UInv s t σ ((a, b) :: W)) {n : Nat} {u : Tm} (hp : VarPair (a.ap σ) (b.ap σ) n u) (ho : ¬ u.has n) : UInv s t (fun m => (σ m).ap (single n u)) W where
  nv := fun m k h => by
    obtain ⟨hn, hu⟩ := I.pair_nv hp
    obtain ⟨j, h1, h2⟩ := has_ap.mp h
    have hj := I.nv m j h1
    show (σ k).ap (single n u) = .v k
    by_cases e : j = n
    · subst e
      rw [single_self] at h2
      have hk : k ≠ j := fun q => ho (q ▸ h2)
      rw [hu k h2]
      show single j u k = .v k
      exact single_ne hk
    · rw [single_ne e] at h2
      have ejk : j = k := h2
      subst ejk
      rw [hj]
      show single n u j = .v j
      exact single_ne e
  most := fun θ h => ⟨fun m => by
      have e := I.var_eq hp h
      rw [ap_ap]
      rw [← (I.most θ h).1 m]
      refine ap_congr fun k _ => ?_
      by_cases q : k = n
      · subst q; rw [single_self]; exact e
      · rw [single_ne q]; rfl, fun e he => (I.most θ h).2 e (List.mem_cons_of_mem _ he)⟩
  back := fun θ h1 h2 => by
    obtain ⟨hn, hu⟩ := I.pair_nv hp
    have e1 : u.ap θ = θ n := by
      have := h1 n
      rw [hn] at this
      rw [← this]
      show u.ap θ = (single n u n).ap θ
      rw [single_self]
    have e2 : ∀ m, (σ m).ap θ = θ m := fun m => by
      rw [← h1 m, ap_ap]
      refine ap_congr fun k _ => ?_
      by_cases q : k = n
      · subst q; rw [single_self]; exact e1.symm
      · rw [single_ne q]; rfl
    refine I.back θ e2 fun e' he => ?_
    rcases List.mem_cons.mp he with rfl | he
    · show a.ap θ = b.ap θ
      rw [← ap_fix e2 a, ← ap_fix e2 b]
      rcases hp with ⟨q1, q2⟩ | ⟨q1, q2⟩
      · rw [q1, q2]; exact e1.symm
      · rw [q1, q2]; exact e1
    · exact h2 e' he
/-- how much is left to be made equal, under a unifier -/
def left (θ : Nat → Tm) (W : Eqs) : Nat := (W.map fun e => (e.1.ap θ).size).sum
theorem left_cons (θ : Nat → Tm) (e : Tm × Tm) (W : Eqs) : left θ (e :: W) = (e.1.ap θ).size + left θ W := by simp [left]
theorem left_append (θ : Nat → Tm) (V W : Eqs) : left θ (V ++ W) = left θ V + left θ W := by simp [left]
theorem left_zip (θ : Nat → Tm) : ∀ {as bs : List Tm}, as.length = bs.length → left θ (as.zip bs) = (as.map fun a => (a.ap θ).size).sum
  | [], [], _ => by simp [left]
  | a :: as, b :: bs, h => by rw [List.zip_cons_cons, left_cons, left_zip θ (by simpa using h)]; simp
theorem size_kids' (t : Tm) : t.size = 1 + (t.kids.map Tm.size).sum := by
  cases t <;> simp [Tm.size, Tm.kids] <;> omega
theorem UInv.left_split (I : UInv s t σ ((a, b) :: W)) {θ : Nat → Tm} (hu : Unif s t θ) (na : (a.ap σ).isV = false) (nb : (b.ap σ).isV = false) (h : (a.ap σ).hd = (b.ap σ).hd) : left θ ((a.ap σ).kids.zip (b.ap σ).kids ++ W) < left θ ((a, b) :: W) := by
  rw [left_append, left_cons, left_zip θ (kids_len na nb h)]
  have e1 : a.ap θ = (a.ap σ).ap θ := (ap_fix (I.most θ hu).1 a).symm
  obtain ⟨_, _, k1⟩ := ap_kids' (a.ap σ) θ na
  show _ < (a.ap θ).size + _
  rw [e1, size_kids', k1, List.map_map]
  have : ((a.ap σ).kids.map (Tm.size ∘ Tm.ap θ)).sum = ((a.ap σ).kids.map fun a => (a.ap θ).size).sum := rfl
  omega
theorem left_tail {θ : Nat → Tm} {e : Tm × Tm} : left θ W < left θ (e :: W) := by
  rw [left_cons]; have := size_pos (e.1.ap θ); omega
end
/-! ### how deep the terms grow -/
/-- M bounds the terms that are bound, and those to be made equal, when the bound is applied -/
structure NBd (σ : Nat → Tm) (W : Eqs) (M : Nat) : Prop where
  im : ∀ m, (σ m).nest ≤ M
  eq : ∀ e, e ∈ W → (e.1.ap σ).nest ≤ M ∧ (e.2.ap σ).nest ≤ M
theorem kid_nest' {t u : Tm} (h : u ∈ t.kids) : u.nest < t.nest := by
  cases t with
  | v _ => cases h
  | c _ => cases h
  | f t => simp only [Tm.kids, List.mem_singleton] at h; subst h; simp only [Tm.nest]; omega
  | g a b => simp only [Tm.kids, List.mem_cons, List.not_mem_nil, or_false] at h; rcases h with rfl | rfl <;> simp only [Tm.nest] <;> omega
theorem kid_has {t u : Tm} {m : Nat} (h : u ∈ t.kids) (q : u.has m) : t.has m := by
  cases t with
  | v _ => cases h
  | c _ => cases h
  | f t => simp only [Tm.kids, List.mem_singleton] at h; subst h; exact q
  | g a b =>
    simp only [Tm.kids, List.mem_cons, List.not_mem_nil, or_false] at h
    rcases h with rfl | rfl
    · exact .inl q
    · exact .inr q
section
variable {s t a b : Tm} {σ : Nat → Tm} {W : Eqs} {M : Nat}
theorem NBd.tail {e : Tm × Tm} (B : NBd σ (e :: W) M) : NBd σ W M := ⟨B.im, fun e' h => B.eq e' (List.mem_cons_of_mem _ h)⟩
theorem NBd.split (I : UInv s t σ ((a, b) :: W)) (B : NBd σ ((a, b) :: W) M) : NBd σ ((a.ap σ).kids.zip (b.ap σ).kids ++ W) M := by
  refine ⟨B.im, fun e he => ?_⟩
  rcases List.mem_append.mp he with he | he
  · obtain ⟨h1, h2⟩ := B.eq (a, b) (List.mem_cons_self ..)
    have k1 := (List.of_mem_zip he).1
    have k2 := (List.of_mem_zip he).2
    have f1 : e.1.ap σ = e.1 := ap_id fun m q => I.nv_ap (a := a) (kid_has k1 q)
    have f2 : e.2.ap σ = e.2 := ap_id fun m q => I.nv_ap (a := b) (kid_has k2 q)
    rw [f1, f2]
    have g1 := kid_nest' k1
    have g2 := kid_nest' k2
    have h1' : (a.ap σ).nest ≤ M := h1
    have h2' : (b.ap σ).nest ≤ M := h2
    exact ⟨by omega, by omega⟩
  · exact B.eq e (List.mem_cons_of_mem _ he)
theorem NBd.bind (hM : 0 < M) (B : NBd σ ((a, b) :: W) M) {n : Nat} {u : Tm} (hu : u.nest ≤ M) : NBd (fun m => (σ m).ap (single n u)) W (2 * M) := by
  have hs : ∀ m, (single n u m).nest ≤ M := fun m => by
    by_cases q : m = n
    · subst q; rw [single_self]; exact hu
    · rw [single_ne q]; exact hM
  refine ⟨fun m => ?_, fun e he => ?_⟩
  · have := nest_ap_le hM hs (σ m); have := B.im m; omega
  · obtain ⟨h1, h2⟩ := B.eq e (List.mem_cons_of_mem _ he)
    rw [← ap_ap, ← ap_ap]
    have := nest_ap_le hM hs (e.1.ap σ)
    have := nest_ap_le hM hs (e.2.ap σ)
    exact ⟨by omega, by omega⟩
end
end K78
end
section
set_option maxHeartbeats 4000000
/-! M2: the graph of terms, plainly: leaders, shapes, what is merged; that the built terms are a most general unifier -/
namespace K78
structure Gr where
  n : Nat
  T : Nat → Tm
  A : Nat → List Nat
  L : Nat → Nat
  S : Nat → Option Nat
  E : Nat → Option Nat
  ks : List Nat
  M : Nat → Nat
  R : Nat → Nat
def upF {α : Type} (f : Nat → α) (i : Nat) (v : α) : Nat → α := fun j => if j = i then v else f j
theorem upF_self {α : Type} (f : Nat → α) (i : Nat) (v : α) : upF f i v i = v := by unfold upF; rw [if_pos rfl]
theorem upF_ne {α : Type} (f : Nat → α) {i j : Nat} (v : α) (h : j ≠ i) : upF f i v j = f j := by unfold upF; rw [if_neg h]
/-- what does not change: the terms, the nodes of their arguments, the variables' nodes -/
structure Gst (G : Gr) : Prop where
  ar : ∀ i, i < G.n → (G.A i).map G.T = (G.T i).kids ∧ ∀ j, j ∈ G.A i → j < i
  nd : G.ks.Nodup
  mn : ∀ v, v ∈ G.ks → G.M v < G.n ∧ G.T (G.M v) = .v v
  mv : ∀ i v, i < G.n → G.T i = .v v → v ∈ G.ks ∧ G.M v = i
/-- the leaders lead to the roots rt; rk falls on the way -/
structure Ld (n : Nat) (L rt rk : Nat → Nat) : Prop where
  out : ∀ i, n ≤ i → rt i = i
  lt : ∀ i, i < n → L i < n
  rl : ∀ i, i < n → rt (L i) = rt i
  eq : ∀ i, i < n → L i = i → rt i = i
  ne : ∀ i, i < n → L i ≠ i → rk (L i) < rk i
section
variable {n : Nat} {L rt rk : Nat → Nat}
theorem Ld.root (h : Ld n L rt rk) : ∀ (k i : Nat), rk i ≤ k → i < n → rt i < n ∧ L (rt i) = rt i ∧ rt (rt i) = rt i
  | k, i, hk, hi => by
    by_cases e : L i = i
    · have := h.eq i hi e
      rw [this]; exact ⟨hi, e, this⟩
    · have h1 := h.ne i hi e
      have h2 := h.rl i hi
      have h3 := h.lt i hi
      match k with
      | 0 => omega
      | k + 1 =>
        have := Ld.root h k (L i) (by omega) h3
        rw [h2] at this
        exact this
theorem Ld.lead (h : Ld n L rt rk) {i : Nat} (hi : i < n) : rt i < n ∧ L (rt i) = rt i ∧ rt (rt i) = rt i := h.root _ i (Nat.le_refl _) hi
/-- a leader that is no root's may be skipped -/
theorem Ld.halve (h : Ld n L rt rk) {i : Nat} (hi : i < n) (e : L i ≠ i) : Ld n (upF L i (L (L i))) rt rk where
  out := h.out
  lt := fun j hj => by
    unfold upF
    by_cases q : j = i
    · rw [if_pos q]; exact h.lt _ (h.lt i hi)
    · rw [if_neg q]; exact h.lt j hj
  rl := fun j hj => by
    unfold upF
    by_cases q : j = i
    · rw [if_pos q, q, h.rl _ (h.lt i hi), h.rl i hi]
    · rw [if_neg q]; exact h.rl j hj
  eq := fun j hj q => by
    by_cases w : j = i
    · subst w
      rw [upF_self] at q
      have h1 := h.ne j hj e
      by_cases z : L (L j) = L j
      · rw [z] at q; exact absurd q e
      · have h2 := h.ne _ (h.lt j hj) z
        rw [q] at h2; omega
    · rw [upF_ne _ _ w] at q; exact h.eq j hj q
  ne := fun j hj q => by
    by_cases w : j = i
    · subst w
      rw [upF_self]
      have h1 := h.ne j hj e
      by_cases z : L (L j) = L j
      · rw [z]; exact h1
      · have h2 := h.ne _ (h.lt j hj) z
        omega
    · rw [upF_ne _ _ w] at q ⊢; exact h.ne j hj q
def linkF (rt : Nat → Nat) (a b : Nat) : Nat → Nat := fun i => if rt i = b then a else rt i
/-- a root becomes another root's -/
theorem Ld.link (h : Ld n L rt rk) {a b : Nat} (ha : a < n) (hb : b < n) (ra : rt a = a) (rb : rt b = b) (ne : a ≠ b) : Ld n (upF L b a) (linkF rt a b) (fun i => if rt i = b then rk i + rk a + 1 else rk i) where
  out := fun i hi => by
    unfold linkF
    have := h.out i hi
    rw [this, if_neg (by omega)]
  lt := fun i hi => by
    unfold upF
    by_cases q : i = b
    · rw [if_pos q]; exact ha
    · rw [if_neg q]; exact h.lt i hi
  rl := fun i hi => by
    by_cases q : i = b
    · subst q
      rw [upF_self]; unfold linkF
      rw [ra, rb, if_neg ne, if_pos rfl]
    · rw [upF_ne _ _ q]; unfold linkF; rw [h.rl i hi]
  eq := fun i hi q => by
    by_cases w : i = b
    · subst w; rw [upF_self] at q; exact absurd q ne
    · rw [upF_ne _ _ w] at q
      have := h.eq i hi q
      unfold linkF; rw [this, if_neg w]
  ne := fun i hi q => by
    by_cases w : i = b
    · subst w
      rw [upF_self]
      show (if rt a = i then _ else _) < (if rt i = i then _ else _)
      rw [ra, rb, if_neg ne, if_pos rfl]; omega
    · rw [upF_ne _ _ w] at q ⊢
      show (if rt (L i) = b then _ else _) < (if rt i = b then _ else _)
      rw [h.rl i hi]
      have := h.ne i hi q
      by_cases z : rt i = b
      · rw [if_pos z, if_pos z]; omega
      · rw [if_neg z, if_neg z]; exact this
theorem Ld.push (h : Ld n L rt rk) : Ld (n + 1) (upF L n n) rt rk where
  out := fun i hi => h.out i (by omega)
  lt := fun i hi => by
    by_cases q : i = n
    · subst q; rw [upF_self]; omega
    · rw [upF_ne _ _ q]; have := h.lt i (by omega); omega
  rl := fun i hi => by
    by_cases q : i = n
    · subst q; rw [upF_self]
    · rw [upF_ne _ _ q]; exact h.rl i (by omega)
  eq := fun i hi e => by
    by_cases q : i = n
    · subst q; exact h.out i (Nat.le_refl _)
    · rw [upF_ne _ _ q] at e; exact h.eq i (by omega) e
  ne := fun i hi e => by
    by_cases q : i = n
    · subst q; rw [upF_self] at e; exact absurd rfl e
    · rw [upF_ne _ _ q] at e ⊢; exact h.ne i (by omega) e
end
/-- shapes and least variables of the classes -/
structure Gdy (G : Gr) (rt : Nat → Nat) : Prop where
  s0 : ∀ r, r < G.n → rt r = r → G.S r = none → ∀ i, i < G.n → rt i = r → (G.T i).isV = true
  s1 : ∀ r s, r < G.n → rt r = r → G.S r = some s → s < G.n ∧ rt s = r ∧ (G.T s).isV = false
  e0 : ∀ r, r < G.n → rt r = r → G.E r = none → ∀ i, i < G.n → rt i = r → (G.T i).isV = false
  e1 : ∀ r m, r < G.n → rt r = r → G.E r = some m → ∃ i, i < G.n ∧ rt i = r ∧ G.T i = .v m
abbrev Prs := List (Nat × Nat)
/-- whatever respects the classes and what is still to be united: nodes of one class have one head, and their arguments go together -/
def Cong (G : Gr) (rt : Nat → Nat) (W : Prs) : Prop := ∀ φ : Nat → Nat, (∀ i, i < G.n → φ (rt i) = φ i) → (∀ e, e ∈ W → φ e.1 = φ e.2) →
  ∀ i, i < G.n → (G.T i).isV = false → ∃ s, G.S (rt i) = some s ∧ (G.T i).hd = (G.T s).hd ∧ (G.A i).map φ = (G.A s).map φ
def Goes (G : Gr) (rt : Nat → Nat) (W : Prs) (a b : Nat) : Prop := ∀ φ : Nat → Nat, (∀ i, i < G.n → φ (rt i) = φ i) → (∀ e, e ∈ W → φ e.1 = φ e.2) → φ a = φ b
/-- a unifier makes each class one term -/
def Resp (G : Gr) (rt : Nat → Nat) (W : Prs) (θ : Nat → Tm) : Prop := (∀ i, i < G.n → (G.T (rt i)).ap θ = (G.T i).ap θ) ∧ ∀ e, e ∈ W → (G.T e.1).ap θ = (G.T e.2).ap θ
def InW (n : Nat) (W : Prs) : Prop := ∀ e, e ∈ W → e.1 < n ∧ e.2 < n
def orE (x y : Option Nat) : Option Nat := match x with
  | none => y
  | some a => some a
/-- what merging makes: b's class goes to a's -/
def merged (G : Gr) (a b : Nat) (e : Option Nat) : Gr := { G with L := upF G.L b a, S := upF G.S a (orE (G.S a) (G.S b)), E := upF G.E a e }
section
variable {G : Gr} {rt rk : Nat → Nat} {W W' : Prs} {a b : Nat}
theorem linkF_eq {rt : Nat → Nat} {a b i r : Nat} (ra : rt a = a) (ne : a ≠ b) (hr : linkF rt a b r = r) (h : linkF rt a b i = r) : (r = a ∧ (rt i = b ∨ rt i = a)) ∨ (r ≠ a ∧ rt i = r ∧ rt r = r) := by
  unfold linkF at h hr
  by_cases q : rt i = b
  · rw [if_pos q] at h; exact .inl ⟨h.symm, .inl q⟩
  · rw [if_neg q] at h
    by_cases z : r = a
    · exact .inl ⟨z, .inr (by rw [h, z])⟩
    · refine .inr ⟨z, h, ?_⟩
      by_cases w : rt r = b
      · rw [if_pos w] at hr; exact absurd hr.symm z
      · rw [if_neg w] at hr; exact hr
theorem Gdy.link (D : Gdy G rt) (ha : a < G.n) (hb : b < G.n) (ra : rt a = a) (rb : rt b = b) (ne : a ≠ b) {e : Option Nat}
    (e1 : G.E a = none → e = G.E b) (e2 : G.E b = none → e = G.E a) (e3 : e = G.E a ∨ e = G.E b) : Gdy (merged G a b e) (linkF rt a b) where
  s0 := fun r hr er hs i hi ei => by
    rcases linkF_eq ra ne er ei with ⟨rfl, q⟩ | ⟨na, q, rr⟩
    · have hs : upF G.S r (orE (G.S r) (G.S b)) r = none := hs
      rw [upF_self] at hs
      cases h1 : G.S r with
      | some s => rw [h1] at hs; cases hs
      | none =>
        rw [h1] at hs
        rcases q with q | q
        · exact D.s0 b hb rb hs i hi q
        · exact D.s0 r hr ra h1 i hi q
    · have hs : upF G.S a (orE (G.S a) (G.S b)) r = none := hs
      rw [upF_ne _ _ na] at hs
      exact D.s0 r hr rr hs i hi q
  s1 := fun r s hr er hs => by
    rcases linkF_eq ra ne er er with ⟨rfl, q⟩ | ⟨na, q, rr⟩
    · have hs : upF G.S r (orE (G.S r) (G.S b)) r = some s := hs
      rw [upF_self] at hs
      cases h1 : G.S r with
      | some s' =>
        rw [h1] at hs
        have hs : s' = s := Option.some.inj hs
        subst hs
        obtain ⟨h2, h3, h4⟩ := D.s1 r s' hr ra h1
        exact ⟨h2, by unfold linkF; rw [h3, if_neg ne], h4⟩
      | none =>
        rw [h1] at hs
        obtain ⟨h2, h3, h4⟩ := D.s1 b s hb rb hs
        exact ⟨h2, by unfold linkF; rw [h3, if_pos rfl], h4⟩
    · have hs : upF G.S a (orE (G.S a) (G.S b)) r = some s := hs
      rw [upF_ne _ _ na] at hs
      obtain ⟨h2, h3, h4⟩ := D.s1 r s hr rr hs
      refine ⟨h2, ?_, h4⟩
      show linkF rt a b s = r
      have : linkF rt a b s = linkF rt a b r := by unfold linkF; rw [h3, rr]
      rw [this]; exact er
  e0 := fun r hr er hs i hi ei => by
    rcases linkF_eq ra ne er ei with ⟨rfl, q⟩ | ⟨na, q, rr⟩
    · have hs : upF G.E r e r = none := hs
      rw [upF_self] at hs
      subst hs
      have q1 : G.E r = none := by
        rcases e3 with h | h
        · exact h.symm
        · rw [← e2 h.symm]
      have q2 : G.E b = none := (e1 q1).symm
      rcases q with q | q
      · exact D.e0 b hb rb q2 i hi q
      · exact D.e0 r hr ra q1 i hi q
    · have hs : upF G.E a e r = none := hs
      rw [upF_ne _ _ na] at hs
      exact D.e0 r hr rr hs i hi q
  e1 := fun r m hr er hs => by
    rcases linkF_eq ra ne er er with ⟨rfl, q⟩ | ⟨na, q, rr⟩
    · have hs : upF G.E r e r = some m := hs
      rw [upF_self] at hs
      subst hs
      rcases e3 with h | h
      · obtain ⟨i, h1, h2, h3⟩ := D.e1 r m hr ra h.symm
        exact ⟨i, h1, by unfold linkF; rw [h2, if_neg ne], h3⟩
      · obtain ⟨i, h1, h2, h3⟩ := D.e1 b m hb rb h.symm
        exact ⟨i, h1, by unfold linkF; rw [h2, if_pos rfl], h3⟩
    · have hs : upF G.E a e r = some m := hs
      rw [upF_ne _ _ na] at hs
      obtain ⟨i, h1, h2, h3⟩ := D.e1 r m hr rr hs
      refine ⟨i, h1, ?_, h3⟩
      show linkF rt a b i = r
      have : linkF rt a b i = linkF rt a b r := by unfold linkF; rw [h2, rr]
      rw [this]; exact er
/-- what respects the merged classes respects the classes -/
theorem link_resp {φ : Nat → Nat} (D : Ld G.n G.L rt rk) (ra : rt a = a) (rb : rt b = b) (hb : b < G.n) (h : ∀ i, i < G.n → φ (linkF rt a b i) = φ i) : (∀ i, i < G.n → φ (rt i) = φ i) ∧ φ a = φ b := by
  have hab : φ a = φ b := by
    have := h b hb
    unfold linkF at this
    rwa [rb, if_pos rfl] at this
  refine ⟨fun i hi => ?_, hab⟩
  have := h i hi
  unfold linkF at this
  by_cases q : rt i = b
  · rw [if_pos q] at this; rw [q, ← hab]; exact this
  · rw [if_neg q] at this; exact this
/-- the pair x, y is taken up: nothing to do -/
theorem Cong.skip (D : Ld G.n G.L rt rk) {x y : Nat} (hx : x < G.n) (hy : y < G.n) (e : rt x = rt y) (h : Cong G rt ((x, y) :: W)) : Cong G rt W := fun φ h1 h2 => h φ h1 fun q hq => by
  rcases List.mem_cons.mp hq with rfl | hq
  · show φ x = φ y
    rw [← h1 x hx, ← h1 y hy, e]
  · exact h2 q hq
theorem Goes.skip {x y u v : Nat} (hx : x < G.n) (hy : y < G.n) (e : rt x = rt y) (h : Goes G rt ((x, y) :: W) u v) : Goes G rt W u v := fun φ h1 h2 => h φ h1 fun q hq => by
  rcases List.mem_cons.mp hq with rfl | hq
  · show φ x = φ y
    rw [← h1 x hx, ← h1 y hy, e]
  · exact h2 q hq
theorem Goes.link (D : Ld G.n G.L rt rk) {x y u v : Nat} (hx : x < G.n) (hy : y < G.n) (hne : rt x ≠ rt y) {e : Option Nat} (h : Goes G rt ((x, y) :: W) u v) (hW : ∀ q, q ∈ W → q ∈ W') : Goes (merged G (rt x) (rt y) e) (linkF rt (rt x) (rt y)) W' u v := fun φ h1 h2 => by
  obtain ⟨_, _, r1⟩ := D.lead hx
  obtain ⟨l2, _, r2⟩ := D.lead hy
  obtain ⟨h3, h4⟩ := link_resp D r1 r2 l2 h1
  refine h φ h3 fun q hq => ?_
  rcases List.mem_cons.mp hq with rfl | hq
  · show φ x = φ y
    rw [← h3 x hx, ← h3 y hy, h4]
  · exact h2 q (hW q hq)
theorem Cong.link (D : Ld G.n G.L rt rk) {x y : Nat} (hx : x < G.n) (hy : y < G.n) (hne : rt x ≠ rt y) {e : Option Nat} (h : Cong G rt ((x, y) :: W)) (hW : ∀ q, q ∈ W → q ∈ W')
    (hz : ∀ s s', G.S (rt x) = some s → G.S (rt y) = some s' → (G.T s).hd = (G.T s').hd ∧ (G.A s).length = (G.A s').length ∧ ∀ q, q ∈ (G.A s).zip (G.A s') → q ∈ W') : Cong (merged G (rt x) (rt y) e) (linkF rt (rt x) (rt y)) W' := fun φ h1 h2 i hi ni => by
  obtain ⟨_, _, r1⟩ := D.lead hx
  obtain ⟨l2, _, r2⟩ := D.lead hy
  obtain ⟨h3, h4⟩ := link_resp D r1 r2 l2 h1
  obtain ⟨s, hs, hh, hm⟩ := h φ h3 (fun q hq => by
    rcases List.mem_cons.mp hq with rfl | hq
    · show φ x = φ y
      rw [← h3 x hx, ← h3 y hy, h4]
    · exact h2 q (hW q hq)) i hi ni
  show ∃ s, upF G.S (rt x) (orE (G.S (rt x)) (G.S (rt y))) (linkF rt (rt x) (rt y) i) = some s ∧ (G.T i).hd = (G.T s).hd ∧ (G.A i).map φ = (G.A s).map φ
  unfold linkF
  by_cases q : rt i = rt y
  · rw [if_pos q, upF_self]
    rw [q] at hs
    cases h5 : G.S (rt x) with
    | none => exact ⟨s, hs, hh, hm⟩
    | some s' =>
      obtain ⟨z1, z2, z3⟩ := hz s' s h5 hs
      refine ⟨s', rfl, by rw [hh, z1], ?_⟩
      rw [hm]
      have key : ∀ {as bs : List Nat}, as.length = bs.length → (∀ q, q ∈ as.zip bs → φ q.1 = φ q.2) → as.map φ = bs.map φ := by
        intro as
        induction as with
        | nil => intro bs hl _; cases bs with
          | nil => rfl
          | cons _ _ => cases hl
        | cons p as ih =>
          intro bs hl hq
          cases bs with
          | nil => cases hl
          | cons p' bs =>
            rw [List.map_cons, List.map_cons, ih (by simpa using hl) fun q hq' => hq q (List.mem_cons_of_mem _ hq')]
            have e1 : φ p = φ p' := hq (p, p') (List.mem_cons_self ..)
            rw [e1]
      exact (key z2 fun q hq => h2 q (z3 q hq)).symm
  · rw [if_neg q]
    by_cases z : rt i = rt x
    · rw [z, upF_self]
      rw [z] at hs
      rw [hs]
      exact ⟨s, rfl, hh, hm⟩
    · rw [upF_ne _ _ z]
      exact ⟨s, hs, hh, hm⟩
theorem Resp.skip {θ : Nat → Tm} {x y : Nat} (h : Resp G rt ((x, y) :: W) θ) : Resp G rt W θ := ⟨h.1, fun q hq => h.2 q (List.mem_cons_of_mem _ hq)⟩
theorem Resp.link {θ : Nat → Tm} {x y : Nat} (hx : x < G.n) (hy : y < G.n) {e : Option Nat} (h : Resp G rt ((x, y) :: W) θ) (hW : ∀ q, q ∈ W' → (G.T q.1).ap θ = (G.T q.2).ap θ) : Resp (merged G (rt x) (rt y) e) (linkF rt (rt x) (rt y)) W' θ := by
  refine ⟨fun i hi => ?_, hW⟩
  show (G.T (linkF rt (rt x) (rt y) i)).ap θ = (G.T i).ap θ
  unfold linkF
  by_cases q : rt i = rt y
  · rw [if_pos q, ← h.1 i hi, q, h.1 x hx, h.1 y hy]
    exact h.2 (x, y) (List.mem_cons_self ..)
  · rw [if_neg q]; exact h.1 i hi
end
end K78
end
section
set_option maxHeartbeats 4000000
/-! M3: what the built terms are; adding nodes; walking the classes from below -/
namespace K78
/-- a class of terms from below: order O, terms B -/
structure Sol (G : Gr) (rt : Nat → Nat) (O : List Nat) (B : Nat → Tm) : Prop where
  inn : ∀ g, g ∈ O → g < G.n ∧ rt g = g
  clo : ∀ g s, g ∈ O → G.S g = some s → ∀ j, j ∈ G.A s → rt j ∈ O
  var : ∀ v, v ∈ G.ks → rt (G.M v) ∈ O
  b0 : ∀ g, g ∈ O → G.S g = none → ∃ m, G.E g = some m ∧ B g = .v m
  b1 : ∀ g s, g ∈ O → G.S g = some s → (B g).isV = false ∧ (B g).hd = (G.T s).hd ∧ (B g).kids = (G.A s).map fun j => B (rt j)
open Classical in
noncomputable def solF (G : Gr) (rt : Nat → Nat) (B : Nat → Tm) : Nat → Tm := fun m => if m ∈ G.ks then B (rt (G.M m)) else .v m
theorem kid_size {t u : Tm} (h : u ∈ t.kids) : u.size < t.size := by
  cases t with
  | v _ => cases h
  | c _ => cases h
  | f t => simp only [Tm.kids, List.mem_singleton] at h; subst h; simp only [Tm.size]; omega
  | g a b => simp only [Tm.kids, List.mem_cons, List.not_mem_nil, or_false] at h; rcases h with rfl | rfl <;> simp only [Tm.size] <;> omega
section
variable {G : Gr} {rt rk : Nat → Nat} {O : List Nat} {B : Nat → Tm}
theorem Gst.kid (g : Gst G) {i j : Nat} (hi : i < G.n) (hj : j ∈ G.A i) : j < G.n ∧ G.T j ∈ (G.T i).kids := by
  obtain ⟨h1, h2⟩ := g.ar i hi
  have := h2 j hj
  exact ⟨by omega, by rw [← h1]; exact List.mem_map.mpr ⟨j, hj, rfl⟩⟩
theorem map_inj {α β : Type} {f g : α → β} : ∀ {l : List α}, (∀ a, a ∈ l → f a = g a) → l.map f = l.map g
  | [], _ => rfl
  | a :: l, h => by rw [List.map_cons, List.map_cons, h a (List.mem_cons_self ..), map_inj fun b hb => h b (List.mem_cons_of_mem _ hb)]
theorem map_back {α β : Type} {f g : α → β} : ∀ {l : List α}, l.map f = l.map g → ∀ a, a ∈ l → f a = g a
  | [], _, a, h => by cases h
  | b :: l, h, a, ha => by
    rw [List.map_cons, List.map_cons, List.cons.injEq] at h
    rcases List.mem_cons.mp ha with rfl | ha
    · exact h.1
    · exact map_back h.2 a ha
/-- the term of a node that the order has is its class's term -/
theorem Sol.at (Z : Sol G rt O B) (g : Gst G) (D : Ld G.n G.L rt rk) (d : Gdy G rt) (c : Cong G rt []) : ∀ (k i : Nat), (G.T i).size ≤ k → i < G.n → rt i ∈ O → (G.T i).ap (solF G rt B) = B (rt i)
  | k, i, hk, hi, hO => by
    cases nv : (G.T i).isV with
    | true =>
      cases e : G.T i with
      | v m =>
        obtain ⟨h1, h2⟩ := g.mv i m hi e
        show solF G rt B m = _
        unfold solF
        rw [if_pos h1, h2]
      | c _ => rw [e] at nv; cases nv
      | f _ => rw [e] at nv; cases nv
      | g _ _ => rw [e] at nv; cases nv
    | false =>
      obtain ⟨s, hs, hh, hm⟩ := c rt (fun j hj => (D.lead hj).2.2) (fun e he => by cases he) i hi nv
      obtain ⟨b1, b2, b3⟩ := Z.b1 (rt i) s hO hs
      obtain ⟨n1, n2, n3⟩ := ap_kids' (G.T i) (solF G rt B) nv
      rw [eq_kids n1 b1, n2, n3, b2, b3]
      refine ⟨hh, ?_⟩
      rw [← (g.ar i hi).1, List.map_map]
      have e1 : (G.A i).map (fun j => B (rt j)) = (G.A s).map fun j => B (rt j) := by
        have := congrArg (List.map B) hm
        rw [List.map_map, List.map_map] at this
        exact this
      rw [← e1]
      refine map_inj fun j hj => ?_
      obtain ⟨h1, h2⟩ := g.kid hi hj
      have h3 := kid_size h2
      match k with
      | 0 => have := size_pos (G.T i); omega
      | k + 1 =>
        refine Sol.at Z g D d c k j (by omega) h1 ?_
        have h4 : rt j ∈ (G.A i).map rt := List.mem_map.mpr ⟨j, hj, rfl⟩
        rw [hm] at h4
        obtain ⟨j', h5, h6⟩ := List.mem_map.mp h4
        rw [← h6]
        exact Z.clo (rt i) s hO hs j' h5
/-- nodes of one class have one term -/
theorem Sol.same (Z : Sol G rt O B) (g : Gst G) (D : Ld G.n G.L rt rk) (d : Gdy G rt) (c : Cong G rt []) : ∀ (k i j : Nat), (G.T i).size ≤ k → i < G.n → j < G.n → rt i = rt j → (G.T i).ap (solF G rt B) = (G.T j).ap (solF G rt B)
  | k, i, j, hk, hi, hj, e => by
    by_cases hO : rt i ∈ O
    · rw [Z.at g D d c _ i (Nat.le_refl _) hi hO, Z.at g D d c _ j (Nat.le_refl _) hj (by rw [← e]; exact hO), e]
    · have nvi : ∀ i', i' < G.n → rt i' = rt i → (G.T i').isV = false := fun i' hi' e' => by
        cases e2 : G.T i' with
        | v m =>
          obtain ⟨h1, h2⟩ := g.mv i' m hi' e2
          have := Z.var m h1
          rw [h2, e'] at this
          exact absurd this hO
        | c _ => rfl
        | f _ => rfl
        | g _ _ => rfl
      have n1 := nvi i hi rfl
      have n2 := nvi j hj e.symm
      obtain ⟨s, hs, hh, hm⟩ := c rt (fun j hj => (D.lead hj).2.2) (fun e he => by cases he) i hi n1
      obtain ⟨s', hs', hh', hm'⟩ := c rt (fun j hj => (D.lead hj).2.2) (fun e he => by cases he) j hj n2
      rw [← e, hs] at hs'
      have es : s = s' := Option.some.inj hs'
      subst es
      obtain ⟨a1, a2, a3⟩ := ap_kids' (G.T i) (solF G rt B) n1
      obtain ⟨b1, b2, b3⟩ := ap_kids' (G.T j) (solF G rt B) n2
      rw [eq_kids a1 b1, a2, b2, a3, b3]
      refine ⟨by rw [hh, hh'], ?_⟩
      rw [← (g.ar i hi).1, ← (g.ar j hj).1, List.map_map, List.map_map]
      have key : ∀ {as bs : List Nat}, as.map rt = bs.map rt → (∀ p, p ∈ as → p < G.n ∧ (G.T p).size < (G.T i).size) → (∀ p, p ∈ bs → p < G.n) → as.map (Tm.ap (solF G rt B) ∘ G.T) = bs.map (Tm.ap (solF G rt B) ∘ G.T) := by
        intro as
        induction as with
        | nil =>
          intro bs hl _ _
          cases bs with
          | nil => rfl
          | cons _ _ => cases hl
        | cons p as ih =>
          intro bs hl ha hb
          cases bs with
          | nil => cases hl
          | cons p' bs =>
            rw [List.map_cons, List.map_cons, List.cons.injEq] at hl
            rw [List.map_cons, List.map_cons, ih hl.2 (fun q hq => ha q (List.mem_cons_of_mem _ hq)) fun q hq => hb q (List.mem_cons_of_mem _ hq)]
            obtain ⟨h1, h2⟩ := ha p (List.mem_cons_self ..)
            have e1 : (G.T p).ap (solF G rt B) = (G.T p').ap (solF G rt B) := by
              match k with
              | 0 => have := size_pos (G.T i); omega
              | k + 1 => exact Sol.same Z g D d c k p p' (by omega) h1 (hb p' (List.mem_cons_self ..)) hl.1
            exact congrArg (· :: _) e1
      exact key (hm.trans hm'.symm) (fun p hp => ⟨(g.kid hi hp).1, kid_size (g.kid hi hp).2⟩) fun p hp => (g.kid hj hp).1
/-- a unifier makes the class's term what it makes the root's -/
theorem Sol.under (Z : Sol G rt O B) (g : Gst G) (D : Ld G.n G.L rt rk) (d : Gdy G rt) {θ : Nat → Tm} (h : Resp G rt [] θ) : ∀ (k r : Nat), ((G.T r).ap θ).size ≤ k → r ∈ O → (B r).ap θ = (G.T r).ap θ
  | k, r, hk, hO => by
    obtain ⟨hr, er⟩ := Z.inn r hO
    cases hs : G.S r with
    | none =>
      obtain ⟨m, h1, h2⟩ := Z.b0 r hO hs
      obtain ⟨i, h3, h4, h5⟩ := d.e1 r m hr er h1
      rw [h2]
      have := h.1 i h3
      rw [h4, h5] at this
      exact this.symm
    | some s =>
      obtain ⟨b1, b2, b3⟩ := Z.b1 r s hO hs
      obtain ⟨s1, s2, s3⟩ := d.s1 r s hr er hs
      have e1 : (G.T r).ap θ = (G.T s).ap θ := by have := h.1 s s1; rw [s2] at this; exact this
      rw [e1] at hk ⊢
      obtain ⟨p1, p2, p3⟩ := ap_kids' (B r) θ b1
      obtain ⟨q1, q2, q3⟩ := ap_kids' (G.T s) θ s3
      rw [eq_kids p1 q1, p2, q2, p3, q3, b3, ← (g.ar s s1).1, List.map_map, List.map_map]
      refine ⟨b2, map_inj fun j hj => ?_⟩
      obtain ⟨h1, h2⟩ := g.kid s1 hj
      have h3 : (G.T j).ap θ ∈ ((G.T s).ap θ).kids := by rw [q3]; exact List.mem_map.mpr ⟨_, h2, rfl⟩
      have h4 := kid_size h3
      have h5 := h.1 j h1
      match k with
      | 0 => have := size_pos ((G.T s).ap θ); omega
      | k + 1 =>
        have := Sol.under Z g D d h k (rt j) (by rw [h5]; omega) (Z.clo r s hO hs j hj)
        show (B (rt j)).ap θ = (G.T j).ap θ
        rw [this, h5]
theorem Sol.mgu (Z : Sol G rt O B) (g : Gst G) (D : Ld G.n G.L rt rk) (d : Gdy G rt) (c : Cong G rt []) {a b : Nat} (ha : a < G.n) (hb : b < G.n) (j : Goes G rt [] a b) (h : ∀ θ, Unif (G.T a) (G.T b) θ → Resp G rt [] θ) : IsMgu (G.T a) (G.T b) (solF G rt B) where
  un := Z.same g D d c _ a b (Nat.le_refl _) ha hb (j rt (fun i hi => (D.lead hi).2.2) fun e he => by cases he)
  most := fun θ hu m => by
    unfold solF
    by_cases q : m ∈ G.ks
    · rw [if_pos q]
      obtain ⟨h1, h2⟩ := g.mn m q
      rw [Z.under g D d (h θ hu) _ _ (Nat.le_refl _) (Z.var m q), (h θ hu).1 _ h1, h2]
      rfl
    · rw [if_neg q]; rfl
end
/-! ### adding nodes -/
/-- before anything was united -/
def Fresh (G : Gr) : Prop := ∀ i, i < G.n → G.L i = i ∧ (G.S i = if (G.T i).isV then none else some i) ∧ G.E i = match G.T i with | .v m => some m | _ => none
def addV (G : Gr) (v r : Nat) : Gr := ⟨G.n + 1, upF G.T G.n (.v v), upF G.A G.n [], upF G.L G.n G.n, upF G.S G.n none, upF G.E G.n (some v), G.ks ++ [v], upF G.M v G.n, upF G.R G.n r⟩
def addN (G : Gr) (t : Tm) (as : List Nat) (r : Nat) : Gr := { G with n := G.n + 1, T := upF G.T G.n t, A := upF G.A G.n as, L := upF G.L G.n G.n, S := upF G.S G.n (some G.n), E := upF G.E G.n none, R := upF G.R G.n r }
def empG : Gr := ⟨0, fun _ => .v 0, fun _ => [], id, fun _ => none, fun _ => none, [], id, id⟩
theorem gst_emp : Gst empG := ⟨fun i h => absurd h (Nat.not_lt_zero i), List.nodup_nil, fun v h => (by cases h), fun i v h => absurd h (Nat.not_lt_zero i)⟩
theorem fresh_emp : Fresh empG := fun i h => absurd h (Nat.not_lt_zero i)
/-- a subterm -/
def Sb (u t : Tm) : Prop := ∀ P : Tm → Prop, P t → (∀ a, P a → ∀ b, b ∈ a.kids → P b) → P u
theorem Sb.refl (t : Tm) : Sb t t := fun P h _ => h
theorem Sb.kid {u t k : Tm} (h : Sb u k) (hk : k ∈ t.kids) : Sb u t := fun P h1 h2 => h P (h2 t h1 k hk) h2
/-- a graph that goes on another -/
structure Ext (G G' : Gr) : Prop where
  n : G.n ≤ G'.n
  T : ∀ i, i < G.n → G'.T i = G.T i
  R : ∀ i, i < G.n → G'.R i = G.R i
theorem Ext.refl (G : Gr) : Ext G G := ⟨Nat.le_refl _, fun _ _ => rfl, fun _ _ => rfl⟩
theorem Ext.trans {G G1 G2 : Gr} (a : Ext G G1) (b : Ext G1 G2) : Ext G G2 := ⟨Nat.le_trans a.n b.n, fun i h => by rw [b.T i (Nat.lt_of_lt_of_le h a.n), a.T i h], fun i h => by rw [b.R i (Nat.lt_of_lt_of_le h a.n), a.R i h]⟩
section
variable {G : Gr}
theorem ext_addV (G : Gr) (v r : Nat) : Ext G (addV G v r) := ⟨Nat.le_succ _, fun i h => upF_ne _ _ (by omega), fun i h => upF_ne _ _ (by omega)⟩
theorem ext_addN (G : Gr) (t : Tm) (as : List Nat) (r : Nat) : Ext G (addN G t as r) := ⟨Nat.le_succ _, fun i h => upF_ne _ _ (by omega), fun i h => upF_ne _ _ (by omega)⟩
theorem Fresh.addV (h : Fresh G) (v r : Nat) : Fresh (addV G v r) := fun i hi => by
  by_cases q : i = G.n
  · subst q
    simp [K78.addV, upF_self, Tm.isV]
  · have := h i (by have : i < G.n + 1 := hi; omega)
    simp only [K78.addV, upF_ne _ _ q]
    exact this
theorem Fresh.addN (h : Fresh G) {t : Tm} (nt : t.isV = false) (as : List Nat) (r : Nat) : Fresh (addN G t as r) := fun i hi => by
  by_cases q : i = G.n
  · subst q
    simp only [K78.addN, upF_self, nt]
    refine ⟨trivial, rfl, ?_⟩
    cases t with
    | v _ => cases nt
    | c _ => rfl
    | f _ => rfl
    | g _ _ => rfl
  · have := h i (by have : i < G.n + 1 := hi; omega)
    simp only [K78.addN, upF_ne _ _ q]
    exact this
theorem Gst.addV (h : Gst G) {v : Nat} (nv : ¬ v ∈ G.ks) (r : Nat) : Gst (addV G v r) where
  ar := fun i hi => by
    by_cases q : i = G.n
    · subst q; simp [K78.addV, upF_self, Tm.kids]
    · have hi' : i < G.n := by have : i < G.n + 1 := hi; omega
      obtain ⟨h1, h2⟩ := h.ar i hi'
      simp only [K78.addV, upF_ne _ _ q]
      refine ⟨?_, h2⟩
      rw [← h1]
      exact map_inj fun j hj => upF_ne _ _ (by have := h2 j hj; omega)
  nd := by
    show (G.ks ++ [v]).Nodup
    rw [List.nodup_append]
    exact ⟨h.nd, by simp, fun a ha b hb e => by rw [List.mem_singleton] at hb; subst hb; subst e; exact nv ha⟩
  mn := fun w hw => by
    show upF G.M v G.n w < G.n + 1 ∧ upF G.T G.n (.v v) (upF G.M v G.n w) = .v w
    by_cases q : w = v
    · subst q; rw [upF_self, upF_self]; exact ⟨Nat.lt_succ_self _, rfl⟩
    · rw [upF_ne _ _ q]
      have hw' : w ∈ G.ks := (List.mem_append.mp hw).resolve_right fun z => q (List.mem_singleton.mp z)
      obtain ⟨h1, h2⟩ := h.mn w hw'
      exact ⟨by omega, by rw [upF_ne _ _ (by omega)]; exact h2⟩
  mv := fun i w hi e => by
    have e : upF G.T G.n (.v v) i = .v w := e
    show w ∈ G.ks ++ [v] ∧ upF G.M v G.n w = i
    by_cases q : i = G.n
    · subst q
      rw [upF_self] at e
      have := Tm.v.inj e
      subst this
      exact ⟨by simp, upF_self _ _ _⟩
    · rw [upF_ne _ _ q] at e
      obtain ⟨h1, h2⟩ := h.mv i w (by have : i < G.n + 1 := hi; omega) e
      refine ⟨List.mem_append.mpr (.inl h1), ?_⟩
      rw [upF_ne _ _ (show w ≠ v from fun z => nv (z ▸ h1))]
      exact h2
theorem Gst.addN (h : Gst G) {t : Tm} {as : List Nat} (nt : t.isV = false) (ha : as.map G.T = t.kids) (hl : ∀ j, j ∈ as → j < G.n) (r : Nat) : Gst (addN G t as r) where
  ar := fun i hi => by
    by_cases q : i = G.n
    · subst q
      simp only [K78.addN, upF_self]
      refine ⟨?_, hl⟩
      rw [← ha]
      exact map_inj fun j hj => upF_ne _ _ (by have := hl j hj; omega)
    · have hi' : i < G.n := by have : i < G.n + 1 := hi; omega
      obtain ⟨h1, h2⟩ := h.ar i hi'
      simp only [K78.addN, upF_ne _ _ q]
      refine ⟨?_, h2⟩
      rw [← h1]
      exact map_inj fun j hj => upF_ne _ _ (by have := h2 j hj; omega)
  nd := h.nd
  mn := fun w hw => by
    obtain ⟨h1, h2⟩ := h.mn w hw
    refine ⟨Nat.lt_succ_of_lt h1, ?_⟩
    show upF G.T G.n t (G.M w) = .v w
    rw [upF_ne _ _ (by omega)]; exact h2
  mv := fun i w hi e => by
    have e : upF G.T G.n t i = .v w := e
    by_cases q : i = G.n
    · subst q
      rw [upF_self] at e
      rw [e] at nt; cases nt
    · rw [upF_ne _ _ q] at e
      exact h.mv i w (by have : i < G.n + 1 := hi; omega) e
theorem Fresh.ld (h : Fresh G) : Ld G.n G.L id (fun _ => 0) where
  out := fun _ _ => rfl
  lt := fun i hi => by rw [(h i hi).1]; exact hi
  rl := fun i hi => by rw [(h i hi).1]
  eq := fun _ _ _ => rfl
  ne := fun i hi q => absurd (h i hi).1 q
theorem Fresh.gdy (h : Fresh G) : Gdy G id where
  s0 := fun r hr _ hs i hi e => by
    have e : i = r := e
    subst e
    rw [(h i hi).2.1] at hs
    cases q : (G.T i).isV with
    | true => rfl
    | false => rw [q] at hs; cases hs
  s1 := fun r s hr _ hs => by
    rw [(h r hr).2.1] at hs
    cases q : (G.T r).isV with
    | true => rw [q] at hs; cases hs
    | false =>
      rw [q] at hs
      have hs : r = s := Option.some.inj hs
      subst hs
      exact ⟨hr, rfl, q⟩
  e0 := fun r hr _ hs i hi e => by
    have e : i = r := e
    subst e
    rw [(h i hi).2.2] at hs
    cases q : G.T i with
    | v m => rw [q] at hs; cases hs
    | c _ => rfl
    | f _ => rfl
    | g _ _ => rfl
  e1 := fun r m hr _ hs => by
    rw [(h r hr).2.2] at hs
    cases q : G.T r with
    | v m' =>
      rw [q] at hs
      have hs : m' = m := Option.some.inj hs
      subst hs
      exact ⟨r, hr, rfl, q⟩
    | c _ => rw [q] at hs; cases hs
    | f _ => rw [q] at hs; cases hs
    | g _ _ => rw [q] at hs; cases hs
theorem Fresh.cong (h : Fresh G) (W : Prs) : Cong G id W := fun φ _ _ i hi nv => ⟨i, by show G.S i = _; rw [(h i hi).2.1, nv]; rfl, rfl, rfl⟩
end
end K78
end
section
set_option maxHeartbeats 4000000
/-! M4: the classes from below -/
namespace K78
/-- the classes below a class -/
def belowF (G : Gr) (rt : Nat → Nat) (r : Nat) : List Nat := match G.S r with
  | none => []
  | some s => (G.A s).map rt
abbrev Stk := List (Nat × Bool)
structure BI (G : Gr) (rt : Nat → Nat) (O : List Nat) (K : Stk) : Prop where
  inn : ∀ x, x ∈ O → x < G.n ∧ rt x = x
  nd : O.Nodup
  topo : ∀ pre x post, O = pre ++ x :: post → ∀ c, c ∈ belowF G rt x → c ∈ pre
  sin : ∀ e, e ∈ K → e.1 < G.n ∧ rt e.1 = e.1
  mk0 : ∀ x, (x, true) ∈ K → ¬ x ∈ O
  mk1 : K.Pairwise fun e e' => e.2 = true → e'.2 = true → e.1 ≠ e'.1
  ch : ∀ pre x post, K = pre ++ (x, true) :: post → ∀ c, c ∈ belowF G rt x → c ∈ O ∨ ∃ b, (c, b) ∈ pre
  sz : ∀ θ, Resp G rt [] θ → K.Pairwise fun e e' => e'.2 = true → ((G.T e.1).ap θ).size < ((G.T e'.1).ap θ).size
section
variable {G : Gr} {rt rk : Nat → Nat} {O : List Nat} {K : Stk} {x : Nat}
theorem below_in (g : Gst G) (D : Ld G.n G.L rt rk) (d : Gdy G rt) (hx : x < G.n) (rx : rt x = x) {c : Nat} (h : c ∈ belowF G rt x) : c < G.n ∧ rt c = c ∧ ∀ θ, Resp G rt [] θ → ((G.T c).ap θ).size < ((G.T x).ap θ).size := by
  unfold belowF at h
  cases e : G.S x with
  | none => rw [e] at h; cases h
  | some s =>
    rw [e] at h
    obtain ⟨j, hj, rfl⟩ := List.mem_map.mp h
    obtain ⟨s1, s2, s3⟩ := d.s1 x s hx rx e
    obtain ⟨h1, h2⟩ := g.kid s1 hj
    obtain ⟨l1, _, l3⟩ := D.lead h1
    refine ⟨l1, l3, fun θ hθ => ?_⟩
    have e1 := hθ.1 s s1
    rw [s2] at e1
    have e2 := hθ.1 j h1
    rw [e1, e2]
    obtain ⟨_, _, q3⟩ := ap_kids' (G.T s) θ s3
    exact kid_size (by rw [q3]; exact List.mem_map.mpr ⟨_, h2, rfl⟩)
theorem BI.start (hx : x < G.n) (rx : rt x = x) (h : BI G rt O []) : BI G rt O [(x, false)] where
  inn := h.inn
  nd := h.nd
  topo := h.topo
  sin := fun e he => by rw [List.mem_singleton] at he; subst he; exact ⟨hx, rx⟩
  mk0 := fun y hy => by rw [List.mem_singleton] at hy; cases hy
  mk1 := List.pairwise_singleton _ _
  ch := fun pre y post e => by
    cases pre with
    | nil => cases e
    | cons p pre => cases pre <;> cases e
  sz := fun θ _ => List.pairwise_singleton _ _
theorem BI.done (h : BI G rt O ((x, true) :: K)) : BI G rt (O ++ [x]) K where
  inn := fun y hy => by
    rcases List.mem_append.mp hy with hy | hy
    · exact h.inn y hy
    · rw [List.mem_singleton.mp hy]; exact h.sin (x, true) (List.mem_cons_self ..)
  nd := by
    rw [List.nodup_append]
    exact ⟨h.nd, by simp, fun a ha b hb e => by rw [List.mem_singleton] at hb; subst hb; subst e; exact h.mk0 _ (List.mem_cons_self ..) ha⟩
  topo := fun pre y post e c hc => by
    rcases List.append_eq_append_iff.mp e with ⟨as, e1, e2⟩ | ⟨bs, e1, e2⟩
    · cases as with
      | nil =>
        simp only [List.nil_append, List.cons.injEq] at e2
        obtain ⟨e3, e4⟩ := e2
        subst e3
        rw [List.append_nil] at e1
        subst e1
        rcases h.ch [] x K rfl c hc with q | ⟨b, q⟩
        · exact q
        · cases q
      | cons a as =>
        simp only [List.cons_append, List.cons.injEq] at e2
        have := e2.2
        cases as <;> simp at this
    · cases bs with
      | nil =>
        simp only [List.nil_append, List.cons.injEq] at e2
        obtain ⟨e3, e4⟩ := e2
        subst e3
        rw [List.append_nil] at e1
        subst e1
        rcases h.ch [] y K rfl c hc with q | ⟨b, q⟩
        · exact q
        · cases q
      | cons b bs =>
        simp only [List.cons_append, List.cons.injEq] at e2
        obtain ⟨e3, e4⟩ := e2
        subst e3
        exact h.topo pre y bs e1 c hc
  sin := fun e he => h.sin e (List.mem_cons_of_mem _ he)
  mk0 := fun y hy q => by
    rcases List.mem_append.mp q with q | q
    · exact h.mk0 y (List.mem_cons_of_mem _ hy) q
    · rw [List.mem_singleton] at q
      subst q
      exact (List.pairwise_cons.mp h.mk1).1 _ hy rfl rfl rfl
  mk1 := (List.pairwise_cons.mp h.mk1).2
  ch := fun pre y post e c hc => by
    rcases h.ch ((x, true) :: pre) y post (by rw [e]; rfl) c hc with q | ⟨b, q⟩
    · exact .inl (List.mem_append.mpr (.inl q))
    · rcases List.mem_cons.mp q with q | q
      · cases q; exact .inl (List.mem_append.mpr (.inr (by simp)))
      · exact .inr ⟨b, q⟩
  sz := fun θ hθ => (List.pairwise_cons.mp (h.sz θ hθ)).2
theorem BI.seen (h : BI G rt O ((x, false) :: K)) (hx : x ∈ O) : BI G rt O K where
  inn := h.inn
  nd := h.nd
  topo := h.topo
  sin := fun e he => h.sin e (List.mem_cons_of_mem _ he)
  mk0 := fun y hy => h.mk0 y (List.mem_cons_of_mem _ hy)
  mk1 := (List.pairwise_cons.mp h.mk1).2
  ch := fun pre y post e c hc => by
    rcases h.ch ((x, false) :: pre) y post (by rw [e]; rfl) c hc with q | ⟨b, q⟩
    · exact .inl q
    · rcases List.mem_cons.mp q with q | q
      · cases q; exact .inl hx
      · exact .inr ⟨b, q⟩
  sz := fun θ hθ => (List.pairwise_cons.mp (h.sz θ hθ)).2
theorem BI.cycle (h : BI G rt O ((x, false) :: K)) (hx : (x, true) ∈ K) : ¬ ∃ θ, Resp G rt [] θ := fun ⟨θ, hθ⟩ => by
  have := (List.pairwise_cons.mp (h.sz θ hθ)).1 _ hx rfl
  exact absurd this (Nat.lt_irrefl _)
/-- a class below is begun -/
theorem BI.cycle2 (g : Gst G) (D : Ld G.n G.L rt rk) (d : Gdy G rt) (h : BI G rt O ((x, false) :: K)) {c : Nat} (hc : c ∈ belowF G rt x) (hk : (c, true) ∈ (x, true) :: K) : ¬ ∃ θ, Resp G rt [] θ := fun ⟨θ, hθ⟩ => by
  have hxx : x < G.n ∧ rt x = x := h.sin (x, false) (List.mem_cons_self ..)
  obtain ⟨hx, rx⟩ := hxx
  have h1 := (below_in g D d hx rx hc).2.2 θ hθ
  rcases List.mem_cons.mp hk with q | q
  · cases q; omega
  · have := (List.pairwise_cons.mp (h.sz θ hθ)).1 _ q rfl
    have h2 : ((G.T x).ap θ).size < ((G.T c).ap θ).size := this
    omega
theorem BI.push (g : Gst G) (D : Ld G.n G.L rt rk) (d : Gdy G rt) (h : BI G rt O ((x, false) :: K)) (h1 : ¬ x ∈ O) (h2 : ¬ (x, true) ∈ K) : BI G rt O (((belowF G rt x).map fun c => (c, false)).reverse ++ (x, true) :: K) := by
  have hxx : x < G.n ∧ rt x = x := h.sin (x, false) (List.mem_cons_self ..)
  obtain ⟨hx, rx⟩ := hxx
  have hb : ∀ e, e ∈ ((belowF G rt x).map fun c => (c, false)).reverse → e.2 = false ∧ e.1 ∈ belowF G rt x := fun e he => by
    rw [List.mem_reverse] at he
    obtain ⟨c, hc, rfl⟩ := List.mem_map.mp he
    exact ⟨rfl, hc⟩
  refine ⟨h.inn, h.nd, h.topo, fun e he => ?_, fun y hy => ?_, ?_, fun pre y post e c hc => ?_, fun θ hθ => ?_⟩
  · rcases List.mem_append.mp he with he | he
    · have := below_in g D d hx rx (hb e he).2
      exact ⟨this.1, this.2.1⟩
    · rcases List.mem_cons.mp he with rfl | he
      · exact ⟨hx, rx⟩
      · exact h.sin e (List.mem_cons_of_mem _ he)
  · rcases List.mem_append.mp hy with hy | hy
    · have := (hb _ hy).1; cases this
    · rcases List.mem_cons.mp hy with q | hy
      · cases q; exact h1
      · exact h.mk0 y (List.mem_cons_of_mem _ hy)
  · rw [List.pairwise_append]
    refine ⟨List.Pairwise.imp_of_mem (R := fun _ _ => True) (fun ha _ _ q => by rw [(hb _ ha).1] at q; cases q) (List.pairwise_of_forall (fun _ _ => trivial)), ?_, fun e he e' _ q => by rw [(hb e he).1] at q; cases q⟩
    rw [List.pairwise_cons]
    refine ⟨fun e he _ q z => ?_, (List.pairwise_cons.mp h.mk1).2⟩
    have : e = (x, true) := by obtain ⟨e1, e2⟩ := e; cases q; cases z; rfl
    exact h2 (this ▸ he)
  · -- where the marker stands
    rcases List.append_eq_append_iff.mp e with ⟨as, e1, e2⟩ | ⟨bs, e1, e2⟩
    · -- pre is the new ones and more
      cases as with
      | nil =>
        simp only [List.nil_append, List.cons.injEq, Prod.mk.injEq] at e2
        obtain ⟨⟨e3, _⟩, e4⟩ := e2
        subst e3
        refine .inr ⟨false, ?_⟩
        rw [e1, List.append_nil, List.mem_reverse]
        exact List.mem_map.mpr ⟨c, hc, rfl⟩
      | cons a as =>
        simp only [List.cons_append, List.cons.injEq] at e2
        obtain ⟨e3, e4⟩ := e2
        subst e3
        rcases h.ch ((x, false) :: as) y post (by rw [e4]; rfl) c hc with q | ⟨b, q⟩
        · exact .inl q
        · rcases List.mem_cons.mp q with q | q
          · cases q
            exact .inr ⟨true, by rw [e1]; simp⟩
          · exact .inr ⟨b, by rw [e1]; simp [q]⟩
    · cases bs with
      | nil =>
        simp only [List.nil_append, List.cons.injEq, Prod.mk.injEq] at e2
        obtain ⟨⟨e3, _⟩, e4⟩ := e2
        subst e3
        refine .inr ⟨false, ?_⟩
        rw [List.append_nil] at e1
        rw [← e1, List.mem_reverse]
        exact List.mem_map.mpr ⟨c, hc, rfl⟩
      | cons b bs =>
        simp only [List.cons_append, List.cons.injEq] at e2
        obtain ⟨e3, e4⟩ := e2
        have : b ∈ ((belowF G rt x).map fun c => (c, false)).reverse := by rw [e1]; simp
        have := (hb b this).1
        rw [← e3] at this
        cases this
  · have hz := h.sz θ hθ
    rw [List.pairwise_append]
    obtain ⟨z1, z2⟩ := List.pairwise_cons.mp hz
    refine ⟨List.Pairwise.imp_of_mem (R := fun _ _ => True) (fun _ hb' _ q => by rw [(hb _ hb').1] at q; cases q) (List.pairwise_of_forall (fun _ _ => trivial)), ?_, fun e he e' he' q => ?_⟩
    · rw [List.pairwise_cons]
      exact ⟨fun e he q => z1 e he q, z2⟩
    · have h3 := (below_in g D d hx rx (hb e he).2).2.2 θ hθ
      rcases List.mem_cons.mp he' with rfl | he'
      · exact h3
      · have h4 : ((G.T x).ap θ).size < ((G.T e'.1).ap θ).size := z1 e' he' q
        omega
end
end K78
end
section
set_option maxHeartbeats 4000000
/-! M5: the terms of the classes are there -/
namespace K78
def reb (t : Tm) (us : List Tm) : Tm := match t, us with
  | .c k, _ => .c k
  | .f _, [a] => .f a
  | .g _ _, [a, b] => .g a b
  | t, _ => t
theorem reb_ok {t : Tm} {us : List Tm} (nt : t.isV = false) (h : us.length = t.kids.length) : (reb t us).isV = false ∧ (reb t us).hd = t.hd ∧ (reb t us).kids = us := by
  cases t with
  | v _ => cases nt
  | c k => cases us with
    | nil => exact ⟨rfl, rfl, rfl⟩
    | cons _ _ => cases h
  | f a => match us, h with
    | [x], _ => exact ⟨rfl, rfl, rfl⟩
  | g a b => match us, h with
    | [x, y], _ => exact ⟨rfl, rfl, rfl⟩
/-- what a class's term is made of -/
structure BEq (G : Gr) (rt : Nat → Nat) (B : Nat → Tm) (g : Nat) : Prop where
  b0 : G.S g = none → ∃ m, G.E g = some m ∧ B g = .v m
  b1 : ∀ s, G.S g = some s → (B g).isV = false ∧ (B g).hd = (G.T s).hd ∧ (B g).kids = (G.A s).map fun j => B (rt j)
section
variable {G : Gr} {rt rk : Nat → Nat} {O : List Nat}
theorem BEq.kids {B : Nat → Tm} {g : Nat} (h : BEq G rt B g) : (B g).kids = (belowF G rt g).map B := by
  unfold belowF
  cases e : G.S g with
  | none => obtain ⟨m, _, h2⟩ := h.b0 e; rw [h2]; rfl
  | some s => rw [(h.b1 s e).2.2, List.map_map]; rfl
theorem build_pre (g : Gst G) (d : Gdy G rt) (b : BI G rt O []) : ∀ pre post : List Nat, O = pre ++ post → ∃ B : Nat → Tm, ∀ x, x ∈ pre → BEq G rt B x := by
  intro pre
  -- by length, from the left
  generalize hn : pre.length = n
  induction n generalizing pre with
  | zero =>
    intro post _
    have : pre = [] := List.length_eq_zero_iff.mp hn
    subst this
    exact ⟨fun _ => .v 0, fun x h => by cases h⟩
  | succ n ih =>
    intro post e
    obtain ⟨pre', x, rfl⟩ : ∃ p x, pre = p ++ [x] := by
      have hne : pre ≠ [] := fun z => by rw [z] at hn; cases hn
      exact ⟨pre.dropLast, pre.getLast hne, (List.dropLast_concat_getLast hne).symm⟩
    have hl : pre'.length = n := by rw [List.length_append, List.length_singleton] at hn; omega
    have e2 : O = pre' ++ x :: post := by rw [e, List.append_assoc]; rfl
    obtain ⟨B, hB⟩ := ih pre' hl (x :: post) e2
    have hxO : x ∈ O := by rw [e2]; simp
    obtain ⟨hx, rx⟩ := b.inn x hxO
    have htop := b.topo pre' x post e2
    have hnd := b.nd
    rw [e2, List.nodup_append] at hnd
    have hxp : ¬ x ∈ pre' := fun q => hnd.2.2 x q x (List.mem_cons_self ..) rfl
    -- what the new term is
    let nt : Tm := match G.S x with
      | none => .v ((G.E x).getD 0)
      | some s => reb (G.T s) ((G.A s).map fun j => B (rt j))
    refine ⟨upF B x nt, fun y hy => ?_⟩
    have same : ∀ c, c ∈ pre' → upF B x nt c = B c := fun c hc => upF_ne _ _ (fun q => hxp (q ▸ hc))
    have hsub : ∀ y, y ∈ pre' ++ [x] → ∀ c, c ∈ belowF G rt y → c ∈ pre' := fun y hy c hc => by
      rcases List.mem_append.mp hy with hy | hy
      · obtain ⟨i, hi, ei⟩ := List.append_of_mem hy
        have := b.topo i y (hi ++ x :: post) (by rw [e2, ei, List.append_assoc]; rfl) c hc
        rw [ei]; exact List.mem_append.mpr (.inl this)
      · rw [List.mem_singleton.mp hy] at hc; exact htop c hc
    have kidsame : ∀ s, G.S y = some s → ((G.A s).map fun j => upF B x nt (rt j)) = (G.A s).map fun j => B (rt j) := fun s hs => map_inj fun j hj => same _ (hsub y hy _ (by unfold belowF; rw [hs]; exact List.mem_map.mpr ⟨j, hj, rfl⟩))
    rcases List.mem_append.mp hy with hy' | hy'
    · have hBy := hB y hy'
      refine ⟨fun hs => ?_, fun s hs => ?_⟩
      · rw [same y hy']; exact hBy.b0 hs
      · rw [same y hy', kidsame s hs]; exact hBy.b1 s hs
    · have ey := List.mem_singleton.mp hy'
      subst ey
      refine ⟨fun hs => ?_, fun s hs => ?_⟩
      · rw [upF_self]
        cases hE : G.E y with
        | none =>
          have h1 := d.e0 y hx rx hE y hx rx
          have h2 := d.s0 y hx rx hs y hx rx
          rw [h1] at h2; cases h2
        | some m =>
          refine ⟨m, rfl, ?_⟩
          show nt = _
          simp only [nt, hs, hE]
          rfl
      · rw [upF_self, kidsame s hs]
        have : nt = reb (G.T s) ((G.A s).map fun j => B (rt j)) := by simp only [nt, hs]
        rw [this]
        obtain ⟨s1, s2, s3⟩ := d.s1 y s hx rx hs
        refine reb_ok s3 ?_
        have := congrArg List.length (g.ar s s1).1
        rw [List.length_map] at this ⊢
        exact this
theorem build_exists (g : Gst G) (d : Gdy G rt) (b : BI G rt O []) : ∃ B : Nat → Tm, ∀ x, x ∈ O → BEq G rt B x := build_pre g d b O [] (List.append_nil O).symm
theorem below_mem (b : BI G rt O []) {x : Nat} (hx : x ∈ O) {c : Nat} (hc : c ∈ belowF G rt x) : c ∈ O := by
  obtain ⟨p, q, e⟩ := List.append_of_mem hx
  have := b.topo p x q e c hc
  rw [e]; exact List.mem_append.mpr (.inl this)
theorem sol_of (b : BI G rt O []) {B : Nat → Tm} (hB : ∀ x, x ∈ O → BEq G rt B x) (hv : ∀ v, v ∈ G.ks → rt (G.M v) ∈ O) : Sol G rt O B where
  inn := b.inn
  clo := fun x s hx hs j hj => below_mem b hx (by unfold belowF; rw [hs]; exact List.mem_map.mpr ⟨j, hj, rfl⟩)
  var := hv
  b0 := fun x hx hs => (hB x hx).b0 hs
  b1 := fun x s hx hs => (hB x hx).b1 s hs
end
end K78
end
section
set_option maxHeartbeats 4000000
namespace K78
def hasAll (t u : Tm) : Prop := ∀ m, u.cnt m ≤ t.cnt m
/-! ### the ordering of terms -/
/-- greater: by the occurrences, the weights, the symbols, the first arguments that differ -/
def Gt (ww : Nat → Nat) (hi : Nat → Nat → Prop) : Tm → Tm → Prop
  | .v n, t => hasAll (.v n) t ∧ t.wt ww < (Tm.v n).wt ww
  | .c k, t => hasAll (.c k) t ∧ (t.wt ww < (Tm.c k).wt ww ∨ ((Tm.c k).wt ww = t.wt ww ∧ match t with
    | .v _ => False
    | .c j => k ≠ j ∧ hi k.val j.val
    | .f _ => hi k.val 3
    | .g _ _ => hi k.val 4))
  | .f a, t => hasAll (.f a) t ∧ (t.wt ww < (Tm.f a).wt ww ∨ ((Tm.f a).wt ww = t.wt ww ∧ match t with
    | .v _ => False
    | .c j => hi 3 j.val
    | .f b => a ≠ b ∧ Gt ww hi a b
    | .g _ _ => hi 3 4))
  | .g a1 a2, t => hasAll (.g a1 a2) t ∧ (t.wt ww < (Tm.g a1 a2).wt ww ∨ ((Tm.g a1 a2).wt ww = t.wt ww ∧ match t with
    | .v _ => False
    | .c j => hi 4 j.val
    | .f _ => hi 4 3
    | .g b1 b2 => (a1 ≠ b1 ∧ Gt ww hi a1 b1) ∨ (a1 = b1 ∧ a2 ≠ b2 ∧ Gt ww hi a2 b2)))
/-- of the first two that differ the first is greater -/
def GtK (ww : Nat → Nat) (hi : Nat → Nat → Prop) : List Tm → List Tm → Prop
  | a :: as, b :: bs => (a ≠ b ∧ Gt ww hi a b) ∨ (a = b ∧ GtK ww hi as bs)
  | _, _ => False
theorem Gt_iff {ww : Nat → Nat} {hi : Nat → Nat → Prop} (s t : Tm) : Gt ww hi s t ↔ hasAll s t ∧ (t.wt ww < s.wt ww ∨ (s.wt ww = t.wt ww ∧ s.isV = false ∧ t.isV = false ∧ ((s.hd ≠ t.hd ∧ hi s.hd t.hd) ∨ (s.hd = t.hd ∧ GtK ww hi s.kids t.kids)))) := by
  cases s with
  | v n => simp [Gt, Tm.isV]
  | c k =>
    cases t with
    | v n => simp [Gt, Tm.isV]
    | c j =>
      have e : (k ≠ j) ↔ (k.val ≠ j.val) := ⟨fun h q => h (Fin.ext q), fun h q => h (by rw [q])⟩
      simp [Gt, Tm.isV, Tm.hd, Tm.kids, GtK, e]
    | f b =>
      have : k.val ≠ 3 := by omega
      simp [Gt, Tm.isV, Tm.hd, Tm.kids, GtK, this]
    | g b1 b2 =>
      have : k.val ≠ 4 := by omega
      simp [Gt, Tm.isV, Tm.hd, Tm.kids, GtK, this]
  | f a =>
    cases t with
    | v n => simp [Gt, Tm.isV]
    | c j =>
      have : ¬ 3 = j.val := by omega
      simp [Gt, Tm.isV, Tm.hd, Tm.kids, GtK, this]
    | f b => simp [Gt, Tm.isV, Tm.hd, Tm.kids, GtK]
    | g b1 b2 => simp [Gt, Tm.isV, Tm.hd, Tm.kids, GtK]
  | g a1 a2 =>
    cases t with
    | v n => simp [Gt, Tm.isV]
    | c j =>
      have : ¬ 4 = j.val := by omega
      simp [Gt, Tm.isV, Tm.hd, Tm.kids, GtK, this]
    | f b => simp [Gt, Tm.isV, Tm.hd, Tm.kids, GtK]
    | g b1 b2 => simp [Gt, Tm.isV, Tm.hd, Tm.kids, GtK]
end K78
end
section
set_option maxHeartbeats 4000000
/-! P1: images of a most general unifier of two terms of nesting up to 3 (or f of such) have nesting up to 3 -/
namespace K78
/-- the subterms that are applications -/
def inner : Tm → List Tm
  | .v _ => []
  | .c _ => []
  | .f t => .f t :: inner t
  | .g t u => .g t u :: (inner t ++ inner u)
/-- one subterm replaced by a variable, all over -/
def rep (u : Tm) : Tm → Tm
  | .v n => .v n
  | .c k => .c k
  | .f t => if Tm.f t = u then .v 0 else .f (rep u t)
  | .g t s => if Tm.g t s = u then .v 0 else .g (rep u t) (rep u s)
theorem rep_le (u : Tm) : ∀ t : Tm, (rep u t).size ≤ t.size
  | .v n => Nat.le_refl _
  | .c k => Nat.le_refl _
  | .f t => by
    unfold rep
    have := rep_le u t
    split
    · simp only [Tm.size]; omega
    · simp only [Tm.size]; omega
  | .g t s => by
    unfold rep
    have := rep_le u t
    have := rep_le u s
    split
    · simp only [Tm.size]; omega
    · simp only [Tm.size]; omega
theorem rep_lt {u : Tm} : ∀ {t : Tm}, u ∈ inner t → (rep u t).size < t.size
  | .v n, h => by cases h
  | .c k, h => by cases h
  | .f t, h => by
    unfold rep
    have := size_pos t
    split
    · simp only [Tm.size]; omega
    · rename_i ne
      unfold inner at h
      rcases List.mem_cons.mp h with h | h
      · exact absurd h.symm ne
      · have := rep_lt h; simp only [Tm.size]; omega
  | .g t s, h => by
    unfold rep
    have := size_pos t
    have h1 := rep_le u t
    have h2 := rep_le u s
    split
    · simp only [Tm.size]; omega
    · rename_i ne
      unfold inner at h
      rcases List.mem_cons.mp h with h | h
      · exact absurd h.symm ne
      · rcases List.mem_append.mp h with h | h
        · have := rep_lt h; simp only [Tm.size]; omega
        · have := rep_lt h; simp only [Tm.size]; omega
theorem rep_ap {u : Tm} {σ : Nat → Tm} : ∀ {t : Tm}, (∀ s, s ∈ inner t → s.ap σ ≠ u) → rep u (t.ap σ) = t.ap fun n => rep u (σ n)
  | .v n, _ => rfl
  | .c k, _ => rfl
  | .f t, h => by
    have h1 : Tm.f (t.ap σ) ≠ u := h (.f t) (by simp [inner])
    simp only [Tm.ap, rep]
    rw [if_neg h1, rep_ap (t := t) fun s hs => h s (by simp [inner, hs])]
  | .g t x, h => by
    have h1 : Tm.g (t.ap σ) (x.ap σ) ≠ u := h (.g t x) (by simp [inner])
    simp only [Tm.ap, rep]
    rw [if_neg h1, rep_ap (t := t) fun s hs => h s (by simp [inner, hs]), rep_ap (t := x) fun s hs => h s (by simp [inner, hs])]
theorem inner_size {u : Tm} : ∀ {t : Tm}, u ∈ inner t → u.size ≤ t.size
  | .v n, h => by cases h
  | .c k, h => by cases h
  | .f t, h => by
    rcases List.mem_cons.mp h with h | h
    · rw [h]; exact Nat.le_refl _
    · have := inner_size h; simp only [Tm.size]; omega
  | .g t s, h => by
    rcases List.mem_cons.mp h with h | h
    · rw [h]; exact Nat.le_refl _
    · rcases List.mem_append.mp h with h | h
      · have := inner_size h; simp only [Tm.size]; omega
      · have := inner_size h; simp only [Tm.size]; omega
/-- what stands in an image is an instance of what stands in one of the two terms -/
theorem IsMgu.img {A B : Tm} {σ : Nat → Tm} (h : IsMgu A B σ) {n : Nat} {u : Tm} (hu : u ∈ inner (σ n)) : ∃ s, (s ∈ inner A ∨ s ∈ inner B) ∧ s.ap σ = u := by
  apply Classical.byContradiction
  intro no
  have hA : rep u (A.ap σ) = A.ap fun n => rep u (σ n) := rep_ap fun s hs e => no ⟨s, .inl hs, e⟩
  have hB : rep u (B.ap σ) = B.ap fun n => rep u (σ n) := rep_ap fun s hs e => no ⟨s, .inr hs, e⟩
  have un : Unif A B fun n => rep u (σ n) := by
    unfold Unif
    rw [← hA, ← hB, h.un]
  have e := h.most _ un n
  have h1 := size_ap_le (fun n => rep u (σ n)) (σ n)
  rw [e] at h1
  have := rep_lt hu
  omega
theorem nest_two : ∀ {t : Tm}, 3 ≤ t.nest → ∃ y z, y ∈ inner t ∧ z ∈ inner t ∧ z.size < y.size
  | .v n, h => by simp [Tm.nest] at h
  | .c k, h => by simp [Tm.nest] at h
  | .f t, h => by
    have h2 : 2 ≤ t.nest := by simp only [Tm.nest] at h; omega
    refine ⟨.f t, t, by simp [inner], ?_, by simp only [Tm.size]; omega⟩
    cases t with
    | v _ => simp [Tm.nest] at h2
    | c _ => simp [Tm.nest] at h2
    | f _ => simp [inner]
    | g _ _ => simp [inner]
  | .g t s, h => by
    have h2 : 2 ≤ t.nest ∨ 2 ≤ s.nest := by simp only [Tm.nest] at h; omega
    rcases h2 with h2 | h2
    · refine ⟨.g t s, t, by simp [inner], ?_, by simp only [Tm.size]; omega⟩
      cases t with
      | v _ => simp [Tm.nest] at h2
      | c _ => simp [Tm.nest] at h2
      | f _ => simp [inner]
      | g _ _ => simp [inner]
    · refine ⟨.g t s, s, by simp [inner], ?_, by simp only [Tm.size]; omega⟩
      cases s with
      | v _ => simp [Tm.nest] at h2
      | c _ => simp [Tm.nest] at h2
      | f _ => simp [inner]
      | g _ _ => simp [inner]
theorem nest_three : ∀ {t : Tm}, 4 ≤ t.nest → ∃ x y z, x ∈ inner t ∧ y ∈ inner t ∧ z ∈ inner t ∧ z.size < y.size ∧ y.size < x.size
  | .v n, h => by simp [Tm.nest] at h
  | .c k, h => by simp [Tm.nest] at h
  | .f t, h => by
    have h2 : 3 ≤ t.nest := by simp only [Tm.nest] at h; omega
    obtain ⟨y, z, hy, hz, e⟩ := nest_two h2
    have := inner_size hy
    exact ⟨.f t, y, z, by simp [inner], by simp [inner, hy], by simp [inner, hz], e, by simp only [Tm.size]; omega⟩
  | .g t s, h => by
    have h2 : 3 ≤ t.nest ∨ 3 ≤ s.nest := by simp only [Tm.nest] at h; omega
    rcases h2 with h2 | h2
    · obtain ⟨y, z, hy, hz, e⟩ := nest_two h2
      have := inner_size hy
      exact ⟨.g t s, y, z, by simp [inner], by simp [inner, hy], by simp [inner, hz], e, by simp only [Tm.size]; omega⟩
    · obtain ⟨y, z, hy, hz, e⟩ := nest_two h2
      have := inner_size hy
      exact ⟨.g t s, y, z, by simp [inner], by simp [inner, hy], by simp [inner, hz], e, by simp only [Tm.size]; omega⟩
theorem nest_one_size {t : Tm} (h : t.size ≤ 1) : t.nest ≤ 1 := by
  cases t with
  | v _ => exact Nat.le_refl _
  | c _ => exact Nat.le_refl _
  | f t => have := size_pos t; simp only [Tm.size] at h; omega
  | g t s => have := size_pos t; simp only [Tm.size] at h; omega
/-- a variable that stands in neither term stays -/
theorem IsMgu.out {A B : Tm} {σ : Nat → Tm} (h : IsMgu A B σ) {n : Nat} (a : ¬ A.has n) (b : ¬ B.has n) : (σ n).nest ≤ 1 := by
  have un : Unif A B fun m => if m = n then .v n else σ m := by
    unfold Unif
    rw [ap_congr (t := A) (s' := σ) fun m hm => if_neg fun (e : m = n) => a (e ▸ hm), ap_congr (t := B) (s' := σ) fun m hm => if_neg fun (e : m = n) => b (e ▸ hm)]
    exact h.un
  have e := h.most _ un n
  have h1 := size_ap_le (fun m => if m = n then .v n else σ m) (σ n)
  rw [e] at h1
  simp only [if_pos, Tm.size] at h1
  exact nest_one_size h1
theorem IsMgu.symm {A B : Tm} {σ : Nat → Tm} (h : IsMgu A B σ) : IsMgu B A σ := ⟨h.un.symm, fun θ hθ => h.most θ hθ.symm⟩
theorem IsMgu.by {A B : Tm} {σ θ : Nat → Tm} (h : IsMgu A B σ) (hθ : Unif A B θ) (n : Nat) : (σ n).nest ≤ (θ n).nest := by
  have h1 := nest_le_ap θ (σ n)
  rw [h.most θ hθ n] at h1
  exact h1
theorem inner_nest2 {s t : Tm} (n : t.nest ≤ 2) (h : s ∈ inner t) : s = t := by
  have lf : ∀ {u : Tm}, u.nest ≤ 1 → inner u = [] := fun {u} hu => by
    cases u with
    | v _ => rfl
    | c _ => rfl
    | f a => have := nest_pos' a; simp only [Tm.nest] at hu; omega
    | g a b => have := nest_pos' a; simp only [Tm.nest] at hu; omega
  cases t with
  | v _ => cases h
  | c _ => cases h
  | f a =>
    simp only [Tm.nest] at n
    simp only [inner, lf (u := a) (by omega), List.mem_singleton] at h
    exact h
  | g a b =>
    simp only [Tm.nest] at n
    simp only [inner, lf (u := a) (by omega), lf (u := b) (by omega), List.append_nil, List.mem_singleton] at h
    exact h
theorem var_nest {x : Nat} {b : Tm} {σ : Nat → Tm} (h : IsMgu (.v x) b σ) (nb : b.nest ≤ 3) (n : Nat) : (σ n).nest ≤ 3 := by
  by_cases hx : b.has x
  · cases hb : b.isV with
    | true =>
      cases b with
      | v y =>
        have e : y = x := hx
        subst e
        have := h.by (θ := Tm.v) rfl n
        simp only [Tm.nest] at this; omega
      | c _ => cases hb
      | f _ => cases hb
      | g _ _ => cases hb
    | false =>
      have h1 := occurs_size (s := σ) hx hb
      have e : σ x = b.ap σ := h.un
      rw [e] at h1; omega
  · have un : Unif (.v x) b (single x b) := by
      unfold Unif
      rw [ap_id (s := single x b) (t := b) fun m hm => single_ne fun e => hx (e ▸ hm)]
      exact single_self x b
    have h1 := h.by un n
    by_cases e : n = x
    · subst e; rw [single_self] at h1; omega
    · rw [single_ne e] at h1; simp only [Tm.nest] at h1; omega
theorem gg_nest {a1 a2 b1 b2 : Tm} {σ : Nat → Tm} (h : IsMgu (.g a1 a2) (.g b1 b2) σ) (n1 : a1.nest ≤ 2) (n2 : a2.nest ≤ 2) (n3 : b1.nest ≤ 2) (n4 : b2.nest ≤ 2) (n : Nat) : (σ n).nest ≤ 3 := by
  by_cases hn : (Tm.g a1 a2).has n ∨ (Tm.g b1 b2).has n
  · have un : (Tm.g a1 a2).ap σ = (Tm.g b1 b2).ap σ := h.un
    have lt : (σ n).size < ((Tm.g a1 a2).ap σ).size := by
      rcases hn with hn | hn
      · exact occurs_size hn rfl
      · rw [un]; exact occurs_size hn rfl
    have e1 : a1.ap σ = b1.ap σ := by simp only [Tm.ap, Tm.g.injEq] at un; exact un.1
    have e2 : a2.ap σ = b2.ap σ := by simp only [Tm.ap, Tm.g.injEq] at un; exact un.2
    have key : ∀ u, u ∈ inner (σ n) → u = a1.ap σ ∨ u = a2.ap σ := by
      intro u hu
      have su := inner_size hu
      obtain ⟨s, hs, rfl⟩ := h.img hu
      rcases hs with hs | hs
      · rcases List.mem_cons.mp hs with hs | hs
        · rw [hs] at su; omega
        · rcases List.mem_append.mp hs with hs | hs
          · rw [inner_nest2 n1 hs]; exact .inl rfl
          · rw [inner_nest2 n2 hs]; exact .inr rfl
      · rcases List.mem_cons.mp hs with hs | hs
        · rw [hs, ← un] at su; omega
        · rcases List.mem_append.mp hs with hs | hs
          · rw [inner_nest2 n3 hs]; exact .inl e1.symm
          · rw [inner_nest2 n4 hs]; exact .inr e2.symm
    apply Classical.byContradiction
    intro no
    obtain ⟨x, y, z, hx, hy, hz, l1, l2⟩ := nest_three (t := σ n) (by omega)
    have kx := key x hx
    have ky := key y hy
    have kz := key z hz
    rcases kx with rfl | rfl <;> rcases ky with rfl | rfl <;> rcases kz with rfl | rfl <;> omega
  · have := h.out (n := n) (fun e => hn (.inl e)) (fun e => hn (.inr e))
    omega
theorem IsMgu.of_f {a b : Tm} {σ : Nat → Tm} (h : IsMgu (.f a) (.f b) σ) : IsMgu a b σ :=
  ⟨by have := h.un; unfold Unif at this; simp only [Tm.ap, Tm.f.injEq] at this; exact this, fun θ hθ => h.most θ (by unfold Unif at hθ ⊢; simp only [Tm.ap, hθ])⟩
theorem mgu_nest3 : ∀ {a b : Tm} {σ : Nat → Tm}, IsMgu a b σ → a.nest ≤ 3 → b.nest ≤ 3 → ∀ n, (σ n).nest ≤ 3
  | .v x, b, σ, h, _, nb, n => var_nest h nb n
  | .c k, .v y, σ, h, na, _, n => var_nest h.symm na n
  | .f a, .v y, σ, h, na, _, n => var_nest h.symm na n
  | .g a1 a2, .v y, σ, h, na, _, n => var_nest h.symm na n
  | .c k, .c j, σ, h, _, _, n => by
    have := h.by (θ := Tm.v) (by have := h.un; unfold Unif at this ⊢; simpa only [Tm.ap] using this) n
    simp only [Tm.nest] at this; omega
  | .f a, .f b, σ, h, na, nb, n => mgu_nest3 h.of_f (by simp only [Tm.nest] at na; omega) (by simp only [Tm.nest] at nb; omega) n
  | .g a1 a2, .g b1 b2, σ, h, na, nb, n => by
    simp only [Tm.nest] at na nb
    exact gg_nest h (by omega) (by omega) (by omega) (by omega) n
  | .c k, .f b, σ, h, _, _, n => by have := h.un; unfold Unif at this; simp [Tm.ap] at this
  | .c k, .g b1 b2, σ, h, _, _, n => by have := h.un; unfold Unif at this; simp [Tm.ap] at this
  | .f a, .c k, σ, h, _, _, n => by have := h.un; unfold Unif at this; simp [Tm.ap] at this
  | .f a, .g b1 b2, σ, h, _, _, n => by have := h.un; unfold Unif at this; simp [Tm.ap] at this
  | .g a1 a2, .c k, σ, h, _, _, n => by have := h.un; unfold Unif at this; simp [Tm.ap] at this
  | .g a1 a2, .f b, σ, h, _, _, n => by have := h.un; unfold Unif at this; simp [Tm.ap] at this
/-- nesting up to 3, or f of such -/
def N3 (t : Tm) : Prop := t.nest ≤ 3 ∨ ∃ a, t = .f a ∧ a.nest ≤ 3
theorem mgu_nest {a b : Tm} {σ : Nat → Tm} (h : IsMgu a b σ) (va : a.isV = false) (vb : b.isV = false) (na : N3 a) (nb : N3 b) (n : Nat) : (σ n).nest ≤ 3 := by
  have ff : ∀ {x : Tm}, N3 (.f x) → x.nest ≤ 3 := fun {x} q => by
    rcases q with q | ⟨y, e, q⟩
    · simp only [Tm.nest] at q; omega
    · cases e; exact q
  have un := h.un
  unfold Unif at un
  cases a with
  | v _ => cases va
  | f a =>
    cases b with
    | v _ => cases vb
    | f b => exact mgu_nest3 h.of_f (ff na) (ff nb) n
    | c _ => simp [Tm.ap] at un
    | g _ _ => simp [Tm.ap] at un
  | c k =>
    have nb' : b.nest ≤ 3 := by
      rcases nb with q | ⟨y, rfl, q⟩
      · exact q
      · simp [Tm.ap] at un
    exact mgu_nest3 h (by simp [Tm.nest]) nb' n
  | g a1 a2 =>
    have nb' : b.nest ≤ 3 := by
      rcases nb with q | ⟨y, rfl, q⟩
      · exact q
      · simp [Tm.ap] at un
    have na' : (Tm.g a1 a2).nest ≤ 3 := by
      rcases na with q | ⟨y, e, q⟩
      · exact q
      · cases e
    exact mgu_nest3 h na' nb' n
/-! ### how many f -/
def fcnt : Tm → Nat
  | .v _ => 0
  | .c _ => 0
  | .f t => 1 + fcnt t
  | .g t u => fcnt t + fcnt u
theorem small3 {t : Tm} : (t.nest ≤ 1 → t.size ≤ 1 ∧ fcnt t = 0) ∧ (t.nest ≤ 2 → t.size ≤ 3 ∧ fcnt t ≤ 1) ∧ (t.nest ≤ 3 → t.size ≤ 7 ∧ fcnt t ≤ 2) := by
  induction t with
  | v _ => simp [Tm.size, fcnt]
  | c _ => simp [Tm.size, fcnt]
  | f t ih =>
    obtain ⟨h1, h2, h3⟩ := ih
    have := nest_pos' t
    simp only [Tm.nest, Tm.size, fcnt]
    refine ⟨fun h => by omega, fun h => ?_, fun h => ?_⟩
    · have := h1 (by omega); omega
    · have := h2 (by omega); omega
  | g t u ih1 ih2 =>
    obtain ⟨h1, h2, h3⟩ := ih1
    obtain ⟨k1, k2, k3⟩ := ih2
    have := nest_pos' t
    simp only [Tm.nest, Tm.size, fcnt]
    refine ⟨fun h => by omega, fun h => ?_, fun h => ?_⟩
    · have := h1 (by omega); have := k1 (by omega); omega
    · have := h2 (by omega); have := k2 (by omega); omega
theorem inst3 {σ : Nat → Tm} (h : ∀ n, (σ n).nest ≤ 3) {t : Tm} : (t.nest ≤ 1 → (t.ap σ).size ≤ 7 ∧ fcnt (t.ap σ) ≤ 2) ∧ (t.nest ≤ 2 → (t.ap σ).size ≤ 15 ∧ fcnt (t.ap σ) ≤ 4) ∧ (t.nest ≤ 3 → (t.ap σ).size ≤ 31 ∧ fcnt (t.ap σ) ≤ 8) := by
  induction t with
  | v n => have := small3.2.2 (h n); simp only [Tm.ap]; omega
  | c _ => simp [Tm.ap, Tm.size, fcnt]
  | f t ih =>
    obtain ⟨h1, h2, h3⟩ := ih
    have := nest_pos' t
    simp only [Tm.nest, Tm.size, fcnt, Tm.ap]
    refine ⟨fun h => by omega, fun h => ?_, fun h => ?_⟩
    · have := h1 (by omega); omega
    · have := h2 (by omega); omega
  | g t u ih1 ih2 =>
    obtain ⟨h1, h2, h3⟩ := ih1
    obtain ⟨k1, k2, k3⟩ := ih2
    have := nest_pos' t
    simp only [Tm.nest, Tm.size, fcnt, Tm.ap]
    refine ⟨fun h => by omega, fun h => ?_, fun h => ?_⟩
    · have := h1 (by omega); have := k1 (by omega); omega
    · have := h2 (by omega); have := k2 (by omega); omega
theorem inst_n3 {σ : Nat → Tm} (h : ∀ n, (σ n).nest ≤ 3) {t : Tm} (n : N3 t) : (t.ap σ).size ≤ 32 ∧ fcnt (t.ap σ) ≤ 9 := by
  rcases n with q | ⟨a, rfl, q⟩
  · have := (inst3 h (t := t)).2.2 q; omega
  · have := (inst3 h (t := a)).2.2 q
    simp only [Tm.ap, Tm.size, fcnt]
    omega
/-- a subterm that is reached -/
theorem sat_n3 : ∀ {t : Tm} {p : List Nat}, N3 t → N3 (t.sat p)
  | t, [], h => by simpa [Tm.sat] using h
  | .f t, 1 :: p, h => by
    have : t.nest ≤ 3 := by
      rcases h with q | ⟨y, e, q⟩
      · simp only [Tm.nest] at q; omega
      · cases e; exact q
    exact sat_n3 (t := t) (p := p) (.inl this)
  | .g t u, 1 :: p, h => by
    have : t.nest ≤ 3 := by
      rcases h with q | ⟨y, e, q⟩
      · simp only [Tm.nest] at q; omega
      · cases e
    exact sat_n3 (t := t) (p := p) (.inl this)
  | .g t u, 2 :: p, h => by
    have : u.nest ≤ 3 := by
      rcases h with q | ⟨y, e, q⟩
      · simp only [Tm.nest] at q; omega
      · cases e
    exact sat_n3 (t := u) (p := p) (.inl this)
  | .v n, k :: p, h => by simpa only [Tm.sat] using h
  | .c n, k :: p, h => by simpa only [Tm.sat] using h
  | .f t, 0 :: p, h => by simpa only [Tm.sat] using h
  | .f t, (k + 2) :: p, h => by simpa only [Tm.sat] using h
  | .g t u, 0 :: p, h => by simpa only [Tm.sat] using h
  | .g t u, (k + 3) :: p, h => by simpa only [Tm.sat] using h
theorem shift_nest (d : Nat) : ∀ t : Tm, (t.shift d).nest = t.nest
  | .v _ => rfl
  | .c _ => rfl
  | .f t => by simp only [Tm.shift, Tm.nest, shift_nest d t]
  | .g t u => by simp only [Tm.shift, Tm.nest, shift_nest d t, shift_nest d u]
theorem shift_n3 {d : Nat} {t : Tm} (h : N3 t) : N3 (t.shift d) := by
  rcases h with q | ⟨a, rfl, q⟩
  · exact .inl (by rw [shift_nest]; exact q)
  · exact .inr ⟨a.shift d, rfl, by rw [shift_nest]; exact q⟩
theorem put_ap_size (σ : Nat → Tm) (r : Tm) : ∀ (t : Tm) (p : List Nat), ((t.put p r).ap σ).size ≤ (t.ap σ).size + (r.ap σ).size
  | t, [] => by simp only [Tm.put]; omega
  | .f t, 1 :: p => by have := put_ap_size σ r t p; simp only [Tm.put, Tm.ap, Tm.size]; omega
  | .g t u, 1 :: p => by have := put_ap_size σ r t p; simp only [Tm.put, Tm.ap, Tm.size]; omega
  | .g t u, 2 :: p => by have := put_ap_size σ r u p; simp only [Tm.put, Tm.ap, Tm.size]; omega
  | .v n, k :: p => by simp only [Tm.put]; omega
  | .c n, k :: p => by simp only [Tm.put]; omega
  | .f t, 0 :: p => by simp only [Tm.put]; omega
  | .f t, (k + 2) :: p => by simp only [Tm.put]; omega
  | .g t u, 0 :: p => by simp only [Tm.put]; omega
  | .g t u, (k + 3) :: p => by simp only [Tm.put]; omega
end K78
end
section
set_option maxHeartbeats 4000000
/-! P2: most general unifiers exist -/
namespace K78
theorem mgu_exists' {s t : Tm} {θ : Nat → Tm} (hu : Unif s t θ) : ∀ (k : Nat) (σ : Nat → Tm) (W : Eqs), UInv s t σ W → left θ W < k → ∃ σ', IsMgu s t σ'
  | 0, _, _, _, h => absurd h (Nat.not_lt_zero _)
  | k + 1, σ, [], I, _ => ⟨σ, I.done⟩
  | k + 1, σ, (a, b) :: W, I, h => by
    by_cases e : a.ap σ = b.ap σ
    · have := left_tail (θ := θ) (e := (a, b)) (W := W)
      exact mgu_exists' hu k σ W (I.equal e) (by omega)
    · have bnd : ∀ {n : Nat} {u : Tm}, VarPair (a.ap σ) (b.ap σ) n u → u ≠ .v n → ∃ σ', IsMgu s t σ' := fun {n u} hp ne => by
        by_cases ho : u.has n
        · exact absurd ⟨θ, hu⟩ (I.occurs hp ne ho)
        · have := left_tail (θ := θ) (e := (a, b)) (W := W)
          exact mgu_exists' hu k _ W (I.bind hp ho) (by omega)
      cases ha : a.ap σ with
      | v n => exact bnd (n := n) (u := b.ap σ) (.inl ⟨ha, rfl⟩) fun q => e (by rw [ha, q])
      | _ =>
        all_goals
          cases hb : b.ap σ with
          | v n => exact bnd (n := n) (u := a.ap σ) (.inr ⟨rfl, hb⟩) fun q => e (by rw [hb, q])
          | _ =>
            all_goals
              by_cases hh : (a.ap σ).hd = (b.ap σ).hd
              · have l := I.left_split hu (by rw [ha]; rfl) (by rw [hb]; rfl) hh
                exact mgu_exists' hu k σ _ (I.split (by rw [ha]; rfl) (by rw [hb]; rfl) hh) (by omega)
              · exact absurd ⟨θ, hu⟩ (I.clash (by rw [ha]; rfl) (by rw [hb]; rfl) hh)
theorem mgu_exists {s t : Tm} {θ : Nat → Tm} (hu : Unif s t θ) : ∃ σ, IsMgu s t σ := mgu_exists' hu _ _ _ (UInv.start s t) (Nat.lt_succ_self _)
end K78
end
section
set_option maxHeartbeats 4000000
/-! P3: rewriting: instances, peaks, critical pairs, Newman -/
namespace K78
inductive Rw (R : List Rule) : Tm → Tm → Prop
  | root {t u : Tm} (r : Rule) (s : Nat → Tm) (h : r ∈ R) (e1 : t = r.1.ap s) (e2 : u = r.2.ap s) : Rw R t u
  | f {t u : Tm} (h : Rw R t u) : Rw R (.f t) (.f u)
  | gl {t u : Tm} (x : Tm) (h : Rw R t u) : Rw R (.g t x) (.g u x)
  | gr {t u : Tm} (x : Tm) (h : Rw R t u) : Rw R (.g x t) (.g x u)
inductive Rws (R : List Rule) : Tm → Tm → Prop
  | refl (t : Tm) : Rws R t t
  | head {t u w : Tm} (h : Rw R t u) (k : Rws R u w) : Rws R t w
section
variable {R : List Rule}
theorem Rws.one {t u : Tm} (h : Rw R t u) : Rws R t u := .head h (.refl _)
theorem Rws.trans {t u w : Tm} (h : Rws R t u) (k : Rws R u w) : Rws R t w := by
  induction h with
  | refl => exact k
  | head h _ ih => exact .head h (ih k)
theorem Rws.f {t u : Tm} (h : Rws R t u) : Rws R (.f t) (.f u) := by
  induction h with
  | refl => exact .refl _
  | head h _ ih => exact .head (.f h) ih
theorem Rws.gl {t u : Tm} (x : Tm) (h : Rws R t u) : Rws R (.g t x) (.g u x) := by
  induction h with
  | refl => exact .refl _
  | head h _ ih => exact .head (.gl x h) ih
theorem Rws.gr {t u : Tm} (x : Tm) (h : Rws R t u) : Rws R (.g x t) (.g x u) := by
  induction h with
  | refl => exact .refl _
  | head h _ ih => exact .head (.gr x h) ih
theorem Rw.ap {t u : Tm} (θ : Nat → Tm) (h : Rw R t u) : Rw R (t.ap θ) (u.ap θ) := by
  induction h with
  | root r s h e1 e2 => exact .root r (fun n => (s n).ap θ) h (by rw [e1, ap_ap]) (by rw [e2, ap_ap])
  | f _ ih => exact .f ih
  | gl x _ ih => exact .gl _ ih
  | gr x _ ih => exact .gr _ ih
theorem Rws.ap {t u : Tm} (θ : Nat → Tm) (h : Rws R t u) : Rws R (t.ap θ) (u.ap θ) := by
  induction h with
  | refl => exact .refl _
  | head h _ ih => exact .head (h.ap θ) ih
theorem Rws.inst {s s' : Nat → Tm} (h : ∀ n, Rws R (s n) (s' n)) : ∀ t : Tm, Rws R (t.ap s) (t.ap s')
  | .v n => h n
  | .c k => .refl _
  | .f t => (Rws.inst h t).f
  | .g t u => ((Rws.inst h t).gl _).trans ((Rws.inst h u).gr _)
/-- one image exchanged -/
def exI (s : Nat → Tm) (x : Nat) (w : Tm) : Nat → Tm := fun m => if m = x then w else s m
theorem exI_rws {s : Nat → Tm} {x : Nat} {w : Tm} (h : Rw R (s x) w) (n : Nat) : Rws R (s n) (exI s x w n) := by
  unfold exI
  by_cases e : n = x
  · rw [if_pos e, e]; exact .one h
  · rw [if_neg e]; exact .refl _
theorem nil_plc {t : Tm} (h : t.isV = false) : [] ∈ t.plc := by
  cases t with
  | v _ => cases h
  | c _ => simp [Tm.plc]
  | f _ => simp [Tm.plc]
  | g _ _ => simp [Tm.plc]
/-- a rewriting of an instance: at a place of the pattern, or within an image -/
theorem Rw.cases {s : Nat → Tm} : ∀ {l u : Tm}, Rw R (l.ap s) u →
    (∃ p r s2, p ∈ l.plc ∧ r ∈ R ∧ (l.sat p).ap s = r.1.ap s2 ∧ u = (l.ap s).put p (r.2.ap s2)) ∨ (∃ x w, Rw R (s x) w ∧ Rws R u (l.ap (exI s x w)))
  | .v n, u, h => .inr ⟨n, u, h, by simp only [Tm.ap, exI, if_pos]; exact .refl _⟩
  | .c k, u, h => by
    generalize e : (Tm.c k).ap s = t at h
    cases h with
    | root r s2 h e1 e2 => exact .inl ⟨[], r, s2, by simp [Tm.plc], h, by rw [← e1, ← e]; rfl, by rw [e2]; simp [Tm.put]⟩
    | f h => cases e
    | gl x h => cases e
    | gr x h => cases e
  | .f l, u, h => by
    generalize e : (Tm.f l).ap s = t at h
    cases h with
    | root r s2 h e1 e2 => exact .inl ⟨[], r, s2, by simp [Tm.plc], h, by rw [← e1, ← e]; rfl, by rw [e2]; simp [Tm.put]⟩
    | @f t u h =>
      simp only [Tm.ap, Tm.f.injEq] at e
      subst e
      rcases Rw.cases h with ⟨p, r, s2, h1, h2, h3, h4⟩ | ⟨x, w, h1, h2⟩
      · exact .inl ⟨1 :: p, r, s2, by simp [Tm.plc, h1], h2, h3, by rw [h4]; rfl⟩
      · exact .inr ⟨x, w, h1, h2.f⟩
    | gl x h => cases e
    | gr x h => cases e
  | .g l1 l2, u, h => by
    generalize e : (Tm.g l1 l2).ap s = t at h
    cases h with
    | root r s2 h e1 e2 => exact .inl ⟨[], r, s2, by simp [Tm.plc], h, by rw [← e1, ← e]; rfl, by rw [e2]; simp [Tm.put]⟩
    | f h => cases e
    | @gl t u x h =>
      simp only [Tm.ap, Tm.g.injEq] at e
      obtain ⟨rfl, rfl⟩ := e
      rcases Rw.cases h with ⟨p, r, s2, h1, h2, h3, h4⟩ | ⟨x, w, h1, h2⟩
      · exact .inl ⟨1 :: p, r, s2, by simp [Tm.plc, h1], h2, h3, by rw [h4]; rfl⟩
      · exact .inr ⟨x, w, h1, (h2.gl _).trans ((Rws.inst (exI_rws h1) l2).gr _)⟩
    | @gr t u x h =>
      simp only [Tm.ap, Tm.g.injEq] at e
      obtain ⟨rfl, rfl⟩ := e
      rcases Rw.cases h with ⟨p, r, s2, h1, h2, h3, h4⟩ | ⟨x, w, h1, h2⟩
      · exact .inl ⟨2 :: p, r, s2, by simp [Tm.plc, h1], h2, h3, by rw [h4]; rfl⟩
      · exact .inr ⟨x, w, h1, (h2.gr _).trans ((Rws.inst (exI_rws h1) l1).gl _)⟩
theorem put_ap {θ : Nat → Tm} {q : Tm} : ∀ {t : Tm} {p : List Nat}, p ∈ t.plc → (t.put p q).ap θ = (t.ap θ).put p (q.ap θ)
  | .v n, p, h => by cases h
  | .c k, p, h => by simp only [Tm.plc, List.mem_singleton] at h; subst h; simp [Tm.put]
  | .f t, p, h => by
    simp only [Tm.plc, List.mem_cons, List.mem_map] at h
    rcases h with rfl | ⟨p', h', rfl⟩
    · simp [Tm.put]
    · simp only [Tm.put, Tm.ap, put_ap h']
  | .g t u, p, h => by
    simp only [Tm.plc, List.mem_cons, List.mem_append, List.mem_map] at h
    rcases h with rfl | ⟨p', h', rfl⟩ | ⟨p', h', rfl⟩
    · simp [Tm.put]
    · simp only [Tm.put, Tm.ap, put_ap h']
    · simp only [Tm.put, Tm.ap, put_ap h']
theorem shift_ap {d : Nat} {θ : Nat → Tm} : ∀ t : Tm, (t.shift d).ap θ = t.ap fun n => θ (n + d)
  | .v _ => rfl
  | .c _ => rfl
  | .f t => by simp only [Tm.shift, Tm.ap, shift_ap t]
  | .g t u => by simp only [Tm.shift, Tm.ap, shift_ap t, shift_ap u]
theorem sat_has' {m : Nat} : ∀ {t : Tm} {p : List Nat}, p ∈ t.plc → (t.sat p).has m → t.has m
  | .v n, p, h, _ => by cases h
  | .c k, p, h, q => by simp only [Tm.plc, List.mem_singleton] at h; subst h; simpa [Tm.sat] using q
  | .f t, p, h, q => by
    simp only [Tm.plc, List.mem_cons, List.mem_map] at h
    rcases h with rfl | ⟨p', h', rfl⟩
    · simpa [Tm.sat] using q
    · exact sat_has' (t := t) h' (by simpa only [Tm.sat] using q)
  | .g t u, p, h, q => by
    simp only [Tm.plc, List.mem_cons, List.mem_append, List.mem_map] at h
    rcases h with rfl | ⟨p', h', rfl⟩ | ⟨p', h', rfl⟩
    · simpa [Tm.sat] using q
    · exact .inl (sat_has' (t := t) h' (by simpa only [Tm.sat] using q))
    · exact .inr (sat_has' (t := u) h' (by simpa only [Tm.sat] using q))
/-- the critical pairs of two rules are joined -/
def CPJ (R : List Rule) (r1 r2 : Rule) : Prop := ∃ b, (∀ m, r1.1.has m ∨ r1.2.has m → m < b) ∧ ∀ p, p ∈ r1.1.plc → (p ≠ [] ∨ r1 ≠ r2) → (∃ θ, Unif (r1.1.sat p) (r2.1.shift b) θ) →
  ∃ σ w, IsMgu (r1.1.sat p) (r2.1.shift b) σ ∧ Rws R ((r1.1.put p (r2.2.shift b)).ap σ) w ∧ Rws R (r1.2.ap σ) w
/-- no rule's right side has a variable of its own -/
def VOk (R : List Rule) : Prop := ∀ r, r ∈ R → ∀ m, r.2.has m → r.1.has m
theorem peak_root (hv : VOk R) (hc : ∀ r1 r2, r1 ∈ R → r2 ∈ R → CPJ R r1 r2) {r1 : Rule} {s : Nat → Tm} (h1 : r1 ∈ R) {u2 : Tm} (h2 : Rw R (r1.1.ap s) u2) : ∃ w, Rws R (r1.2.ap s) w ∧ Rws R u2 w := by
  rcases Rw.cases h2 with ⟨p, r2, s2, hp, hr2, e, rfl⟩ | ⟨x, w, hx, hw⟩
  · by_cases hcp : p ≠ [] ∨ r1 ≠ r2
    · obtain ⟨b, hb, hj⟩ := hc r1 r2 h1 hr2
      let θ : Nat → Tm := fun n => if n < b then s n else s2 (n - b)
      have c1 : ∀ {t : Tm}, (∀ m, t.has m → m < b) → t.ap θ = t.ap s := fun {t} ht => ap_congr fun m hm => if_pos (ht m hm)
      have c2 : ∀ t : Tm, (t.shift b).ap θ = t.ap s2 := fun t => by
        rw [shift_ap]
        refine ap_congr fun m _ => ?_
        show (if m + b < b then s (m + b) else s2 (m + b - b)) = s2 m
        rw [if_neg (by omega), Nat.add_sub_cancel]
      have un : Unif (r1.1.sat p) (r2.1.shift b) θ := by
        unfold Unif
        rw [c2, c1 fun m hm => hb m (.inl (sat_has' hp hm)), e]
      obtain ⟨σ, w, hm, w1, w2⟩ := hj p hp hcp ⟨θ, un⟩
      have fx : ∀ t : Tm, (t.ap σ).ap θ = t.ap θ := fun t => ap_fix (fun n => hm.most θ un n) t
      have w1' := w1.ap θ
      have w2' := w2.ap θ
      rw [fx, put_ap hp, c2, c1 fun m hm => hb m (.inl hm)] at w1'
      rw [fx, c1 fun m hm => hb m (.inr hm)] at w2'
      exact ⟨w.ap θ, w2', w1'⟩
    · have hp0 : p = [] := Classical.byContradiction fun q => hcp (.inl q)
      have er : r1 = r2 := Classical.byContradiction fun q => hcp (.inr q)
      subst hp0
      subst er
      simp only [Tm.sat] at e
      have ea := ap_inj e
      rw [show (r1.1.ap s).put [] (r1.2.ap s2) = r1.2.ap s2 by simp [Tm.put], ← ap_congr (s := s) (s' := s2) fun m hm => ea m (hv r1 h1 m hm)]
      exact ⟨_, .refl _, .refl _⟩
  · exact ⟨r1.2.ap (exI s x w), Rws.inst (exI_rws hx) _, hw.trans (.one (.root r1 _ h1 rfl rfl))⟩
theorem local_conf (hv : VOk R) (hc : ∀ r1 r2, r1 ∈ R → r2 ∈ R → CPJ R r1 r2) {t u1 : Tm} (h1 : Rw R t u1) : ∀ {u2 : Tm}, Rw R t u2 → ∃ w, Rws R u1 w ∧ Rws R u2 w := by
  induction h1 with
  | root r s h e1 e2 =>
    intro u2 h2
    subst e1
    subst e2
    exact peak_root hv hc h h2
  | @f t u h ih =>
    intro u2 h2
    cases h2 with
    | root r s h' e1 e2 =>
      subst e2
      obtain ⟨w, a, b⟩ := peak_root hv hc (s := s) h' (u2 := .f u) (by rw [← e1]; exact .f h)
      exact ⟨w, b, a⟩
    | f h' =>
      obtain ⟨w, a, b⟩ := ih h'
      exact ⟨_, a.f, b.f⟩
  | @gl t u x h ih =>
    intro u2 h2
    cases h2 with
    | root r s h' e1 e2 =>
      subst e2
      obtain ⟨w, a, b⟩ := peak_root hv hc (s := s) h' (u2 := .g u x) (by rw [← e1]; exact .gl x h)
      exact ⟨w, b, a⟩
    | gl _ h' =>
      obtain ⟨w, a, b⟩ := ih h'
      exact ⟨_, a.gl x, b.gl x⟩
    | gr _ h' => exact ⟨_, .one (.gr _ h'), .one (.gl _ h)⟩
  | @gr t u x h ih =>
    intro u2 h2
    cases h2 with
    | root r s h' e1 e2 =>
      subst e2
      obtain ⟨w, a, b⟩ := peak_root hv hc (s := s) h' (u2 := .g x u) (by rw [← e1]; exact .gr x h)
      exact ⟨w, b, a⟩
    | gl _ h' => exact ⟨_, .one (.gl _ h'), .one (.gr _ h)⟩
    | gr _ h' =>
      obtain ⟨w, a, b⟩ := ih h'
      exact ⟨_, a.gr x, b.gr x⟩
/-- Newman -/
theorem newman (wf : ∀ t : Tm, Acc (fun u t => Rw R t u) t) (lc : ∀ t u1 u2 : Tm, Rw R t u1 → Rw R t u2 → ∃ w, Rws R u1 w ∧ Rws R u2 w) (t : Tm) : ∀ u1 u2, Rws R t u1 → Rws R t u2 → ∃ w, Rws R u1 w ∧ Rws R u2 w := by
  induction wf t with
  | intro t _ ih =>
    intro u1 u2 h1 h2
    cases h1 with
    | refl => exact ⟨u2, h2, .refl _⟩
    | @head _ a1 _ a k1 =>
      cases h2 with
      | refl => exact ⟨u1, .refl _, .head a k1⟩
      | @head _ a2 _ b k2 =>
        obtain ⟨w, e1, e2⟩ := lc _ _ _ a b
        obtain ⟨x, f1, f2⟩ := ih a1 a u1 w k1 e1
        obtain ⟨y, g1, g2⟩ := ih a2 b u2 x k2 (e2.trans f2)
        exact ⟨y, f1.trans g2, g1⟩
/-! ### matching, and rewriting by the program's way -/
/-- a partial substitution that a total one goes on -/
def Agr (s : PSub) (θ : Nat → Tm) : Prop := ∀ n t, s n = some t → θ n = t
theorem Agr.set {s : PSub} {θ : Nat → Tm} {n : Nat} (h : Agr s θ) : Agr (s.set n (θ n)) θ := fun m t e => by
  unfold PSub.set at e
  by_cases q : m = n
  · rw [if_pos q] at e; cases e; rw [q]
  · rw [if_neg q] at e; exact h m t e
def Grows (s s' : PSub) : Prop := ∀ n t, s n = some t → s' n = some t
theorem mt_sound : ∀ {l t : Tm} {s s' : PSub}, mt l t s = some s' → Grows s s' ∧ (∀ n, l.has n → ∃ u, s' n = some u) ∧ ∀ s'', Grows s' s'' → l.ap s''.tot = t
  | .v n, t, s, s', h => by
    simp only [mt] at h
    cases e : s n with
    | some u =>
      rw [e] at h
      simp only at h
      split at h
      · rename_i eq
        cases h
        subst eq
        exact ⟨fun _ _ h => h, fun m hm => by have hm : n = m := hm; subst hm; exact ⟨_, e⟩, fun s'' g => by
          show (s'' n).getD _ = u
          rw [g n u e]; rfl⟩
      · cases h
    | none =>
      rw [e] at h
      simp only at h
      cases h
      refine ⟨fun m u hm => ?_, fun m hm => ⟨t, by have hm : n = m := hm; subst hm; exact if_pos rfl⟩, fun s'' g => ?_⟩
      · show (if m = n then some t else s m) = some u
        rw [if_neg fun q => by subst q; rw [e] at hm; cases hm]
        exact hm
      · show (s'' n).getD _ = t
        rw [g n t (if_pos rfl)]; rfl
  | .c k, t, s, s', h => by
    simp only [mt] at h
    split at h
    · rename_i eq
      cases h
      exact ⟨fun _ _ h => h, fun m hm => hm.elim, fun s'' _ => eq.symm⟩
    · cases h
  | .f p, t, s, s', h => by
    cases t with
    | f t =>
      simp only [mt] at h
      obtain ⟨a, b, c⟩ := mt_sound h
      exact ⟨a, b, fun s'' g => by simp only [Tm.ap, c s'' g]⟩
    | v _ => simp [mt] at h
    | c _ => simp [mt] at h
    | g _ _ => simp [mt] at h
  | .g p q, t, s, s', h => by
    cases t with
    | g t u =>
      simp only [mt] at h
      cases e : mt p t s with
      | none => rw [e] at h; cases h
      | some s1 =>
        rw [e] at h
        simp only at h
        obtain ⟨a1, b1, c1⟩ := mt_sound e
        obtain ⟨a2, b2, c2⟩ := mt_sound h
        refine ⟨fun n t h => a2 n t (a1 n t h), fun m hm => ?_, fun s'' g => ?_⟩
        · rcases hm with hm | hm
          · obtain ⟨u, hu⟩ := b1 m hm; exact ⟨u, a2 m u hu⟩
          · exact b2 m hm
        · simp only [Tm.ap]
          rw [c1 s'' fun n t h => g n t (a2 n t h), c2 s'' g]
    | v _ => simp [mt] at h
    | c _ => simp [mt] at h
    | f _ => simp [mt] at h
theorem mt_complete {θ : Nat → Tm} : ∀ {l : Tm} {s : PSub}, Agr s θ → ∃ s', mt l (l.ap θ) s = some s' ∧ Agr s' θ
  | .v n, s, h => by
    show ∃ s', (match s n with | some u => if u = θ n then some s else none | none => some (s.set n (θ n))) = some s' ∧ Agr s' θ
    cases e : s n with
    | some u =>
      show ∃ s', (if u = θ n then some s else none) = some s' ∧ Agr s' θ
      rw [if_pos (h n u e).symm]
      exact ⟨s, rfl, h⟩
    | none => exact ⟨_, rfl, h.set⟩
  | .c k, s, h => by simp only [mt, Tm.ap, if_pos]; exact ⟨s, rfl, h⟩
  | .f p, s, h => by simp only [mt, Tm.ap]; exact mt_complete h
  | .g p q, s, h => by
    simp only [mt, Tm.ap]
    obtain ⟨s1, e1, h1⟩ := mt_complete (l := p) h
    rw [e1]
    exact mt_complete h1
theorem mt_some {l t : Tm} {s : PSub} (h : mt l t PSub.nil = some s) : l.ap s.tot = t := (mt_sound h).2.2 s fun _ _ h => h
theorem Rw.put {q : Tm} : ∀ {t : Tm} {p : List Nat}, p ∈ t.plc → Rw R (t.sat p) q → Rw R t (t.put p q)
  | .v n, p, h, _ => by cases h
  | .c k, p, h, d => by simp only [Tm.plc, List.mem_singleton] at h; subst h; simpa [Tm.sat, Tm.put] using d
  | .f t, p, h, d => by
    simp only [Tm.plc, List.mem_cons, List.mem_map] at h
    rcases h with rfl | ⟨p', h', rfl⟩
    · simpa [Tm.sat, Tm.put] using d
    · exact .f (Rw.put h' (by simpa only [Tm.sat] using d))
  | .g t u, p, h, d => by
    simp only [Tm.plc, List.mem_cons, List.mem_append, List.mem_map] at h
    rcases h with rfl | ⟨p', h', rfl⟩ | ⟨p', h', rfl⟩
    · simpa [Tm.sat, Tm.put] using d
    · exact .gl _ (Rw.put h' (by simpa only [Tm.sat] using d))
    · exact .gr _ (Rw.put h' (by simpa only [Tm.sat] using d))
theorem stepAt_rw {t u : Tm} {p : List Nat} (hp : p ∈ t.plc) (h : stepAt R t p = some u) : Rw R t u := by
  unfold stepAt at h
  obtain ⟨r, hr, e⟩ := List.exists_of_findSome?_eq_some h
  obtain ⟨s, hs, rfl⟩ := Option.map_eq_some_iff.mp e
  exact Rw.put hp (.root r s.tot hr (mt_some hs).symm rfl)
theorem once_rw {t u : Tm} (h : once R t = some u) : Rw R t u := by
  unfold once at h
  obtain ⟨p, hp, e⟩ := List.exists_of_findSome?_eq_some h
  exact stepAt_rw hp e
theorem rw_place (hl : ∀ r, r ∈ R → r.1.isV = false) {t u : Tm} (h : Rw R t u) : ∃ p, p ∈ t.plc ∧ ∃ r s, r ∈ R ∧ t.sat p = r.1.ap s := by
  induction h with
  | @root t u r s h e1 e2 =>
    refine ⟨[], nil_plc ?_, r, s, h, by simpa [Tm.sat] using e1⟩
    have := hl r h
    subst e1
    cases hh : r.1 with
    | v _ => rw [hh] at this; cases this
    | c _ => rfl
    | f _ => rfl
    | g _ _ => rfl
  | f _ ih =>
    obtain ⟨p, h1, r, s, h2, h3⟩ := ih
    exact ⟨1 :: p, by simp [Tm.plc, h1], r, s, h2, by simpa only [Tm.sat] using h3⟩
  | gl x _ ih =>
    obtain ⟨p, h1, r, s, h2, h3⟩ := ih
    exact ⟨1 :: p, by simp [Tm.plc, h1], r, s, h2, by simpa only [Tm.sat] using h3⟩
  | gr x _ ih =>
    obtain ⟨p, h1, r, s, h2, h3⟩ := ih
    exact ⟨2 :: p, by simp [Tm.plc, h1], r, s, h2, by simpa only [Tm.sat] using h3⟩
theorem once_none (hl : ∀ r, r ∈ R → r.1.isV = false) {t u : Tm} (h : once R t = none) : ¬ Rw R t u := fun q => by
  obtain ⟨p, hp, r, s, hr, e⟩ := rw_place hl q
  have h1 := List.findSome?_eq_none_iff.mp h p hp
  have h2 := List.findSome?_eq_none_iff.mp h1 r hr
  obtain ⟨s', e', _⟩ := mt_complete (θ := s) (l := r.1) (s := PSub.nil) fun n t h => by cases h
  rw [e, e'] at h2
  cases h2
theorem nf_rws {t u : Tm} : ∀ {k : Nat} {t : Tm}, nf R k t = some u → Rws R t u ∧ once R u = none
  | 0, t, h => by cases h
  | k + 1, t, h => by
    unfold nf at h
    cases e : once R t with
    | none => rw [e] at h; cases h; exact ⟨.refl _, e⟩
    | some t2 =>
      rw [e] at h
      obtain ⟨a, b⟩ := nf_rws (t := t) h
      exact ⟨.head (once_rw e) a, b⟩
theorem nf_stops (wf : ∀ t : Tm, Acc (fun u t => Rw R t u) t) (t : Tm) : ∃ k u, nf R k t = some u := by
  induction wf t with
  | intro t _ ih =>
    cases e : once R t with
    | none => exact ⟨1, t, by unfold nf; rw [e]⟩
    | some t2 =>
      obtain ⟨k, u, h⟩ := ih t2 (once_rw e)
      exact ⟨k + 1, u, by unfold nf; rw [e]; exact h⟩
/-- in a confluent system two terms that are joined have one normal form -/
theorem nf_same (wf : ∀ t : Tm, Acc (fun u t => Rw R t u) t) (lc : ∀ t u1 u2 : Tm, Rw R t u1 → Rw R t u2 → ∃ w, Rws R u1 w ∧ Rws R u2 w) (hl : ∀ r, r ∈ R → r.1.isV = false) {t a b u v : Tm} {k j : Nat} (h1 : Rws R t a) (h2 : Rws R t b) (e1 : nf R k a = some u) (e2 : nf R j b = some v) : u = v := by
  obtain ⟨a1, n1⟩ := nf_rws (t := t) e1
  obtain ⟨a2, n2⟩ := nf_rws (t := t) e2
  obtain ⟨w, w1, w2⟩ := newman wf lc t u v (h1.trans a1) (h2.trans a2)
  have x1 : u = w := by
    cases w1 with
    | refl => rfl
    | head h _ => exact absurd h (once_none hl n1)
  have x2 : v = w := by
    cases w2 with
    | refl => rfl
    | head h _ => exact absurd h (once_none hl n2)
  rw [x1, x2]
end
end K78
end
section
set_option maxHeartbeats 4000000
/-! P4: the ordering ends, and what rewriting keeps -/
namespace K78
/-- the variables, as often as they occur -/
def vsl : Tm → List Nat
  | .v n => [n]
  | .c _ => []
  | .f t => vsl t
  | .g t u => vsl t ++ vsl u
theorem cnt_vsl (x : Nat) : ∀ t : Tm, t.cnt x = (vsl t).count x
  | .v n => by simp only [Tm.cnt, vsl, List.count_singleton, beq_iff_eq]
  | .c _ => rfl
  | .f t => by simp only [Tm.cnt, vsl, cnt_vsl x t]
  | .g t u => by simp only [Tm.cnt, vsl, List.count_append, cnt_vsl x t, cnt_vsl x u]
theorem sum_cnt_le {f : Nat → Nat} : ∀ {l2 l1 : List Nat}, (∀ m, l2.count m ≤ l1.count m) → (l2.map f).sum ≤ (l1.map f).sum
  | [], l1, _ => by simp
  | x :: l2, l1, h => by
    have hx : x ∈ l1 := by
      have := h x
      rw [List.count_cons_self] at this
      exact List.count_pos_iff.mp (by omega)
    have hp := List.perm_cons_erase hx
    have e : (l1.map f).sum = f x + ((l1.erase x).map f).sum := by
      rw [(hp.map f).sum_nat]; simp
    have ih := sum_cnt_le (f := f) (l2 := l2) (l1 := l1.erase x) fun m => by
      have := h m
      rw [hp.count_eq m] at this
      by_cases q : x = m
      · subst q
        rw [List.count_cons_self, List.count_cons_self] at this; omega
      · rw [List.count_cons_of_ne q, List.count_cons_of_ne q] at this; exact this
    rw [e, List.map_cons, List.sum_cons]
    omega
theorem cnt_ap (y : Nat) (σ : Nat → Tm) : ∀ t : Tm, (t.ap σ).cnt y = ((vsl t).map fun n => (σ n).cnt y).sum
  | .v n => by simp [Tm.ap, vsl]
  | .c _ => rfl
  | .f t => by simp only [Tm.ap, Tm.cnt, vsl, cnt_ap y σ t]
  | .g t u => by simp only [Tm.ap, Tm.cnt, vsl, cnt_ap y σ t, cnt_ap y σ u, List.map_append, List.sum_append]
theorem hasAll_ap {s t : Tm} (σ : Nat → Tm) (h : hasAll s t) : hasAll (s.ap σ) (t.ap σ) := fun y => by
  rw [cnt_ap, cnt_ap]
  exact sum_cnt_le fun m => by rw [← cnt_vsl, ← cnt_vsl]; exact h m
/-- the weights of the five symbols are positive -/
def PosW (w : Nat → Nat) : Prop := ∀ i, i < 5 → 1 ≤ w i
section
variable {w : Nat → Nat} {hi : Nat → Nat → Prop}
theorem wt_pos (hp : PosW w) : ∀ t : Tm, 1 ≤ t.wt w
  | .v n => Nat.le_refl _
  | .c k => hp k.val (by omega)
  | .f t => by have := hp 3 (by decide); simp only [Tm.wt]; omega
  | .g t u => by have := hp 4 (by decide); simp only [Tm.wt]; omega
theorem wt_ap_eq (hp : PosW w) (σ : Nat → Tm) : ∀ t : Tm, (t.ap σ).wt w = t.wt w + ((vsl t).map fun n => (σ n).wt w - 1).sum
  | .v n => by have := wt_pos hp (σ n); simp [Tm.ap, vsl, Tm.wt]; omega
  | .c _ => rfl
  | .f t => by simp only [Tm.ap, Tm.wt, vsl, wt_ap_eq hp σ t]; omega
  | .g t u => by simp only [Tm.ap, Tm.wt, vsl, wt_ap_eq hp σ t, wt_ap_eq hp σ u, List.map_append, List.sum_append]; omega
theorem wt_ap (hp : PosW w) {s t : Tm} (σ : Nat → Tm) (h : hasAll s t) : (t.ap σ).wt w + s.wt w ≤ (s.ap σ).wt w + t.wt w := by
  rw [wt_ap_eq hp, wt_ap_eq hp]
  have := sum_cnt_le (f := fun n => (σ n).wt w - 1) (l2 := vsl t) (l1 := vsl s) fun m => by rw [← cnt_vsl, ← cnt_vsl]; exact h m
  omega
theorem Gt.all {s t : Tm} (h : Gt w hi s t) : hasAll s t := ((Gt_iff s t).mp h).1
theorem Gt.wt {s t : Tm} (h : Gt w hi s t) : t.wt w ≤ s.wt w := by
  rcases ((Gt_iff s t).mp h).2 with q | ⟨q, _⟩ <;> omega
theorem Gt.of_lt {s t : Tm} (a : hasAll s t) (h : t.wt w < s.wt w) : Gt w hi s t := (Gt_iff s t).mpr ⟨a, .inl h⟩
theorem GtK_irr : ∀ l : List Tm, ¬ GtK w hi l l
  | [], h => h
  | a :: l, h => by
    rcases h with ⟨h, _⟩ | ⟨_, h⟩
    · exact h rfl
    · exact GtK_irr l h
theorem Gt.irr {t : Tm} (h : Gt w hi t t) : False := by
  rcases ((Gt_iff t t).mp h).2 with q | ⟨_, _, _, ⟨q, _⟩ | ⟨_, q⟩⟩
  · omega
  · exact q rfl
  · exact GtK_irr _ q
theorem Gt.ap (hp : PosW w) (σ : Nat → Tm) : ∀ {s t : Tm}, Gt w hi s t → Gt w hi (s.ap σ) (t.ap σ) := by
  have ir : ∀ {a b : Tm}, Gt w hi a b → a ≠ b := fun h e => by subst e; exact h.irr
  intro s
  induction s with
  | v n =>
    intro t h
    obtain ⟨h1, h2⟩ := (Gt_iff _ _).mp h
    rcases h2 with h2 | ⟨_, h2, _⟩
    · have := wt_pos hp t
      simp only [Tm.wt] at h2; omega
    · cases h2
  | c k =>
    intro t h
    obtain ⟨h1, h2⟩ := (Gt_iff _ _).mp h
    have a := hasAll_ap σ h1
    have b := wt_ap hp σ h1
    by_cases lt : (t.ap σ).wt w < ((Tm.c k).ap σ).wt w
    · exact .of_lt a lt
    · rcases h2 with h2 | ⟨e, n1, n2, h2⟩
      · omega
      · refine (Gt_iff _ _).mpr ⟨a, .inr ⟨by omega, rfl, ?_⟩⟩
        obtain ⟨c1, c2, c3⟩ := ap_kids' t σ n2
        refine ⟨c1, ?_⟩
        rw [c2, c3]
        rcases h2 with h2 | ⟨h2, h3⟩
        · exact .inl h2
        · exact h3.elim
  | f x ih =>
    intro t h
    obtain ⟨h1, h2⟩ := (Gt_iff _ _).mp h
    have a := hasAll_ap σ h1
    have b := wt_ap hp σ h1
    by_cases lt : (t.ap σ).wt w < ((Tm.f x).ap σ).wt w
    · exact .of_lt a lt
    · rcases h2 with h2 | ⟨e, n1, n2, h2⟩
      · omega
      · refine (Gt_iff _ _).mpr ⟨a, .inr ⟨by omega, rfl, ?_⟩⟩
        obtain ⟨c1, c2, c3⟩ := ap_kids' t σ n2
        refine ⟨c1, ?_⟩
        rw [c2, c3]
        rcases h2 with h2 | ⟨h2, h3⟩
        · exact .inl h2
        · refine .inr ⟨h2, ?_⟩
          revert h3
          generalize t.kids = ks
          intro h3
          cases ks with
          | nil => exact h3.elim
          | cons k ks =>
            rcases h3 with ⟨h3, h4⟩ | ⟨_, h4⟩
            · exact .inl ⟨ir (ih h4), ih h4⟩
            · exact h4.elim
  | g x y ih1 ih2 =>
    intro t h
    obtain ⟨h1, h2⟩ := (Gt_iff _ _).mp h
    have a := hasAll_ap σ h1
    have b := wt_ap hp σ h1
    by_cases lt : (t.ap σ).wt w < ((Tm.g x y).ap σ).wt w
    · exact .of_lt a lt
    · rcases h2 with h2 | ⟨e, n1, n2, h2⟩
      · omega
      · refine (Gt_iff _ _).mpr ⟨a, .inr ⟨by omega, rfl, ?_⟩⟩
        obtain ⟨c1, c2, c3⟩ := ap_kids' t σ n2
        refine ⟨c1, ?_⟩
        rw [c2, c3]
        rcases h2 with h2 | ⟨h2, h3⟩
        · exact .inl h2
        · refine .inr ⟨h2, ?_⟩
          revert h3
          generalize t.kids = ks
          intro h3
          cases ks with
          | nil => exact h3.elim
          | cons k ks =>
            rcases h3 with ⟨h3, h4⟩ | ⟨h3, h4⟩
            · exact .inl ⟨ir (ih1 h4), ih1 h4⟩
            · cases ks with
              | nil => exact h4.elim
              | cons k2 ks =>
                rcases h4 with ⟨h4, h5⟩ | ⟨_, h5⟩
                · exact .inr ⟨by rw [h3], .inl ⟨ir (ih2 h5), ih2 h5⟩⟩
                · exact h5.elim
theorem Gt.f {a b : Tm} (h : Gt w hi a b) : Gt w hi (.f a) (.f b) := by
  obtain ⟨h1, h2⟩ := (Gt_iff _ _).mp h
  refine (Gt_iff _ _).mpr ⟨fun m => h1 m, ?_⟩
  have l := h.wt
  by_cases e : b.wt w < a.wt w
  · exact .inl (by simp only [Tm.wt]; omega)
  · exact .inr ⟨by simp only [Tm.wt]; omega, rfl, rfl, .inr ⟨rfl, .inl ⟨fun e => by subst e; exact h.irr, h⟩⟩⟩
theorem Gt.gl {a b : Tm} (x : Tm) (h : Gt w hi a b) : Gt w hi (.g a x) (.g b x) := by
  obtain ⟨h1, h2⟩ := (Gt_iff _ _).mp h
  refine (Gt_iff _ _).mpr ⟨fun m => by have := h1 m; simp only [Tm.cnt]; omega, ?_⟩
  have l := h.wt
  by_cases e : b.wt w < a.wt w
  · exact .inl (by simp only [Tm.wt]; omega)
  · exact .inr ⟨by simp only [Tm.wt]; omega, rfl, rfl, .inr ⟨rfl, .inl ⟨fun e => by subst e; exact h.irr, h⟩⟩⟩
theorem Gt.gr {a b : Tm} (x : Tm) (h : Gt w hi a b) : Gt w hi (.g x a) (.g x b) := by
  obtain ⟨h1, h2⟩ := (Gt_iff _ _).mp h
  refine (Gt_iff _ _).mpr ⟨fun m => by have := h1 m; simp only [Tm.cnt]; omega, ?_⟩
  have l := h.wt
  by_cases e : b.wt w < a.wt w
  · exact .inl (by simp only [Tm.wt]; omega)
  · exact .inr ⟨by simp only [Tm.wt]; omega, rfl, rfl, .inr ⟨rfl, .inr ⟨rfl, .inl ⟨fun e => by subst e; exact h.irr, h⟩⟩⟩⟩
/-! ### the ordering ends -/
theorem hd5 (t : Tm) : t.hd < 5 := by
  cases t with
  | v _ => exact Nat.zero_lt_succ _
  | c k => have := k.isLt; show k.val < 5; omega
  | f _ => exact (by decide : 3 < 5)
  | g _ _ => exact (by decide : 4 < 5)
theorem Gt.acc_w (hp : PosW w) {rk : Nat → Nat} (hr : ∀ i j, i < 5 → j < 5 → hi i j → rk j < rk i) {W : Nat} (IH : ∀ t : Tm, t.wt w < W → Acc (fun u t => Gt w hi t u) t) :
    ∀ (k : Nat) (t : Tm), t.wt w = W → t.isV = false → rk t.hd < k → Acc (fun u t => Gt w hi t u) t
  | 0, _, _, _, h => absurd h (Nat.not_lt_zero _)
  | k + 1, t, e, nv, hk => by
    have IK := Gt.acc_w hp hr IH k
    have base : ∀ {x : Tm}, x.wt w = W → x.isV = false → rk x.hd < k + 1 → (∀ u : Tm, u.wt w = W → u.isV = false → u.hd = x.hd → GtK w hi x.kids u.kids → Acc (fun u t => Gt w hi t u) u) → Acc (fun u t => Gt w hi t u) x := by
      intro x ex nx hx hk
      refine Acc.intro x fun u hu => ?_
      rcases ((Gt_iff _ _).mp hu).2 with q | ⟨q, _, nu, ⟨ne, q2⟩ | ⟨eh, q2⟩⟩
      · exact IH u (by omega)
      · have := hr _ _ (hd5 x) (hd5 u) q2
        exact IK u (by omega) nu (by omega)
      · exact hk u (by omega) nu eh.symm q2
    cases t with
    | v _ => cases nv
    | c j =>
      have nk : ∀ l : List Tm, ¬ GtK w hi (Tm.c j).kids l := fun l q => by cases l <;> exact q
      exact base e nv hk fun u _ _ _ q => (nk _ q).elim
    | f a =>
      have key : ∀ a : Tm, Acc (fun u t => Gt w hi t u) a → (Tm.f a).wt w = W → Acc (fun u t => Gt w hi t u) (.f a) := by
        intro a ha
        induction ha with
        | intro a _ ih =>
          intro ea
          refine base ea rfl hk fun u eu nu hu q => ?_
          cases u with
          | v _ => cases nu
          | c j => simp only [Tm.hd] at hu; omega
          | g _ _ => simp [Tm.hd] at hu
          | f b =>
            rcases q with ⟨_, q⟩ | ⟨_, q⟩
            · exact ih b q eu
            · exact q.elim
      have p3 := hp 3 (by decide)
      exact key a (IH a (by simp only [Tm.wt] at e; omega)) e
    | g a1 a2 =>
      have p4 := hp 4 (by decide)
      have key : ∀ a1 : Tm, Acc (fun u t => Gt w hi t u) a1 → ∀ a2 : Tm, Acc (fun u t => Gt w hi t u) a2 → (Tm.g a1 a2).wt w = W → Acc (fun u t => Gt w hi t u) (.g a1 a2) := by
        intro a1 h1
        induction h1 with
        | intro a1 _ ih1 =>
          intro a2 h2
          induction h2 with
          | intro a2 _ ih2 =>
            intro ea
            refine base ea rfl hk fun u eu nu hu q => ?_
            cases u with
            | v _ => cases nu
            | c j => simp only [Tm.hd] at hu; omega
            | f _ => simp [Tm.hd] at hu
            | g b1 b2 =>
              rcases q with ⟨_, q⟩ | ⟨eq, q⟩
              · exact ih1 b1 q b2 (IH b2 (by simp only [Tm.wt] at eu; omega)) eu
              · rcases q with ⟨_, q⟩ | ⟨_, q⟩
                · subst eq
                  exact ih2 b2 q eu
                · exact q.elim
      exact key a1 (IH a1 (by simp only [Tm.wt] at e; omega)) a2 (IH a2 (by simp only [Tm.wt] at e; omega)) e
theorem Gt.acc' (hp : PosW w) {rk : Nat → Nat} (hr : ∀ i j, i < 5 → j < 5 → hi i j → rk j < rk i) : ∀ (W : Nat) (t : Tm), t.wt w < W → Acc (fun u t => Gt w hi t u) t
  | 0, _, h => absurd h (Nat.not_lt_zero _)
  | W + 1, t, h => by
    have IH := Gt.acc' hp hr W
    by_cases e : t.wt w < W
    · exact IH t e
    · cases hv : t.isV with
      | true =>
        refine Acc.intro t fun u hu => ?_
        rcases ((Gt_iff _ _).mp hu).2 with q | ⟨_, q, _⟩
        · have := wt_pos hp u
          cases t with
          | v n => simp only [Tm.wt] at q; omega
          | c _ => cases hv
          | f _ => cases hv
          | g _ _ => cases hv
        · rw [hv] at q; cases q
      | false => exact Gt.acc_w hp hr IH _ t (by omega) hv (Nat.lt_succ_self _)
theorem Gt.acc (hp : PosW w) {rk : Nat → Nat} (hr : ∀ i j, i < 5 → j < 5 → hi i j → rk j < rk i) (t : Tm) : Acc (fun u t => Gt w hi t u) t := Gt.acc' hp hr _ t (Nat.lt_succ_self _)
theorem Gt.asymm (hp : PosW w) {rk : Nat → Nat} (hr : ∀ i j, i < 5 → j < 5 → hi i j → rk j < rk i) {s : Tm} : ∀ {t : Tm}, Gt w hi s t → ¬ Gt w hi t s := by
  induction Gt.acc hp hr s with
  | intro s _ ih => exact fun {t} h1 h2 => ih t h1 h2 h1
theorem Rw.gt (hp : PosW w) {R : List Rule} (hR : ∀ r, r ∈ R → Gt w hi r.1 r.2) {t u : Tm} (h : Rw R t u) : Gt w hi t u := by
  induction h with
  | root r s h e1 e2 => subst e1; subst e2; exact (hR r h).ap hp s
  | f _ ih => exact ih.f
  | gl x _ ih => exact ih.gl x
  | gr x _ ih => exact ih.gr x
theorem Rw.acc (hp : PosW w) {rk : Nat → Nat} (hr : ∀ i j, i < 5 → j < 5 → hi i j → rk j < rk i) {R : List Rule} (hR : ∀ r, r ∈ R → Gt w hi r.1 r.2) (t : Tm) : Acc (fun u t => Rw R t u) t :=
  Subrelation.accessible (r := fun u t => Gt w hi t u) (fun {a b} h => Rw.gt hp hR h) (Gt.acc hp hr t)
end
/-! ### bounds that rewriting keeps -/
structure WBd (w : Nat → Nat) : Prop where
  pos : PosW w
  low : ∀ i, i < 5 → i ≠ 3 → w i ≤ 3
  f : w 3 ≤ 3 ∨ 1000 ≤ w 3
def Kf (w : Nat → Nat) : Nat := if w 3 ≤ 3 then w 3 else 3 * w 4 + 11
def wx (w : Nat → Nat) (k : Nat) : Nat → Nat := fun i => if i = 3 then k else w i
def phi (w : Nat → Nat) (t : Tm) : Nat := t.wt (wx w (Kf w))
section
variable {w : Nat → Nat}
theorem wx_c (k : Nat) (j : Fin 3) : wx w k j.val = w j.val := if_neg (by have := j.isLt; omega)
theorem wx_3 (k : Nat) : wx w k 3 = k := if_pos rfl
theorem wx_4 (k : Nat) : wx w k 4 = w 4 := if_neg (by decide)
theorem wt_wx (k : Nat) : ∀ t : Tm, t.wt (wx w k) = k * fcnt t + t.wt (wx w 0)
  | .v n => by simp [Tm.wt, fcnt]
  | .c j => by simp only [Tm.wt, fcnt, wx_c]; omega
  | .f t => by simp only [Tm.wt, fcnt, wx_3, wt_wx k t, Nat.mul_add]; omega
  | .g t u => by simp only [Tm.wt, fcnt, wx_4, wt_wx k t, wt_wx k u, Nat.mul_add]; omega
theorem wx_self : wx w (w 3) = w := by
  funext i
  unfold wx
  by_cases h : i = 3
  · rw [if_pos h, h]
  · rw [if_neg h]
theorem Kf_pos (h : WBd w) : 1 ≤ Kf w := by
  unfold Kf
  have := h.pos 3 (by decide)
  split <;> omega
theorem wx_pos (h : WBd w) : PosW (wx w (Kf w)) := fun i hi => by
  unfold wx
  split
  · exact Kf_pos h
  · exact h.pos i hi
theorem w0_le (h : WBd w) : ∀ t : Tm, t.wt (wx w 0) + 3 * fcnt t ≤ 3 * t.size
  | .v n => by simp [Tm.wt, fcnt, Tm.size]
  | .c j => by have := h.low j.val (by omega) (by omega); simp only [Tm.wt, fcnt, Tm.size, wx_c]; omega
  | .f t => by have := w0_le h t; simp only [Tm.wt, fcnt, Tm.size, wx_3]; omega
  | .g t u => by have := w0_le h t; have := w0_le h u; have := h.low 4 (by decide) (by decide); simp only [Tm.wt, fcnt, Tm.size, wx_4]; omega
theorem w0_pos (h : WBd w) : ∀ t : Tm, 1 ≤ t.wt (wx w 0)
  | .v n => Nat.le_refl _
  | .c j => by have := h.pos j.val (by omega); simp only [Tm.wt, wx_c]; omega
  | .f t => by have := w0_pos h t; simp only [Tm.wt]; omega
  | .g t u => by have := w0_pos h t; simp only [Tm.wt]; omega
theorem w0_nest (h : WBd w) {t : Tm} : (t.nest ≤ 1 → t.wt (wx w 0) ≤ 3) ∧ (t.nest ≤ 2 → t.wt (wx w 0) ≤ w 4 + 6) ∧ (t.nest ≤ 3 → t.wt (wx w 0) ≤ 3 * w 4 + 12) := by
  induction t with
  | v _ => simp only [Tm.wt]; omega
  | c j => have := h.low j.val (by omega) (by omega); simp only [Tm.wt, wx_c]; omega
  | f t ih =>
    obtain ⟨h1, h2, h3⟩ := ih
    have := nest_pos' t
    simp only [Tm.nest, Tm.wt, wx_3]
    refine ⟨fun h => by omega, fun h => ?_, fun h => ?_⟩
    · have := h1 (by omega); omega
    · have := h2 (by omega); omega
  | g t u ih1 ih2 =>
    obtain ⟨h1, h2, h3⟩ := ih1
    obtain ⟨k1, k2, k3⟩ := ih2
    have := nest_pos' t
    simp only [Tm.nest, Tm.wt, wx_4]
    refine ⟨fun h => by omega, fun h => ?_, fun h => ?_⟩
    · have := h1 (by omega); have := k1 (by omega); omega
    · have := h2 (by omega); have := k2 (by omega); omega
theorem n3_size {t : Tm} (h : N3 t) : t.size ≤ 8 := by
  rcases h with q | ⟨a, rfl, q⟩
  · have := (small3 (t := t)).2.2 q; omega
  · have := (small3 (t := a)).2.2 q; simp only [Tm.size]; omega
/-- what is known of a rule -/
structure RP (w : Nat → Nat) (r : Rule) : Prop where
  n1 : N3 r.1
  n2 : r.2.nest ≤ 3
  nv : r.1.isV = false
  all : hasAll r.1 r.2
  wt : r.2.wt w ≤ r.1.wt w
theorem RP.le {r : Rule} (h : WBd w) (p : RP w r) : phi w r.2 ≤ phi w r.1 := by
  unfold K78.phi
  by_cases hl : w 3 ≤ 3
  · have e : Kf w = w 3 := if_pos hl
    rw [e, wx_self]; exact p.wt
  · have hf : 1000 ≤ w 3 := by rcases h.f with q | q <;> omega
    have e : Kf w = 3 * w 4 + 11 := if_neg hl
    have hw := p.wt
    rw [← wx_self (w := w), wt_wx (w 3) r.1, wt_wx (w 3) r.2] at hw
    rw [wt_wx (Kf w) r.1, wt_wx (Kf w) r.2, e]
    have a1 := w0_le h r.1
    have a2 := n3_size p.n1
    have a3 := w0_pos h r.1
    have a4 := (w0_nest h (t := r.2)).2.2 p.n2
    generalize r.1.wt (wx w 0) = o1 at *
    generalize r.2.wt (wx w 0) = o2 at *
    generalize fcnt r.1 = f1 at *
    generalize fcnt r.2 = f2 at *
    by_cases c1 : f1 < f2
    · have := Nat.mul_le_mul_left (w 3) (show f1 + 1 ≤ f2 from c1)
      rw [Nat.mul_add] at this
      omega
    · by_cases c2 : f1 = f2
      · subst c2; omega
      · have := Nat.mul_le_mul_left (3 * w 4 + 11) (show f2 + 1 ≤ f1 by omega)
        rw [Nat.mul_add] at this
        omega
theorem RP.step {R : List Rule} (h : WBd w) (hR : ∀ r, r ∈ R → RP w r) {t u : Tm} (k : Rw R t u) : phi w u ≤ phi w t := by
  induction k with
  | root r s hr e1 e2 =>
    subst e1; subst e2
    have a := wt_ap (wx_pos h) s (hR r hr).all
    have b := (hR r hr).le h
    unfold K78.phi at b ⊢
    omega
  | f _ ih => unfold K78.phi at ih ⊢; simp only [Tm.wt]; omega
  | gl _ _ ih => unfold K78.phi at ih ⊢; simp only [Tm.wt]; omega
  | gr _ _ ih => unfold K78.phi at ih ⊢; simp only [Tm.wt]; omega
/-- the bound -/
def GB (w : Nat → Nat) (t : Tm) : Prop := phi w t ≤ 96 + 9 * (Kf w - 3)
theorem GB.of {t : Tm} (h : WBd w) (s : t.size ≤ 32) (f : fcnt t ≤ 9) : GB w t := by
  unfold GB K78.phi
  rw [wt_wx]
  have a := w0_le h t
  by_cases hl : w 3 ≤ 3
  · have e : Kf w = w 3 := if_pos hl
    have p := h.pos 3 (by decide)
    rw [e]
    have := Nat.mul_le_mul_right (fcnt t) hl
    omega
  · have e : Kf w = 3 * w 4 + 11 := if_neg hl
    rw [e]
    obtain ⟨c, hc⟩ : ∃ c, 3 * w 4 + 11 = c + 3 := ⟨3 * w 4 + 8, rfl⟩
    rw [hc, Nat.add_mul, Nat.add_sub_cancel]
    have := Nat.mul_le_mul_left c f
    rw [Nat.mul_comm c 9] at this
    omega
theorem phi_nest (h : WBd w) (d : Nat) (h1 : d ≤ Kf w) (h2 : d ≤ w 4 + 1) : ∀ t : Tm, d * t.nest + 1 ≤ phi w t + d
  | .v n => by simp only [phi, Tm.wt, Tm.nest]; omega
  | .c j => by have := h.pos j.val (by omega); simp only [phi, Tm.wt, Tm.nest, wx_c]; omega
  | .f t => by
    have := phi_nest h d h1 h2 t
    simp only [phi] at this
    simp only [phi, Tm.wt, Tm.nest, wx_3, Nat.mul_add]
    omega
  | .g t u => by
    have a := phi_nest h d h1 h2 t
    have b := phi_nest h d h1 h2 u
    have p1 := wt_pos (wx_pos h) t
    have p2 := wt_pos (wx_pos h) u
    simp only [phi] at a b
    simp only [phi, Tm.wt, Tm.nest, wx_4, Nat.mul_add]
    rcases Nat.le_total t.nest u.nest with q | q
    · rw [Nat.max_eq_right q]; omega
    · rw [Nat.max_eq_left q]; omega
theorem size_wt {w : Nat → Nat} (hp : PosW w) : ∀ t : Tm, t.size ≤ t.wt w
  | .v n => Nat.le_refl _
  | .c j => hp j.val (by omega)
  | .f t => by have := size_wt hp t; have := hp 3 (by decide); simp only [Tm.size, Tm.wt]; omega
  | .g t u => by have := size_wt hp t; have := size_wt hp u; have := hp 4 (by decide); simp only [Tm.size, Tm.wt]; omega
theorem GB.size {t : Tm} (h : WBd w) (g : GB w t) : t.size ≤ 249 := by
  have a := size_wt (wx_pos h) t
  unfold GB phi at g
  have b := h.low 4 (by decide) (by decide)
  by_cases hl : w 3 ≤ 3
  · have e : Kf w = w 3 := if_pos hl
    omega
  · have e : Kf w = 3 * w 4 + 11 := if_neg hl
    omega
theorem GB.nest {t : Tm} (h : WBd w) (g : GB w t) : t.nest ≤ 100 := by
  have b := h.low 4 (by decide) (by decide)
  have c := h.pos 4 (by decide)
  have k := Kf_pos h
  unfold GB at g
  by_cases hl : w 3 ≤ 3
  · have e : Kf w = w 3 := if_pos hl
    have := phi_nest h 1 k (by omega) t
    omega
  · have e : Kf w = 3 * w 4 + 11 := if_neg hl
    have q := phi_nest h (w 4 + 1) (by omega) (Nat.le_refl _) t
    have cs : w 4 = 1 ∨ w 4 = 2 ∨ w 4 = 3 := by omega
    rcases cs with cs | cs | cs <;> rw [cs] at q <;> omega
theorem GB.step {R : List Rule} (h : WBd w) (hR : ∀ r, r ∈ R → RP w r) {t u : Tm} (g : GB w t) (k : Rw R t u) : GB w u := Nat.le_trans (RP.step h hR k) g
theorem GB.inst (h : WBd w) {t : Tm} {σ : Nat → Tm} (n : N3 t) (hs : ∀ n, (σ n).nest ≤ 3) : GB w (t.ap σ) := by
  have := inst_n3 hs n
  exact GB.of h this.1 this.2
end
theorem put_big {q : Tm} : ∀ {t : Tm} {p : List Nat}, p ∈ t.plc → q.nest ≤ (t.put p q).nest ∧ q.size ≤ (t.put p q).size
  | .v n, p, h => by cases h
  | .c k, p, h => by simp only [Tm.plc, List.mem_singleton] at h; subst h; simp [Tm.put]
  | .f t, p, h => by
    simp only [Tm.plc, List.mem_cons, List.mem_map] at h
    rcases h with rfl | ⟨p', h', rfl⟩
    · simp [Tm.put]
    · have := put_big (q := q) h'
      simp only [Tm.put, Tm.nest, Tm.size]
      omega
  | .g t u, p, h => by
    simp only [Tm.plc, List.mem_cons, List.mem_append, List.mem_map] at h
    rcases h with rfl | ⟨p', h', rfl⟩ | ⟨p', h', rfl⟩
    · simp [Tm.put]
    · have := put_big (q := q) h'
      simp only [Tm.put, Tm.nest, Tm.size]
      omega
    · have := put_big (q := q) h'
      simp only [Tm.put, Tm.nest, Tm.size]
      omega
end K78
end
section
set_option maxHeartbeats 4000000
/-! W0: the text by places; a def as a datum; a def's promise by its name; terms. -/
namespace K78
open PySem PySem.Spec PyProof.Rows L2
def top (i : Nat) : Stmt := PySem.Challenge.pw_elenchus_k78_whole_converging_rules.main.body.getD i (.Pass ⟨0, 0, 0, 0⟩)

/-- a def of the top: its function object stands under its name, its arguments bind one by one -/
structure DF (K : PySem.W.Frag) (mg : Str → Option Value) (x : Str) (st : Stmt) (ps : List Str) : Prop where
  ex : ∃ (f : Addr) (fd : FuncData), mg x = some (.ref f) ∧ Fun K x x st f fd ∧ Binds K fd ps []

/-- where a function's data stand -/
def Lk (K : PySem.W.Frag) (f : Addr) (fd : FuncData) : Prop := ∃ oc od osl, List.lookup f K = some ⟨oc, od, .func fd, osl⟩
theorem lk_of {K : PySem.W.Frag} {x qual : Str} {st : Stmt} {f : Addr} {fd : FuncData} (F : Fun K x qual st f fd) : Lk K f fd := by
  obtain ⟨oc, od, _, _, _, _, _, _, osl, _, h, _⟩ := F.ex
  exact ⟨oc, od, osl, h⟩
/-- a def of the top keeps a promise, by at most level k -/
def OkD (P : Program) (w : World) (K : PySem.W.Frag) (mg : Str → Option Value) (base : Heap) (k : Nat) (x : Str) (ps : List Str) (sp : Sp) : Prop :=
  ∃ (f : Addr) (fd : FuncData), mg x = some (.ref f) ∧ PySem.W.keepIn K (.ref f) = true ∧ Binds K fd ps [] ∧ FnOk P w K mg base CX0 k f fd ps sp ∧ Lk K f fd

section
variable {P : Program} {w : World} {K : PySem.W.Frag} {mg : Str → Option Value} {base : Heap}
theorem OkD.mono {j k : Nat} {x : Str} {ps : List Str} {sp : Sp} (G : OkD P w K mg base j x ps sp) (h : j ≤ k) : OkD P w K mg base k x ps sp := by
  obtain ⟨f, fd, a, b, c, d, e⟩ := G
  exact ⟨f, fd, a, b, c, d.mono h, e⟩
theorem OkD.imp {k : Nat} {x : Str} {ps : List Str} {sp sp' : Sp} (G : OkD P w K mg base k x ps sp) (h : ∀ vs H Q E, sp' vs H Q E → sp vs H Q E) : OkD P w K mg base k x ps sp' := by
  obtain ⟨f, fd, a, b, c, d, e⟩ := G
  exact ⟨f, fd, a, b, c, d.imp h, e⟩
/-- the rule for a def: its body's term and the reading -/
theorem DF.ok {x : Str} {st : Stmt} {N ps : List Str} {k : Nat} {sp : Sp} (D : DF K mg x st ps) (S : FnScope N ps (defScope st)) (len : ∀ vs H Q E, sp vs H Q E → vs.length = ps.length)
    (hbody : ∀ (f : Addr) (cdv : Value) (A : Around) (outer : List Env) (s : Shared) (H : Hp) (vs : List V) (Q : VK) (E : XK), Room k (A.deeper (envOfC x (defScope st) s.heap.objs.size f cdv)) → sp vs H Q E →
      ∃ t, PSs (cxOf CX0 P w K mg base N x (defScope st) f cdv A outer s H E).nox (defBody st) t ∧ t { nx := fun _ H' => Q .non H', rt := Q } (start N vs) H) : OkD P w K mg base (k + 1) x ps sp := by
  obtain ⟨f, fd, hm, F, hb⟩ := D.ex
  exact ⟨f, fd, hm, F.kp, hb, F.ok S len fun cdv A outer s H vs Q E hr h => hbody f cdv A outer s H vs Q E hr h, lk_of F⟩
/-- a promise that holds for each of several parameters holds for any of them -/
theorem OkD.any {α : Type} {k : Nat} {x : Str} {ps : List Str} {C : α → Prop} {sp : α → Sp} {a0 : α} (h0 : C a0) (G : ∀ a, C a → OkD P w K mg base k x ps (sp a)) : OkD P w K mg base k x ps (fun vs H Q E => ∃ a, C a ∧ sp a vs H Q E) := by
  obtain ⟨f, fd, m, kp, b, F, oc, od, osl, l⟩ := G a0 h0
  have key : ∀ a, C a → FnOk P w K mg base CX0 k f fd ps (sp a) := fun a ha => by
    obtain ⟨f', fd', m', _, _, F', oc', od', osl', l'⟩ := G a ha
    rw [m] at m'
    cases m'
    rw [l] at l'
    cases l'
    exact F'
  exact ⟨f, fd, m, kp, b, ⟨fun vs H Q E ⟨a, ha, h⟩ => (key a ha).len vs H Q E h, fun A outer s H args us vs Q E r e bt v ⟨a, ha, h⟩ => (key a ha).run A outer s H args us vs Q E r e bt v h⟩, oc, od, osl, l⟩
/-- with nothing to spare: a promise that asks what cannot be -/
theorem DF.ok0 {x : Str} {st : Stmt} {ps : List Str} {sp : Sp} (D : DF K mg x st ps) (no : ∀ vs H Q E, ¬ sp vs H Q E) : OkD P w K mg base 0 x ps sp := by
  obtain ⟨f, fd, hm, F, hb⟩ := D.ex
  exact ⟨f, fd, hm, F.kp, hb, ⟨fun vs H Q E h => absurd h (no vs H Q E), fun A outer s H args us vs Q E _ _ _ _ h => absurd h (no vs H Q E)⟩, lk_of F⟩
end


/-! ### terms on the heap -/
def sy (N : List Str) (t : Tm) : Str := N.getD t.hd ""
def TmAt (N : List Str) (H : Hp) : Tm → V → Prop
  | .v n, x => x = .int n
  | .c k, x => ∃ a, x = .ref a ∧ H a = some (.tup [.str (N.getD k.val "")])
  | .f t, x => ∃ a y, x = .ref a ∧ H a = some (.tup [.str (N.getD 3 ""), y]) ∧ TmAt N H t y
  | .g t u, x => ∃ a y z, x = .ref a ∧ H a = some (.tup [.str (N.getD 4 ""), y, z]) ∧ TmAt N H t y ∧ TmAt N H u z
/-- two lists, place by place -/
def AllAt {α : Type} (R : α → V → Prop) : List α → List V → Prop
  | [], ys => ys = []
  | t :: ts, ys => ∃ z zs, ys = z :: zs ∧ R t z ∧ AllAt R ts zs
section
variable {α : Type} {R R' : α → V → Prop}
theorem AllAt.mono (e : ∀ a x, R a x → R' a x) : ∀ {ts : List α} {ys : List V}, AllAt R ts ys → AllAt R' ts ys
  | [], _, h => h
  | _ :: _, _, ⟨z, zs, h1, h2, h3⟩ => ⟨z, zs, h1, e _ _ h2, AllAt.mono e h3⟩
theorem AllAt.length : ∀ {ts : List α} {ys : List V}, AllAt R ts ys → ys.length = ts.length
  | [], _, h => by cases h; rfl
  | _ :: _, _, ⟨z, zs, h1, _, h3⟩ => by subst h1; rw [List.length_cons, List.length_cons, AllAt.length h3]
theorem AllAt.get : ∀ {ts : List α} {ys : List V} {i : Nat} {y : V}, AllAt R ts ys → ys[i]? = some y → ∃ u, ts[i]? = some u ∧ R u y
  | [], _, i, y, h, e => by cases h; simp at e
  | t :: _, _, 0, y, ⟨z, zs, h1, h2, h3⟩, e => by subst h1; simp at e; subst e; exact ⟨t, rfl, h2⟩
  | _ :: _, _, i + 1, y, ⟨z, zs, h1, _, h3⟩, e => by
    subst h1
    rw [List.getElem?_cons_succ] at e
    obtain ⟨u, a, b⟩ := AllAt.get h3 e
    exact ⟨u, by rw [List.getElem?_cons_succ]; exact a, b⟩
theorem AllAt.get' : ∀ {ts : List α} {ys : List V} {i : Nat} {u : α}, AllAt R ts ys → ts[i]? = some u → ∃ y, ys[i]? = some y ∧ R u y := fun {ts ys i u} h e => by
  have hl : i < ts.length := (List.getElem?_eq_some_iff.mp e).1
  have hy : i < ys.length := by rw [h.length]; exact hl
  have ey := List.getElem?_eq_getElem hy
  obtain ⟨u', a, b⟩ := h.get ey
  rw [e] at a
  cases a
  exact ⟨_, ey, b⟩
theorem AllAt.append : ∀ {ts us : List α} {ys zs : List V}, AllAt R ts ys → AllAt R us zs → AllAt R (ts ++ us) (ys ++ zs)
  | [], _, _, _, h, e => by cases h; exact e
  | _ :: _, _, _, _, ⟨z, zs, h1, h2, h3⟩, e => by subst h1; exact ⟨z, _, rfl, h2, AllAt.append h3 e⟩
theorem AllAt.one {u : α} {y : V} (h : R u y) : AllAt R [u] [y] := ⟨y, [], rfl, h, rfl⟩
theorem AllAt.snoc {ts : List α} {ys : List V} {u : α} {y : V} (h : AllAt R ts ys) (e : R u y) : AllAt R (ts ++ [u]) (ys ++ [y]) := h.append (.one e)
theorem AllAt.set : ∀ {ts : List α} {ys : List V} {i : Nat} {u : α} {y : V}, AllAt R ts ys → R u y → AllAt R (ts.set i u) (ys.set i y)
  | [], _, _, _, _, h, _ => by cases h; rfl
  | _ :: _, _, 0, u, y, ⟨z, zs, h1, h2, h3⟩, e => by subst h1; exact ⟨y, zs, rfl, e, h3⟩
  | _ :: _, _, i + 1, u, y, ⟨z, zs, h1, h2, h3⟩, e => by subst h1; exact ⟨z, _, rfl, h2, AllAt.set h3 e⟩
theorem AllAt.drop : ∀ {ts : List α} {ys : List V} (n : Nat), AllAt R ts ys → AllAt R (ts.drop n) (ys.drop n)
  | _, _, 0, h => h
  | [], _, _ + 1, h => by cases h; rfl
  | _ :: _, _, n + 1, ⟨z, zs, h1, h2, h3⟩ => by subst h1; exact AllAt.drop n h3
theorem AllAt.nil_iff {ts : List α} {ys : List V} (h : AllAt R ts ys) : ys.isEmpty = ts.isEmpty := by
  cases ts with
  | nil => cases h; rfl
  | cons a r => obtain ⟨z, zs, rfl, _⟩ := h; rfl
theorem AllAt.mapF {β : Type} {S : β → V → Prop} {f : α → β} : ∀ {ts : List α} {ys : List V}, AllAt R ts ys → (∀ a y, a ∈ ts → R a y → S (f a) y) → AllAt S (ts.map f) ys
  | [], _, h, _ => h
  | _ :: _, _, ⟨z, zs, h1, h2, h3⟩, e => ⟨z, zs, h1, e _ _ (List.mem_cons_self ..) h2, AllAt.mapF h3 fun a y hm => e a y (List.mem_cons_of_mem _ hm)⟩
end
abbrev TmsAt (N : List Str) (H : Hp) : List Tm → List V → Prop := AllAt (TmAt N H)
section
variable {N : List Str} {H H' : Hp} {t : Tm} {x : V}
theorem TmAt.mono (e : ∀ b xs, H b = some (.tup xs) → H' b = some (.tup xs)) : ∀ {t : Tm} {x : V}, TmAt N H t x → TmAt N H' t x
  | .v _, _, h => h
  | .c _, _, ⟨a, h1, h2⟩ => ⟨a, h1, e _ _ h2⟩
  | .f _, _, ⟨a, y, h1, h2, h3⟩ => ⟨a, y, h1, e _ _ h2, TmAt.mono e h3⟩
  | .g _ _, _, ⟨a, y, z, h1, h2, h3, h4⟩ => ⟨a, y, z, h1, e _ _ h2, TmAt.mono e h3, TmAt.mono e h4⟩
theorem TmAt.same (h : TmAt N H t x) (e : Same H H') : TmAt N H' t x := h.mono fun b xs q => e b _ q
theorem TmsAt.mono (e : ∀ b xs, H b = some (.tup xs) → H' b = some (.tup xs)) {ts : List Tm} {ys : List V} (h : TmsAt N H ts ys) : TmsAt N H' ts ys := AllAt.mono (fun _ _ q => q.mono e) h
theorem TmsAt.same {ts : List Tm} {ys : List V} (h : TmsAt N H ts ys) (e : Same H H') : TmsAt N H' ts ys := TmsAt.mono (fun b xs q => e b _ q) h
/-- a variable is an int, any other term a tuple of its symbol and its arguments -/
theorem TmAt.app (h : TmAt N H t x) (n : t.isV = false) : ∃ a ys, x = .ref a ∧ H a = some (.tup (.str (sy N t) :: ys)) ∧ TmsAt N H t.kids ys := by
  cases t with
  | v n' => cases n
  | c k => obtain ⟨a, h1, h2⟩ := h; exact ⟨a, [], h1, h2, rfl⟩
  | f t => obtain ⟨a, y, h1, h2, h3⟩ := h; exact ⟨a, [y], h1, h2, y, [], rfl, h3, rfl⟩
  | g t u => obtain ⟨a, y, z, h1, h2, h3, h4⟩ := h; exact ⟨a, [y, z], h1, h2, y, [z], rfl, h3, z, [], rfl, h4, rfl⟩
theorem TmAt.mk {a : Addr} {ys : List V} (n : t.isV = false) (h : H a = some (.tup (.str (sy N t) :: ys))) (k : TmsAt N H t.kids ys) : TmAt N H t (.ref a) := by
  cases t with
  | v n' => cases n
  | c i => cases k; exact ⟨a, rfl, h⟩
  | f t => obtain ⟨y, zs, rfl, h3, e⟩ := k; cases e; exact ⟨a, y, rfl, h, h3⟩
  | g t u => obtain ⟨y, zs, rfl, h3, z, zs', rfl, h4, e⟩ := k; cases e; exact ⟨a, y, z, rfl, h, h3, h4⟩
theorem TmAt.isV_int (h : TmAt N H t x) (n : t.isV = true) : ∃ k : Nat, t = .v k ∧ x = .int k := by
  cases t with
  | v k => exact ⟨k, rfl, h⟩
  | c _ => cases n
  | f _ => cases n
  | g _ _ => cases n
end
/-! ### heaps -/
theorem same_new {H : Hp} {p : Addr} (h : H p = none) (o : HO) : Same H (upd H p o) := fun b u q => by rw [upd_ne (ne_of_none q h)]; exact q
theorem szT {n : Nat} (h : n ≤ 100000) : n ≤ sizeLine := Nat.le_trans h (by decide)

/-! ### isinstance of a term -/
theorem isi_tup {K : PySem.W.Frag} {N : List Str} {H : Hp} {t : Tm} {x : V} (h : TmAt N H t x) {Q : VK} (q : Q (.bl (!t.isV)) H) : rIsi K [x, .ty "tuple"] H Q := by
  cases e : t.isV with
  | true =>
    obtain ⟨k, rfl, rfl⟩ := h.isV_int e
    rw [e] at q
    exact ⟨_, _, _, _, false, rfl, .ty "tuple", .base (.int _), kit_ty (by decide +kernel), q⟩
  | false =>
    obtain ⟨a, ys, rfl, h2, _⟩ := h.app e
    rw [e] at q
    exact ⟨_, _, _, _, true, rfl, .ty "tuple", .base (.tup h2), kit_ty (by decide +kernel), q⟩
end K78
namespace K78
open PySem PySem.Spec PyProof.Rows L2
section
variable {X : Cx}
/-- isinstance(x, tuple), x a term -/
def rIsTm (N : List Str) : List V → Hp → VK → Prop := fun xs H Q => ∃ (t : Tm) (x : V), xs = [x, .ty "tuple"] ∧ TmAt N H t x ∧ Q (.bl (!t.isV)) H
theorem call_isTm {N : List Str} : CallR X (.builtin "isinstance") (rIsTm N) := by
  intro pins s σ H xs us Q I r h
  obtain ⟨t, x, rfl, ht, q⟩ := h
  exact call_isi pins s σ H _ us Q I r (isi_tup ht q)

/-! ### x[1:] of a tuple -/
theorem cut1 {s : V} {ys : List V} : cutV (s :: ys) (some 1) none = ys := by
  have e1 : HT.sIx (s :: ys).length 0 (some 1) = 1 := by
    rw [show (some (1 : Int)) = some ((1 : Nat) : Int) from rfl, HT.sIx_nat, List.length_cons]
    omega
  unfold cutV
  rw [e1, HT.sIx_none, List.drop_succ_cons, List.drop_zero, List.length_cons, Nat.add_sub_cancel, List.take_length]
theorem cut1_ne {s : V} {ys : List V} : ¬ (HT.sIx (s :: ys).length 0 (some 1) = 0 ∧ HT.sIx (s :: ys).length (s :: ys).length none = (s :: ys).length) := by
  rw [show (some (1 : Int)) = some ((1 : Nat) : Int) from rfl, HT.sIx_nat, List.length_cons]
  omega
def rSl1 (K : PySem.W.Frag) : V → Option Int → Option Int → Hp → VK → Prop := fun x lo hi H Q => ∃ (a : Addr) (s : V) (ys : List V), x = .ref a ∧ lo = some 1 ∧ hi = none ∧ SqT K H a (s :: ys) ∧ ∀ p, H p = none → Q (.ref p) (upd H p (.tup ys))
theorem sl_1 : SlR X (rSl1 X.K) := by
  intro pins s σ H x v vl vu lo hi sl Q I rx hs pl pu h
  obtain ⟨a, z, ys, rfl, rfl, rfl, hx, q⟩ := h
  exact sl_tup pins s σ H _ v vl vu _ _ sl Q I rx hs pl pu ⟨a, _, rfl, hx, cut1_ne, fun p hp => by rw [cut1]; exact q p hp⟩
end
/-- a loop over a tuple that stays, by a word over what was done -/
theorem upd_back {H : Hp} {p : Addr} {o : HO} {b : Addr} {u : HO} (h : H b = some u) (hp : H p = none) : upd H p o b = some u := by rw [upd_ne (ne_of_none h hp)]; exact h
end K78
namespace K78
open PySem PySem.Spec PyProof.Rows L2
section
variable {X : Cx}
theorem six_some (n d k : Nat) : HT.sIx n d (some (k : Int)) = min k n := HT.sIx_nat n d k
/-- x[:k] of a tuple, a true part of it -/
def rSlTk (K : PySem.W.Frag) : V → Option Int → Option Int → Hp → VK → Prop := fun x lo hi H Q => ∃ (a : Addr) (xs : List V) (k : Nat), x = .ref a ∧ lo = none ∧ hi = some (k : Int) ∧ k < xs.length ∧ SqT K H a xs ∧ ∀ p, H p = none → Q (.ref p) (upd H p (.tup (xs.take k)))
theorem sl_tk : SlR X (rSlTk X.K) := by
  intro pins s σ H x v vl vu lo hi sl Q I rx hs pl pu h
  obtain ⟨a, xs, k, rfl, rfl, rfl, hk, hx, q⟩ := h
  have e : cutV xs none (some (k : Int)) = xs.take k := by
    unfold cutV
    rw [six_some, HT.sIx_none, List.drop_zero, Nat.sub_zero, Nat.min_eq_left (Nat.le_of_lt hk)]
  refine sl_tup pins s σ H _ v vl vu _ _ sl Q I rx hs pl pu ⟨a, _, rfl, hx, ?_, fun p hp => by rw [e]; exact q p hp⟩
  rw [six_some]
  omega
/-- x[k:] of a tuple, a true part of it -/
def rSlDp (K : PySem.W.Frag) : V → Option Int → Option Int → Hp → VK → Prop := fun x lo hi H Q => ∃ (a : Addr) (xs : List V) (k : Nat), x = .ref a ∧ lo = some (k : Int) ∧ hi = none ∧ 0 < k ∧ k ≤ xs.length ∧ SqT K H a xs ∧ ∀ p, H p = none → Q (.ref p) (upd H p (.tup (xs.drop k)))
theorem sl_dp : SlR X (rSlDp X.K) := by
  intro pins s σ H x v vl vu lo hi sl Q I rx hs pl pu h
  obtain ⟨a, xs, k, rfl, rfl, rfl, h0, hk, hx, q⟩ := h
  have e : cutV xs (some (k : Int)) none = xs.drop k := by
    unfold cutV
    rw [six_some, HT.sIx_none, Nat.min_eq_left hk, List.take_of_length_le (by rw [List.length_drop]; omega)]
  refine sl_tup pins s σ H _ v vl vu _ _ sl Q I rx hs pl pu ⟨a, _, rfl, hx, ?_, fun p hp => by rw [e]; exact q p hp⟩
  rw [six_some]
  omega
/-- t + u of tuples, t not empty: a tuple of both (a new one, or t itself) -/
def rCatN (K : PySem.W.Frag) : R2 := fun x y H Q => ∃ (a b : Addr) (xs ys : List V), x = .ref a ∧ y = .ref b ∧ H a = some (.tup xs) ∧ H b = some (.tup ys) ∧ xs ≠ [] ∧ xs.length + ys.length ≤ 100000 ∧ ∀ p H', Same H H' → H' p = some (.tup (xs ++ ys)) → Q (.ref p) H'
theorem op_catN : OpR X (binaryOp .Add) (rCatN X.K) := by
  intro pins s σ H x y v u Q I rx ry h
  obtain ⟨a, b, xs, ys, rfl, rfl, ha, hb, hn, hl, q⟩ := h
  refine op_catT pins s σ H _ _ v u Q I rx ry ⟨a, b, xs, ys, rfl, rfl, SqT.of ha, SqT.of hb, hn, szT hl, fun e => ?_, fun _ p hp => ?_⟩
  · exact q a H (Same.refl H) (by rw [e, List.append_nil]; exact ha)
  · exact q p _ (same_new hp _) upd_same
end
abbrev natV (n : Nat) : V := .int (n : Int)
def PosAt (H : Hp) (p : List Nat) (y : V) : Prop := ∃ a, y = .ref a ∧ H a = some (.tup (p.map natV))
abbrev PossAt (H : Hp) : List (List Nat) → List V → Prop := AllAt (PosAt H)
theorem PosAt.same {H H' : Hp} {p : List Nat} {y : V} (h : PosAt H p y) (e : Same H H') : PosAt H' p y := by
  obtain ⟨a, h1, h2⟩ := h
  exact ⟨a, h1, e _ _ h2⟩
theorem PossAt.same {H H' : Hp} {p : List (List Nat)} {y : List V} (h : PossAt H p y) (e : Same H H') : PossAt H' p y := AllAt.mono (fun _ _ q => q.same e) h
theorem natV_flat (ns : List Nat) : (ns.map natV).all flatV = true := by
  rw [List.all_map, List.all_eq_true]; intro x _; rfl
theorem inV_nat (m : Nat) : ∀ ns : List Nat, inV (natV m) (ns.map natV) = decide (m ∈ ns)
  | [] => by simp [inV]
  | n :: ns => by
    have ih := inV_nat m ns
    unfold inV at ih ⊢
    rw [List.map_cons, List.any_cons, ih]
    have e : eqV (natV n) (natV m) = decide (m = n) := by
      show ((n : Int) == (m : Int)) = decide (m = n)
      rw [Bool.eq_iff_iff, beq_iff_eq, decide_eq_true_eq]
      omega
    rw [e, Bool.eq_iff_iff, Bool.or_eq_true, decide_eq_true_eq, decide_eq_true_eq, decide_eq_true_eq, List.mem_cons]
end K78
namespace K78
open PySem PySem.Spec PyProof.Rows L2
/-! ### defs with keyword-only parameters -/
/-- called with n values and all keywords ks -/
structure DFK (K : PySem.W.Frag) (mg : Str → Option Value) (x : Str) (st : Stmt) (ps : List Str) (n : Nat) (ks : List Str) (kws : List (Str × V)) : Prop where
  ex : ∃ (f : Addr) (fd : FuncData), mg x = some (.ref f) ∧ FunD K x x (defArgs st) (defBody st) (defScope st) [] kws f fd ∧ KBn K fd ps n ks (fun us ws => us ++ ws) (fun vs zs => vs ++ zs)
def OkK (P : Program) (w : World) (K : PySem.W.Frag) (mg : Str → Option Value) (base : Heap) (k : Nat) (x : Str) (ps : List Str) (n : Nat) (ks : List Str) (sp : Sp) : Prop :=
  ∃ (f : Addr) (fd : FuncData), mg x = some (.ref f) ∧ PySem.W.keepIn K (.ref f) = true ∧ KBn K fd ps n ks (fun us ws => us ++ ws) (fun vs zs => vs ++ zs) ∧ FnOk P w K mg base CX0 k f fd ps sp ∧ True
/-- called with values alone, the keyword-only ones by their defaults dvs -/
structure DFB (K : PySem.W.Frag) (mg : Str → Option Value) (x : Str) (st : Stmt) (ps : List Str) (dvs : List V) (kws : List (Str × V)) : Prop where
  ex : ∃ (f : Addr) (fd : FuncData), mg x = some (.ref f) ∧ FunD K x x (defArgs st) (defBody st) (defScope st) [] kws f fd ∧ ∃ ds, Vals dvs ds ∧ Binds K fd ps ds
def OkB (P : Program) (w : World) (K : PySem.W.Frag) (mg : Str → Option Value) (base : Heap) (k : Nat) (x : Str) (ps : List Str) (dvs : List V) (sp : Sp) : Prop :=
  ∃ (f : Addr) (fd : FuncData) (ds : List Value), mg x = some (.ref f) ∧ PySem.W.keepIn K (.ref f) = true ∧ Vals dvs ds ∧ Binds K fd ps ds ∧ FnOk P w K mg base CX0 k f fd ps sp
section
variable {P : Program} {w : World} {K : PySem.W.Frag} {mg : Str → Option Value} {base : Heap}
theorem OkK.mono {j k n : Nat} {x : Str} {ps ks : List Str} {sp : Sp} (G : OkK P w K mg base j x ps n ks sp) (h : j ≤ k) : OkK P w K mg base k x ps n ks sp := by
  obtain ⟨f, fd, a, b, c, d, _⟩ := G
  exact ⟨f, fd, a, b, c, d.mono h, trivial⟩
theorem DFK.ok {x : Str} {st : Stmt} {N ps ks : List Str} {k n : Nat} {kws : List (Str × V)} {sp : Sp} (D : DFK K mg x st ps n ks kws) (S : FnScope N ps (defScope st)) (len : ∀ vs H Q E, sp vs H Q E → vs.length = ps.length)
    (hbody : ∀ (f : Addr) (cdv : Value) (A : Around) (outer : List Env) (s : Shared) (H : Hp) (vs : List V) (Q : VK) (E : XK), Room k (A.deeper (envOfC x (defScope st) s.heap.objs.size f cdv)) → sp vs H Q E →
      ∃ t, PSs (cxOf CX0 P w K mg base N x (defScope st) f cdv A outer s H E).nox (defBody st) t ∧ t { nx := fun _ H' => Q .non H', rt := Q } (start N vs) H) : OkK P w K mg base (k + 1) x ps n ks sp := by
  obtain ⟨f, fd, hm, F, hb⟩ := D.ex
  refine ⟨f, fd, hm, F.kp, hb, F.ok S len fun cdv A outer s H vs Q E hr h => ?_, trivial⟩
  obtain ⟨t, h1, h2⟩ := hbody f cdv A outer s H vs Q E hr h
  exact ⟨t, h1.nox, h2⟩
theorem DFK.ok0 {x : Str} {st : Stmt} {ps ks : List Str} {n : Nat} {kws : List (Str × V)} {sp : Sp} (D : DFK K mg x st ps n ks kws) (no : ∀ vs H Q E, ¬ sp vs H Q E) : OkK P w K mg base 0 x ps n ks sp := by
  obtain ⟨f, fd, hm, F, hb⟩ := D.ex
  exact ⟨f, fd, hm, F.kp, hb, ⟨fun vs H Q E h => absurd h (no vs H Q E), fun A outer s H args us vs Q E _ _ _ _ h => absurd h (no vs H Q E)⟩, trivial⟩
theorem DFB.ok {x : Str} {st : Stmt} {N ps : List Str} {k : Nat} {dvs : List V} {kws : List (Str × V)} {sp : Sp} (D : DFB K mg x st ps dvs kws) (S : FnScope N ps (defScope st)) (len : ∀ vs H Q E, sp vs H Q E → vs.length = ps.length)
    (hbody : ∀ (f : Addr) (cdv : Value) (A : Around) (outer : List Env) (s : Shared) (H : Hp) (vs : List V) (Q : VK) (E : XK), Room k (A.deeper (envOfC x (defScope st) s.heap.objs.size f cdv)) → sp vs H Q E →
      ∃ t, PSs (cxOf CX0 P w K mg base N x (defScope st) f cdv A outer s H E).nox (defBody st) t ∧ t { nx := fun _ H' => Q .non H', rt := Q } (start N vs) H) : OkB P w K mg base (k + 1) x ps dvs sp := by
  obtain ⟨f, fd, hm, F, ds, hd, hb⟩ := D.ex
  refine ⟨f, fd, ds, hm, F.kp, hd, hb, F.ok S len fun cdv A outer s H vs Q E hr h => ?_⟩
  obtain ⟨t, h1, h2⟩ := hbody f cdv A outer s H vs Q E hr h
  exact ⟨t, h1.nox, h2⟩
end
end K78
namespace K78
open PySem PySem.Spec PyProof.Rows L2
/-! ### [e for x in xs]: what is made, item by item -/
/-- the tuples stay -/
def TupSame (H H' : Hp) : Prop := ∀ a xs, H a = some (.tup xs) → H' a = some (.tup xs)
theorem TupSame.of {H H' : Hp} (e : Same H H') : TupSame H H' := fun a xs h => e a _ h
theorem TupSame.trans {H H1 H2 : Hp} (e : TupSame H H1) (e2 : TupSame H1 H2) : TupSame H H2 := fun a xs h => e2 a xs (e a xs h)
theorem TupSame.refl (H : Hp) : TupSame H H := fun _ _ h => h
theorem tup_upd {H : Hp} {p : Addr} {xs : List V} {o : HO} (h : H p = some (.lst xs)) : TupSame H (upd H p o) := fun a ys e => by
  rw [upd_ne (ne_of e h (by intro z; cases z))]; exact e
theorem tup_updD {H : Hp} {p : Addr} {xs : List (Key × V)} {o : HO} (h : H p = some (.dK xs)) : TupSame H (upd H p o) := fun a ys e => by
  rw [upd_ne (ne_of e h (by intro z; cases z))]; exact e
theorem tup_new {H : Hp} {p : Addr} {o : HO} (h : H p = none) : TupSame H (upd H p o) := fun a ys e => by
  rw [upd_ne (ne_of_none e h)]; exact e
section
variable {K : PySem.W.Frag} {α : Type} {R : Hp → α → V → Prop} {te : TE} {σ : L2.St} {H : Hp} {p : Addr} {ys : List V} {bs : List α} {j : Nat} {Qd : Hp → Prop}
theorem wipe_one (y : V) : wipe ((wipe σ [j]).set j (some y)) [j] = wipe σ [j] := by
  show ((((σ.set j none)).set j (some y)).set j none) = σ.set j none
  rw [List.set_set, List.set_set]
theorem lc_map_tup (hR : ∀ H H' b z, TupSame H H' → R H b z → R H' b z) (hl : bs.length = ys.length) (hz : ys.length ≤ 100000) (hp : H p = some (.tup ys))
    (step : ∀ (k : Nat) (y : V) (b : α) (H1 : Hp) (Q' : VK), ys[k]? = some y → bs[k]? = some b → Same H H1 → (∀ z H2, Same H1 H2 → R H2 b z → Q' z H2) → te ((wipe σ [j]).set j (some y)) H1 Q')
    {D : Addr} (hD : H D = none)
    (q : ∀ zs H', Same H H' → H' D = some (.lst zs) → AllAt (R H') bs zs → Qd H') :
    ∃ W : Nat → Nat → Hp → Prop, (∃ m, W 0 m (upd H D (.lst []))) ∧ ∀ i m H, W i m H →
      ((Itt K p).stop i H ∧ Qd H) ∨ ((Itt K p).go i H ∧ ∃ Nx : Hp → Prop, (∀ H', Nx H' → ∃ m', m' < m ∧ W (i + 1) m' H') ∧ ∀ x H', (Itt K p).yld i H x H' → gName j x (wipe σ [j]) H' fun σ2 H2 => wipe σ2 [j] = wipe σ [j] ∧ tYes σ2 H2 fun b H3 =>
        if b = true then te σ2 H3 fun y H4 => ∃ acc, H4 D = some (.lst acc) ∧ acc.length < sizeLine ∧ Nx (upd H4 D (.lst (acc ++ [y]))) else Nx H3) := by
  refine lc_tup (K := K) (a := p) (xs := ys) (fun i H1 => ∃ zs, Same H H1 ∧ H1 D = some (.lst zs) ∧ AllAt (R H1) (bs.take i) zs) ⟨[], same_new hD _, upd_same, rfl⟩ (fun i H1 _ ⟨zs, s1, _⟩ => SqT.of (s1 _ _ hp)) ?_ ?_
  · rintro i y H1 hi ⟨zs, s1, hd1, ha1⟩
    have hil : i < ys.length := (List.getElem?_eq_some_iff.mp hi).1
    have hb : bs[i]? = some (bs[i]'(by omega)) := List.getElem?_eq_getElem _
    refine ⟨wipe_one y, ?_⟩
    refine step i y _ H1 _ hi hb s1 fun z H2 s2 hr => ?_
    have hd2 := s2 _ _ hd1
    have hzl : zs.length = i := by rw [ha1.length, List.length_take]; omega
    refine ⟨zs, hd2, Nat.lt_of_lt_of_le (show zs.length < 100001 by omega) (by decide), zs ++ [z], fun b o h => ?_, upd_same, ?_⟩
    · rw [upd_ne (ne_of_none h hD)]; exact s2 _ _ (s1 _ _ h)
    · rw [List.take_add_one, hb]
      exact AllAt.snoc (AllAt.mono (fun b x h => hR _ _ _ _ ((TupSame.of s2).trans (tup_upd hd2)) h) ha1) (hR _ _ _ _ (tup_upd hd2) hr)
  · rintro H1 ⟨zs, s1, hd1, ha1⟩
    rw [List.take_of_length_le (by omega)] at ha1
    exact q zs H1 s1 hd1 ha1
theorem lc_map_lst (hR : ∀ H H' b z, TupSame H H' → R H b z → R H' b z) (hl : bs.length = ys.length) (hz : ys.length ≤ 100000) (hp : SqL K H p ys)
    (step : ∀ (k : Nat) (y : V) (b : α) (H1 : Hp) (Q' : VK), ys[k]? = some y → bs[k]? = some b → Same H H1 → (∀ z H2, Same H1 H2 → R H2 b z → Q' z H2) → te ((wipe σ [j]).set j (some y)) H1 Q')
    {D : Addr} (hD : H D = none)
    (q : ∀ zs H', Same H H' → H' D = some (.lst zs) → AllAt (R H') bs zs → Qd H') :
    ∃ W : Nat → Nat → Hp → Prop, (∃ m, W 0 m (upd H D (.lst []))) ∧ ∀ i m H, W i m H →
      ((Itl K p).stop i H ∧ Qd H) ∨ ((Itl K p).go i H ∧ ∃ Nx : Hp → Prop, (∀ H', Nx H' → ∃ m', m' < m ∧ W (i + 1) m' H') ∧ ∀ x H', (Itl K p).yld i H x H' → gName j x (wipe σ [j]) H' fun σ2 H2 => wipe σ2 [j] = wipe σ [j] ∧ tYes σ2 H2 fun b H3 =>
        if b = true then te σ2 H3 fun y H4 => ∃ acc, H4 D = some (.lst acc) ∧ acc.length < sizeLine ∧ Nx (upd H4 D (.lst (acc ++ [y]))) else Nx H3) := by
  refine lc_list (K := K) (a := p) (xs := ys) (fun i H1 => ∃ zs, Same H H1 ∧ H1 D = some (.lst zs) ∧ AllAt (R H1) (bs.take i) zs) ⟨[], same_new hD _, upd_same, rfl⟩ (fun i H1 _ ⟨zs, s1, _⟩ => s1.seq hp) ?_ ?_
  · rintro i y H1 hi ⟨zs, s1, hd1, ha1⟩
    have hil : i < ys.length := (List.getElem?_eq_some_iff.mp hi).1
    have hb : bs[i]? = some (bs[i]'(by omega)) := List.getElem?_eq_getElem _
    refine ⟨wipe_one y, ?_⟩
    refine step i y _ H1 _ hi hb s1 fun z H2 s2 hr => ?_
    have hd2 := s2 _ _ hd1
    have hzl : zs.length = i := by rw [ha1.length, List.length_take]; omega
    refine ⟨zs, hd2, Nat.lt_of_lt_of_le (show zs.length < 100001 by omega) (by decide), zs ++ [z], fun b o h => ?_, upd_same, ?_⟩
    · rw [upd_ne (ne_of_none h hD)]; exact s2 _ _ (s1 _ _ h)
    · rw [List.take_add_one, hb]
      exact AllAt.snoc (AllAt.mono (fun b x h => hR _ _ _ _ ((TupSame.of s2).trans (tup_upd hd2)) h) ha1) (hR _ _ _ _ (tup_upd hd2) hr)
  · rintro H1 ⟨zs, s1, hd1, ha1⟩
    rw [List.take_of_length_le (by omega)] at ha1
    exact q zs H1 s1 hd1 ha1
theorem TmAt.tupS {N : List Str} {H H' : Hp} {t : Tm} {x : V} (h : TmAt N H t x) (e : TupSame H H') : TmAt N H' t x := h.mono e
end
end K78
end
section
set_option maxHeartbeats 4000000
namespace K78
open PySem PySem.Spec PyProof.Rows L2
abbrev s_TooLarge_init : Stmt := inClass (top 2) 0
theorem sc_TooLarge_init : FnScope ["self", "limit"] ["self", "limit"] (defScope s_TooLarge_init) := ⟨rfl, rfl, rfl, by decide +kernel, rfl, by decide +kernel, by decide +kernel⟩
abbrev s_InvalidPosition_init : Stmt := inClass (top 3) 0
theorem sc_InvalidPosition_init : FnScope ["self", "position"] ["self", "position"] (defScope s_InvalidPosition_init) := ⟨rfl, rfl, rfl, by decide +kernel, rfl, by decide +kernel, by decide +kernel⟩
abbrev s_InvalidOrdering_init : Stmt := inClass (top 4) 0
theorem sc_InvalidOrdering_init : FnScope ["self", "reason"] ["self", "reason"] (defScope s_InvalidOrdering_init) := ⟨rfl, rfl, rfl, by decide +kernel, rfl, by decide +kernel, by decide +kernel⟩
abbrev s_is_variable : Stmt := top 6
theorem sc_is_variable : FnScope ["term"] ["term"] (defScope s_is_variable) := ⟨rfl, rfl, rfl, by decide +kernel, rfl, by decide +kernel, by decide +kernel⟩
abbrev s_size : Stmt := top 7
theorem sc_size : FnScope ["term", "total", "argument"] ["term"] (defScope s_size) := ⟨rfl, rfl, rfl, by decide +kernel, rfl, by decide +kernel, by decide +kernel⟩
abbrev s_nesting : Stmt := top 8
theorem sc_nesting : FnScope ["term", "greatest", "argument"] ["term"] (defScope s_nesting) := ⟨rfl, rfl, rfl, by decide +kernel, rfl, by decide +kernel, by decide +kernel⟩
abbrev s_variables : Stmt := top 9
theorem sc_variables : FnScope ["term", "found", "argument", "variable"] ["term"] (defScope s_variables) := ⟨rfl, rfl, rfl, by decide +kernel, rfl, by decide +kernel, by decide +kernel⟩
abbrev s_positions : Stmt := top 10
theorem sc_positions : FnScope ["term", "with_variables", "found", "index", "position"] ["term", "with_variables"] (defScope s_positions) := ⟨rfl, rfl, rfl, by decide +kernel, rfl, by decide +kernel, by decide +kernel⟩
abbrev s_subterm_at : Stmt := top 11
theorem sc_subterm_at : FnScope ["term", "position", "subterm", "index"] ["term", "position"] (defScope s_subterm_at) := ⟨rfl, rfl, rfl, by decide +kernel, rfl, by decide +kernel, by decide +kernel⟩
abbrev s_exchanged : Stmt := top 12
theorem sc_exchanged : FnScope ["term", "position", "new", "index", "argument"] ["term", "position", "new"] (defScope s_exchanged) := ⟨rfl, rfl, rfl, by decide +kernel, rfl, by decide +kernel, by decide +kernel⟩
abbrev s_replace_at : Stmt := top 13
theorem sc_replace_at : FnScope ["term", "position", "new"] ["term", "position", "new"] (defScope s_replace_at) := ⟨rfl, rfl, rfl, by decide +kernel, rfl, by decide +kernel, by decide +kernel⟩
abbrev s_shift : Stmt := top 14
theorem sc_shift : FnScope ["term", "by", "argument"] ["term", "by"] (defScope s_shift) := ⟨rfl, rfl, rfl, by decide +kernel, rfl, by decide +kernel, by decide +kernel⟩
abbrev s_fitting : Stmt := top 18
theorem sc_fitting : FnScope ["term"] ["term"] (defScope s_fitting) := ⟨rfl, rfl, rfl, by decide +kernel, rfl, by decide +kernel, by decide +kernel⟩
abbrev s_replace : Stmt := top 19
theorem sc_replace : FnScope ["substitution", "term", "part"] ["substitution", "term"] (defScope s_replace) := ⟨rfl, rfl, rfl, by decide +kernel, rfl, by decide +kernel, by decide +kernel⟩
abbrev s_apply : Stmt := top 20
theorem sc_apply : FnScope ["substitution", "term"] ["substitution", "term"] (defScope s_apply) := ⟨rfl, rfl, rfl, by decide +kernel, rfl, by decide +kernel, by decide +kernel⟩
abbrev s_extend : Stmt := top 21
theorem sc_extend : FnScope ["pattern", "term", "found", "part", "other"] ["pattern", "term", "found"] (defScope s_extend) := ⟨rfl, rfl, rfl, by decide +kernel, rfl, by decide +kernel, by decide +kernel⟩
abbrev s_match_all : Stmt := top 22
theorem sc_match_all : FnScope ["pairs", "known", "found", "variable", "term", "pattern"] ["pairs", "known"] (defScope s_match_all) := ⟨rfl, rfl, rfl, by decide +kernel, rfl, by decide +kernel, by decide +kernel⟩
abbrev s_match : Stmt := top 23
theorem sc_match : FnScope ["pattern", "term", "known"] ["pattern", "term", "known"] (defScope s_match) := ⟨rfl, rfl, rfl, by decide +kernel, rfl, by decide +kernel, by decide +kernel⟩
abbrev s_G_init : Stmt := inClass (top 24) 0
theorem sc_G_init : FnScope ["self"] ["self"] (defScope s_G_init) := ⟨rfl, rfl, rfl, by decide +kernel, rfl, by decide +kernel, by decide +kernel⟩
abbrev s_G_add_term : Stmt := inClass (top 24) 1
theorem sc_G_add_term : FnScope ["self", "term", "arguments", "part"] ["self", "term"] (defScope s_G_add_term) := ⟨rfl, rfl, rfl, by decide +kernel, rfl, by decide +kernel, by decide +kernel⟩
abbrev s_G_new_node : Stmt := inClass (top 24) 2
theorem sc_G_new_node : FnScope ["self", "symbol", "arguments", "variable", "node"] ["self", "symbol", "arguments", "variable"] (defScope s_G_new_node) := ⟨rfl, rfl, rfl, by decide +kernel, rfl, by decide +kernel, by decide +kernel⟩
abbrev s_G_leader : Stmt := inClass (top 24) 3
theorem sc_G_leader : FnScope ["self", "node"] ["self", "node"] (defScope s_G_leader) := ⟨rfl, rfl, rfl, by decide +kernel, rfl, by decide +kernel, by decide +kernel⟩
abbrev s_G_unite : Stmt := inClass (top 24) 4
theorem sc_G_unite : FnScope ["self", "first", "second", "waiting", "shape", "other", "pair"] ["self", "first", "second"] (defScope s_G_unite) := ⟨rfl, rfl, rfl, by decide +kernel, rfl, by decide +kernel, by decide +kernel⟩
abbrev s_G_merge : Stmt := inClass (top 24) 5
theorem sc_G_merge : FnScope ["self", "first", "second"] ["self", "first", "second"] (defScope s_G_merge) := ⟨rfl, rfl, rfl, by decide +kernel, rfl, by decide +kernel, by decide +kernel⟩
abbrev s_G_below : Stmt := inClass (top 24) 6
theorem sc_G_below : FnScope ["self", "group", "shape", "node"] ["self", "group"] (defScope s_G_below) := ⟨rfl, rfl, rfl, by decide +kernel, rfl, by decide +kernel, by decide +kernel⟩
abbrev s_G_bottom_up : Stmt := inClass (top 24) 7
theorem sc_G_bottom_up : FnScope ["self", "states", "order", "variable", "waiting", "group", "done", "other"] ["self"] (defScope s_G_bottom_up) := ⟨rfl, rfl, rfl, by decide +kernel, rfl, by decide +kernel, by decide +kernel⟩
abbrev s_G_measures : Stmt := inClass (top 24) 8
theorem sc_G_measures : FnScope ["self", "order", "sizes", "nestings", "group", "parts", "part"] ["self", "order"] (defScope s_G_measures) := ⟨rfl, rfl, rfl, by decide +kernel, rfl, by decide +kernel, by decide +kernel⟩
abbrev s_G_built : Stmt := inClass (top 24) 9
theorem sc_G_built : FnScope ["self", "order", "found", "group", "shape", "part"] ["self", "order"] (defScope s_G_built) := ⟨rfl, rfl, rfl, by decide +kernel, rfl, by decide +kernel, by decide +kernel⟩
abbrev s_unify_all : Stmt := top 25
theorem sc_unify_all : FnScope ["pairs", "graph", "first", "second", "order", "sizes", "nestings", "group", "terms", "result", "variable", "term"] ["pairs"] (defScope s_unify_all) := ⟨rfl, rfl, rfl, by decide +kernel, rfl, by decide +kernel, by decide +kernel⟩
abbrev s_unify : Stmt := top 26
theorem sc_unify : FnScope ["first", "second"] ["first", "second"] (defScope s_unify) := ⟨rfl, rfl, rfl, by decide +kernel, rfl, by decide +kernel, by decide +kernel⟩
abbrev s_rewrite_at_position : Stmt := top 28
theorem sc_rewrite_at_position : FnScope ["rules", "term", "position", "old", "left", "right", "substitution"] ["rules", "term", "position"] (defScope s_rewrite_at_position) := ⟨rfl, rfl, rfl, by decide +kernel, rfl, by decide +kernel, by decide +kernel⟩
abbrev s_rewrite : Stmt := top 29
theorem sc_rewrite : FnScope ["rules", "term", "position", "result"] ["rules", "term"] (defScope s_rewrite) := ⟨rfl, rfl, rfl, by decide +kernel, rfl, by decide +kernel, by decide +kernel⟩
abbrev s_normalize : Stmt := top 30
theorem sc_normalize : FnScope ["rules", "term", "result"] ["rules", "term"] (defScope s_normalize) := ⟨rfl, rfl, rfl, by decide +kernel, rfl, by decide +kernel, by decide +kernel⟩
abbrev s_joined : Stmt := top 31
theorem sc_joined : FnScope ["rules", "first", "second"] ["rules", "first", "second"] (defScope s_joined) := ⟨rfl, rfl, rfl, by decide +kernel, rfl, by decide +kernel, by decide +kernel⟩
abbrev s_renamed : Stmt := top 32
theorem sc_renamed : FnScope ["first", "second", "names", "by", "name"] ["first", "second"] (defScope s_renamed) := ⟨rfl, rfl, rfl, by decide +kernel, rfl, by decide +kernel, by decide +kernel⟩
abbrev s_critical_pairs : Stmt := top 33
theorem sc_critical_pairs : FnScope ["first", "second", "left", "right", "other_left", "other_right", "pairs", "position", "unifier", "changed"] ["first", "second"] (defScope s_critical_pairs) := ⟨rfl, rfl, rfl, by decide +kernel, rfl, by decide +kernel, by decide +kernel⟩
abbrev s_converges : Stmt := top 34
theorem sc_converges : FnScope ["ordering", "rules", "left", "right", "first", "second", "pair"] ["ordering", "rules"] (defScope s_converges) := ⟨rfl, rfl, rfl, by decide +kernel, rfl, by decide +kernel, by decide +kernel⟩
abbrev s_variable_counts : Stmt := top 37
theorem sc_variable_counts : FnScope ["term", "counts", "argument", "part", "variable"] ["term"] (defScope s_variable_counts) := ⟨rfl, rfl, rfl, by decide +kernel, rfl, by decide +kernel, by decide +kernel⟩
abbrev s_has_all_variables : Stmt := top 38
theorem sc_has_all_variables : FnScope ["first", "second", "first_counts", "second_counts", "variable"] ["first", "second"] (defScope s_has_all_variables) := ⟨rfl, rfl, rfl, by decide +kernel, rfl, by decide +kernel, by decide +kernel⟩
abbrev s_check_weights : Stmt := top 39
theorem sc_check_weights : FnScope ["weights", "symbol", "weight"] ["weights"] (defScope s_check_weights) := ⟨rfl, rfl, rfl, by decide +kernel, rfl, by decide +kernel, by decide +kernel⟩
abbrev s_check_precedence : Stmt := top 40
theorem sc_check_precedence : FnScope ["precedence", "index", "symbol"] ["precedence"] (defScope s_check_precedence) := ⟨rfl, rfl, rfl, by decide +kernel, rfl, by decide +kernel, by decide +kernel⟩
abbrev s_O_init : Stmt := inClass (top 41) 0
theorem sc_O_init : FnScope ["self", "weights", "precedence"] ["self", "weights", "precedence"] (defScope s_O_init) := ⟨rfl, rfl, rfl, by decide +kernel, rfl, by decide +kernel, by decide +kernel⟩
abbrev s_O_precedence : Stmt := inClass (top 41) 1
theorem sc_O_precedence : FnScope ["self"] ["self"] (defScope s_O_precedence) := ⟨rfl, rfl, rfl, by decide +kernel, rfl, by decide +kernel, by decide +kernel⟩
abbrev s_O_symbol_weight : Stmt := inClass (top 41) 2
theorem sc_O_symbol_weight : FnScope ["self", "symbol"] ["self", "symbol"] (defScope s_O_symbol_weight) := ⟨rfl, rfl, rfl, by decide +kernel, rfl, by decide +kernel, by decide +kernel⟩
abbrev s_O_rank : Stmt := inClass (top 41) 3
theorem sc_O_rank : FnScope ["self", "symbol"] ["self", "symbol"] (defScope s_O_rank) := ⟨rfl, rfl, rfl, by decide +kernel, rfl, by decide +kernel, by decide +kernel⟩
abbrev s_O_ranks_higher : Stmt := inClass (top 41) 4
theorem sc_O_ranks_higher : FnScope ["self", "first", "second"] ["self", "first", "second"] (defScope s_O_ranks_higher) := ⟨rfl, rfl, rfl, by decide +kernel, rfl, by decide +kernel, by decide +kernel⟩
abbrev s_O_weight : Stmt := inClass (top 41) 5
theorem sc_O_weight : FnScope ["self", "term", "total", "argument"] ["self", "term"] (defScope s_O_weight) := ⟨rfl, rfl, rfl, by decide +kernel, rfl, by decide +kernel, by decide +kernel⟩
abbrev s_O_exceeds : Stmt := inClass (top 41) 6
theorem sc_O_exceeds : FnScope ["self", "first", "second", "first_weight", "second_weight", "index"] ["self", "first", "second"] (defScope s_O_exceeds) := ⟨rfl, rfl, rfl, by decide +kernel, rfl, by decide +kernel, by decide +kernel⟩
abbrev s_O_compare : Stmt := inClass (top 41) 7
theorem sc_O_compare : FnScope ["self", "first", "second"] ["self", "first", "second"] (defScope s_O_compare) := ⟨rfl, rfl, rfl, by decide +kernel, rfl, by decide +kernel, by decide +kernel⟩
abbrev s_law_deck : Stmt := top 43
theorem sc_law_deck : FnScope ["_law_script"] ["_law_script"] (defScope s_law_deck) := ⟨rfl, rfl, rfl, by decide +kernel, rfl, by decide +kernel, by decide +kernel⟩
abbrev s_law_draw : Stmt := top 44
theorem sc_law_draw : FnScope ["_law_deck_here", "_law_most", "_law_value", "_law_cell"] ["_law_deck_here", "_law_most"] (defScope s_law_draw) := ⟨rfl, rfl, rfl, by decide +kernel, rfl, by decide +kernel, by decide +kernel⟩
abbrev s_law_same : Stmt := top 45
theorem sc_law_same : FnScope ["_law_actual", "_law_due", "_law_k"] ["_law_actual", "_law_due"] (defScope s_law_same) := ⟨rfl, rfl, rfl, by decide +kernel, rfl, by decide +kernel, by decide +kernel⟩
abbrev s_law_names : Stmt := top 46
theorem sc_law_names : FnScope ["_law_deck_here", "_law_menus"] ["_law_deck_here"] (defScope s_law_names) := ⟨rfl, rfl, rfl, by decide +kernel, rfl, by decide +kernel, by decide +kernel⟩
abbrev s_law_weights : Stmt := top 47
theorem sc_law_weights : FnScope ["_law_deck_here", "_law_names_here", "_law_weights_here", "_law_name", "_law_weight_here"] ["_law_deck_here", "_law_names_here"] (defScope s_law_weights) := ⟨rfl, rfl, rfl, by decide +kernel, rfl, by decide +kernel, by decide +kernel⟩
abbrev s_law_precedence : Stmt := top 48
theorem sc_law_precedence : FnScope ["_law_deck_here", "_law_names_here", "_law_rest", "_law_chosen", "_law_k", "_law_at_here"] ["_law_deck_here", "_law_names_here"] (defScope s_law_precedence) := ⟨rfl, rfl, rfl, by decide +kernel, rfl, by decide +kernel, by decide +kernel⟩
abbrev s_law_term : Stmt := top 49
theorem sc_law_term : FnScope ["_law_deck_here", "_law_depth", "_law_leaves_here", "_law_names_here", "_law_kind", "_law_left"] ["_law_deck_here", "_law_depth", "_law_leaves_here", "_law_names_here"] (defScope s_law_term) := ⟨rfl, rfl, rfl, by decide +kernel, rfl, by decide +kernel, by decide +kernel⟩
abbrev s_law_leaves : Stmt := top 50
theorem sc_law_leaves : FnScope ["_law_names_here", "_law_many", "_law_k"] ["_law_names_here", "_law_many"] (defScope s_law_leaves) := ⟨rfl, rfl, rfl, by decide +kernel, rfl, by decide +kernel, by decide +kernel⟩
abbrev s_law_apply : Stmt := top 51
theorem sc_law_apply : FnScope ["_law_sub", "_law_term_here", "_law_part"] ["_law_sub", "_law_term_here"] (defScope s_law_apply) := ⟨rfl, rfl, rfl, by decide +kernel, rfl, by decide +kernel, by decide +kernel⟩
abbrev s_law_vars : Stmt := top 52
theorem sc_law_vars : FnScope ["_law_term_here", "_law_found", "_law_part", "_law_name"] ["_law_term_here"] (defScope s_law_vars) := ⟨rfl, rfl, rfl, by decide +kernel, rfl, by decide +kernel, by decide +kernel⟩
abbrev s_law_count : Stmt := top 53
theorem sc_law_count : FnScope ["_law_term_here", "_law_name", "_law_part"] ["_law_term_here", "_law_name"] (defScope s_law_count) := ⟨rfl, rfl, rfl, by decide +kernel, rfl, by decide +kernel, by decide +kernel⟩
abbrev s_law_weight : Stmt := top 54
theorem sc_law_weight : FnScope ["_law_term_here", "_law_weights_here", "_law_part"] ["_law_term_here", "_law_weights_here"] (defScope s_law_weight) := ⟨rfl, rfl, rfl, by decide +kernel, rfl, by decide +kernel, by decide +kernel⟩
abbrev s_law_higher : Stmt := top 55
theorem sc_law_higher : FnScope ["_law_first", "_law_second", "_law_precedence_here"] ["_law_first", "_law_second", "_law_precedence_here"] (defScope s_law_higher) := ⟨rfl, rfl, rfl, by decide +kernel, rfl, by decide +kernel, by decide +kernel⟩
abbrev s_law_greater : Stmt := top 56
theorem sc_law_greater : FnScope ["_law_first", "_law_second", "_law_weights_here", "_law_precedence_here", "_law_name", "_law_difference", "_law_k"] ["_law_first", "_law_second", "_law_weights_here", "_law_precedence_here"] (defScope s_law_greater) := ⟨rfl, rfl, rfl, by decide +kernel, rfl, by decide +kernel, by decide +kernel⟩
abbrev s_law_compare : Stmt := top 57
theorem sc_law_compare : FnScope ["_law_first", "_law_second", "_law_weights_here", "_law_precedence_here"] ["_law_first", "_law_second", "_law_weights_here", "_law_precedence_here"] (defScope s_law_compare) := ⟨rfl, rfl, rfl, by decide +kernel, rfl, by decide +kernel, by decide +kernel⟩
abbrev s_law_unify : Stmt := top 58
theorem sc_law_unify : FnScope ["_law_first", "_law_second", "_law_sub", "_law_todo", "_law_k", "_law_left", "_law_right", "_law_other", "_law_name", "_law_j"] ["_law_first", "_law_second"] (defScope s_law_unify) := ⟨rfl, rfl, rfl, by decide +kernel, rfl, by decide +kernel, by decide +kernel⟩
abbrev s_law_match : Stmt := top 59
theorem sc_law_match : FnScope ["_law_pattern", "_law_term_here", "_law_known", "_law_grown", "_law_k"] ["_law_pattern", "_law_term_here", "_law_known"] (defScope s_law_match) := ⟨rfl, rfl, rfl, by decide +kernel, rfl, by decide +kernel, by decide +kernel⟩
abbrev s_law_places : Stmt := top 60
theorem sc_law_places : FnScope ["_law_term_here", "_law_found", "_law_k", "_law_place"] ["_law_term_here"] (defScope s_law_places) := ⟨rfl, rfl, rfl, by decide +kernel, rfl, by decide +kernel, by decide +kernel⟩
abbrev s_law_at : Stmt := top 61
theorem sc_law_at : FnScope ["_law_term_here", "_law_place", "_law_k"] ["_law_term_here", "_law_place"] (defScope s_law_at) := ⟨rfl, rfl, rfl, by decide +kernel, rfl, by decide +kernel, by decide +kernel⟩
abbrev s_law_put : Stmt := top 62
theorem sc_law_put : FnScope ["_law_term_here", "_law_place", "_law_new", "_law_k"] ["_law_term_here", "_law_place", "_law_new"] (defScope s_law_put) := ⟨rfl, rfl, rfl, by decide +kernel, rfl, by decide +kernel, by decide +kernel⟩
abbrev s_law_shift : Stmt := top 63
theorem sc_law_shift : FnScope ["_law_term_here", "_law_by", "_law_part"] ["_law_term_here", "_law_by"] (defScope s_law_shift) := ⟨rfl, rfl, rfl, by decide +kernel, rfl, by decide +kernel, by decide +kernel⟩
abbrev s_law_rule : Stmt := top 64
theorem sc_law_rule : FnScope ["_law_deck_here", "_law_names_here", "_law_weights_here", "_law_precedence_here", "_law_leaves_here", "_law_left", "_law_right", "_law_order", "_law_name"] ["_law_deck_here", "_law_names_here", "_law_weights_here", "_law_precedence_here"] (defScope s_law_rule) := ⟨rfl, rfl, rfl, by decide +kernel, rfl, by decide +kernel, by decide +kernel⟩
abbrev s_law_step_at : Stmt := top 65
theorem sc_law_step_at : FnScope ["_law_rules_here", "_law_term_here", "_law_place", "_law_old", "_law_rule_here", "_law_sub"] ["_law_rules_here", "_law_term_here", "_law_place"] (defScope s_law_step_at) := ⟨rfl, rfl, rfl, by decide +kernel, rfl, by decide +kernel, by decide +kernel⟩
abbrev s_law_once : Stmt := top 66
theorem sc_law_once : FnScope ["_law_rules_here", "_law_term_here", "_law_place", "_law_new"] ["_law_rules_here", "_law_term_here"] (defScope s_law_once) := ⟨rfl, rfl, rfl, by decide +kernel, rfl, by decide +kernel, by decide +kernel⟩
abbrev s_law_normal_form : Stmt := top 67
theorem sc_law_normal_form : FnScope ["_law_rules_here", "_law_term_here", "_law_k", "_law_new"] ["_law_rules_here", "_law_term_here"] (defScope s_law_normal_form) := ⟨rfl, rfl, rfl, by decide +kernel, rfl, by decide +kernel, by decide +kernel⟩
abbrev s_law_rules : Stmt := top 68
theorem sc_law_rules : FnScope ["_law_deck_here", "_law_names_here", "_law_weights_here", "_law_precedence_here", "_law_most", "_law_rules_here", "_law_k", "_law_rule_here"] ["_law_deck_here", "_law_names_here", "_law_weights_here", "_law_precedence_here", "_law_most"] (defScope s_law_rules) := ⟨rfl, rfl, rfl, by decide +kernel, rfl, by decide +kernel, by decide +kernel⟩
abbrev s_law_walk : Stmt := top 69
theorem sc_law_walk : FnScope ["_law_deck_here", "_law_rules_here", "_law_term_here", "_law_k", "_law_found", "_law_place", "_law_rule_here", "_law_new"] ["_law_deck_here", "_law_rules_here", "_law_term_here"] (defScope s_law_walk) := ⟨rfl, rfl, rfl, by decide +kernel, rfl, by decide +kernel, by decide +kernel⟩
abbrev s_law_pairs : Stmt := top 70
theorem sc_law_pairs : FnScope ["_law_first", "_law_second", "_law_by", "_law_pairs_here", "_law_place", "_law_sub", "_law_whole", "_law_name"] ["_law_first", "_law_second"] (defScope s_law_pairs) := ⟨rfl, rfl, rfl, by decide +kernel, rfl, by decide +kernel, by decide +kernel⟩
abbrev s_law_joins : Stmt := top 71
theorem sc_law_joins : FnScope ["_law_rules_here", "_law_first", "_law_second", "_law_pair", "_law_forms"] ["_law_rules_here"] (defScope s_law_joins) := ⟨rfl, rfl, rfl, by decide +kernel, rfl, by decide +kernel, by decide +kernel⟩
abbrev s_law : Stmt := top 72
theorem sc_law : FnScope ["_law_script", "_law_deck_here", "_law_names_here", "_law_weights_here", "_law_precedence_here", "_law_ordering", "_law_rules_here", "_law_due", "_law_turned", "_law_sub", "_law_term_here", "_law_ends", "_law_forms"] ["_law_script"] (defScope s_law) := ⟨rfl, rfl, rfl, by decide +kernel, rfl, by decide +kernel, by decide +kernel⟩
end K78
end
section
set_option maxHeartbeats 4000000
namespace K78
open PySem PySem.Spec PyProof.Rows L2
/-! ### lists of arguments -/
theorem kid_nest {t u : Tm} {i n : Nat} (h : t.kids[i]? = some u) (hn : t.nest ≤ n + 1) : u.nest ≤ n := by
  cases t with
  | v _ => simp [Tm.kids] at h
  | c _ => simp [Tm.kids] at h
  | f t => 
    cases i with
    | zero => simp [Tm.kids] at h; subst h; simp only [Tm.nest] at hn; omega
    | succ i => simp [Tm.kids] at h
  | g t1 t2 => 
    simp only [Tm.nest] at hn
    cases i with
    | zero => simp [Tm.kids] at h; subst h; omega
    | succ i =>
      cases i with
      | zero => simp [Tm.kids] at h; subst h; omega
      | succ i => simp [Tm.kids] at h
theorem nest_pos (t : Tm) : 0 < t.nest := by cases t <;> simp [Tm.nest] <;> omega
theorem kids_le (t : Tm) : t.kids.length ≤ 2 := by cases t <;> simp [Tm.kids]
theorem take_get {α : Type} {l : List α} {i : Nat} {a : α} (h : l[i]? = some a) : l.take (i + 1) = l.take i ++ [a] := by
  rw [List.take_add_one, h]; rfl
theorem sum_take1 {α : Type} {l : List α} {i : Nat} {a : α} {f : α → Nat} (h : l[i]? = some a) : ((l.take (i + 1)).map f).sum = ((l.take i).map f).sum + f a := by
  rw [take_get h, List.map_append, List.sum_append]; simp
theorem size_kids (t : Tm) : t.size = 1 + (t.kids.map Tm.size).sum := by
  cases t <;> simp [Tm.size, Tm.kids] <;> omega
def mxl (l : List Nat) : Nat := l.foldl max 0
theorem mxl_take1 {α : Type} {l : List α} {i : Nat} {a : α} {f : α → Nat} (h : l[i]? = some a) : mxl ((l.take (i + 1)).map f) = max (mxl ((l.take i).map f)) (f a) := by
  rw [take_get h, List.map_append]
  simp only [mxl, List.foldl_append, List.map_cons, List.map_nil, List.foldl_cons, List.foldl_nil]
theorem nest_kids (t : Tm) : t.nest = 1 + mxl (t.kids.map Tm.nest) := by
  cases t <;> simp [Tm.nest, Tm.kids, mxl]
section
variable {P : Program} {w : World} {K : PySem.W.Frag} {mg : Str → Option Value} {base : Heap} {N : List Str}
/-! ### is_variable -/
def spIsVar (N : List Str) : Sp := fun vs H Q _ => ∃ (t : Tm) (x : V), vs = [x] ∧ TmAt N H t x ∧ Q (.bl t.isV) H
theorem ok_is_variable (D : DF K mg "is_variable" s_is_variable ["term"]) (z1 : mg "isinstance" = none) (z2 : mg "tuple" = none) : OkD P w K mg base 1 "is_variable" ["term"] (spIsVar N) := by
  refine D.ok sc_is_variable (fun vs H Q E h => ?_) (fun f cdv A outer s H vs Q E hr h => ?_)
  · obtain ⟨t, x, rfl, _⟩ := h
    rfl
  obtain ⟨t, x, rfl, ht, q⟩ := h
  refine ⟨_, pss_one (ps_ret (pe_not (pe_callB (call_isTm (N := N)) (by rfl) z1 (by decide +kernel) (pa_cons (pv 0) (pa_cons (pe_bltn (v := .ty "tuple") (by rfl) z2 (by decide +kernel) rfl) pa_nil))))), ?_⟩
  refine ⟨x, rfl, t, x, rfl, ht, _, rfl, ?_⟩
  rw [Bool.not_not]
  exact q
/-! ### size -/
def spSize (N : List Str) (n : Nat) : Sp := fun vs H Q _ => ∃ (t : Tm) (x : V), vs = [x] ∧ TmAt N H t x ∧ t.nest ≤ n ∧ ∀ H', Same H H' → Q (.int t.size) H'
theorem ok_size1 {n : Nat} (D : DF K mg "size" s_size ["term"]) (G1 : OkD P w K mg base 1 "is_variable" ["term"] (spIsVar N)) (G : OkD P w K mg base (n + 1) "size" ["term"] (spSize N n)) : OkD P w K mg base (n + 2) "size" ["term"] (spSize N (n + 1)) := by
  refine D.ok sc_size (fun vs H Q E h => ?_) (fun f cdv A outer s H vs Q E hr h => ?_)
  · obtain ⟨t, x, rfl, _⟩ := h
    rfl
  obtain ⟨t, x, rfl, ht, hn, q⟩ := h
  obtain ⟨f1, fd1, m1, k1, b1, F1, _⟩ := G1
  obtain ⟨f2, fd2, m2, k2, b2, F2, _⟩ := G
  have hr1 : Room 1 _ := hr.mono (by omega)
  refine ⟨_, pss_cons (ps_if (pt_val (pe_call F1 hr1 rfl m1 k1 b1 .nil pass0 (pa_cons (pv 0) pa_nil))) (pss_one (ps_ret pe_int)) pss_nil)
    (pss_cons (ps_set (i := 1) sc_size.nd rfl (Or.inl rfl) pe_int)
    (pss_cons (ps_for PassesOwn.never rfl (pi_tup (pe_slice sl_1 (pv 0) (po_some pe_int) po_none)) (pg_name (i := 2) sc_size.nd rfl (Or.inl rfl))
      (pss_one (ps_set (i := 1) sc_size.nd rfl (Or.inl rfl) (pe_op op_add (pv 1) (pe_call F2 hr rfl m2 k2 b2 .nil pass0 (pa_cons (pv 2) pa_nil))))))
    (pss_one (ps_ret (pv 1))))), ?_⟩
  refine ⟨x, rfl, t, x, rfl, ht, _, rfl, ?_⟩
  cases e : t.isV with
  | true =>
    refine iteT ?_
    obtain ⟨k, rfl, rfl⟩ := ht.isV_int e
    exact q H (Same.refl H)
  | false =>
    refine iteF ?_
    obtain ⟨a, ys, rfl, h2, hk⟩ := ht.app e
    refine ⟨_, rfl, _, rfl, a, _, ys, rfl, rfl, rfl, SqT.of h2, fun p hp => ?_⟩
    refine ⟨p, rfl, ⟨_, SqT.of upd_same⟩, for_tup (K := K) (a := p) (xs := ys) (fun i σ H1 => ∃ v, σ = [some (.ref a), some (.int ((1 + ((t.kids.take i).map Tm.size).sum : Nat) : Int)), v] ∧ Same (upd H p (.tup ys)) H1)
      ⟨none, rfl, Same.refl _⟩ (fun i σ H1 _ ⟨_, _, s1⟩ => SqT.of (s1 _ _ upd_same)) ?_ ?_⟩
    · rintro i y σ H1 hi ⟨v, rfl, s1⟩
      obtain ⟨u, hu, hy⟩ := hk.get hi
      have s2 : Same H H1 := (same_new hp _).trans s1
      refine ⟨_, rfl, y, rfl, u, y, rfl, hy.same s2, kid_nest hu hn, fun H2 s3 => ?_⟩
      refine ⟨_, _, rfl, rfl, some y, ?_, s1.trans s3⟩
      show [some (V.ref a), some (V.int _), some y] = [some (V.ref a), some (V.int _), some y]
      rw [sum_take1 hu]
      simp only [List.cons.injEq, Option.some.injEq, V.int.injEq, and_true, true_and]
      omega
    · rintro σ H1 ⟨v, rfl, s1⟩
      refine ⟨_, rfl, ?_⟩
      rw [hk.length, List.take_length, ← size_kids]
      exact q H1 ((same_new hp _).trans s1)
theorem ok_size (D : DF K mg "size" s_size ["term"]) (G1 : OkD P w K mg base 1 "is_variable" ["term"] (spIsVar N)) : ∀ n, OkD P w K mg base (n + 1) "size" ["term"] (spSize N n)
  | 0 => (D.ok0 fun vs H Q E ⟨t, x, _, _, hn, _⟩ => absurd hn (by have := nest_pos t; omega)).mono (Nat.zero_le _)
  | n + 1 => ok_size1 D G1 (ok_size D G1 n)
/-! ### nesting -/
def spNest (N : List Str) (n : Nat) : Sp := fun vs H Q _ => ∃ (t : Tm) (x : V), vs = [x] ∧ TmAt N H t x ∧ t.nest ≤ n ∧ ∀ H', Same H H' → Q (.int t.nest) H'
theorem ok_nest1 {n : Nat} (D : DF K mg "nesting" s_nesting ["term"]) (z1 : mg "max" = none) (G1 : OkD P w K mg base 1 "is_variable" ["term"] (spIsVar N)) (G : OkD P w K mg base (n + 1) "nesting" ["term"] (spNest N n)) : OkD P w K mg base (n + 2) "nesting" ["term"] (spNest N (n + 1)) := by
  refine D.ok sc_nesting (fun vs H Q E h => ?_) (fun f cdv A outer s H vs Q E hr h => ?_)
  · obtain ⟨t, x, rfl, _⟩ := h
    rfl
  obtain ⟨t, x, rfl, ht, hn, q⟩ := h
  obtain ⟨f1, fd1, m1, k1, b1, F1, _⟩ := G1
  obtain ⟨f2, fd2, m2, k2, b2, F2, _⟩ := G
  have hr1 : Room 1 _ := hr.mono (by omega)
  refine ⟨_, pss_cons (ps_if (pt_val (pe_call F1 hr1 rfl m1 k1 b1 .nil pass0 (pa_cons (pv 0) pa_nil))) (pss_one (ps_ret pe_int)) pss_nil)
    (pss_cons (ps_set (i := 1) sc_nesting.nd rfl (Or.inl rfl) pe_int)
    (pss_cons (ps_for PassesOwn.never rfl (pi_tup (pe_slice sl_1 (pv 0) (po_some pe_int) po_none)) (pg_name (i := 2) sc_nesting.nd rfl (Or.inl rfl))
      (pss_one (ps_set (i := 1) sc_nesting.nd rfl (Or.inl rfl) (pe_callB (call_max2 rfl) (by rfl) z1 (by decide +kernel) (pa_cons (pv 1) (pa_cons (pe_call F2 hr rfl m2 k2 b2 .nil pass0 (pa_cons (pv 2) pa_nil)) pa_nil))))))
    (pss_one (ps_ret (pe_op op_add pe_int (pv 1)))))), ?_⟩
  refine ⟨x, rfl, t, x, rfl, ht, _, rfl, ?_⟩
  cases e : t.isV with
  | true =>
    refine iteT ?_
    obtain ⟨k, rfl, rfl⟩ := ht.isV_int e
    exact q H (Same.refl H)
  | false =>
    refine iteF ?_
    obtain ⟨a, ys, rfl, h2, hk⟩ := ht.app e
    refine ⟨_, rfl, _, rfl, a, _, ys, rfl, rfl, rfl, SqT.of h2, fun p hp => ?_⟩
    refine ⟨p, rfl, ⟨_, SqT.of upd_same⟩, for_tup (K := K) (a := p) (xs := ys) (fun i σ H1 => ∃ v, σ = [some (.ref a), some (natV (mxl ((t.kids.take i).map Tm.nest))), v] ∧ Same (upd H p (.tup ys)) H1)
      ⟨none, rfl, Same.refl _⟩ (fun i σ H1 _ ⟨_, _, s1⟩ => SqT.of (s1 _ _ upd_same)) ?_ ?_⟩
    · rintro i y σ H1 hi ⟨v, rfl, s1⟩
      obtain ⟨u, hu, hy⟩ := hk.get hi
      have s2 : Same H H1 := (same_new hp _).trans s1
      refine ⟨_, rfl, y, rfl, u, y, rfl, hy.same s2, kid_nest hu hn, fun H2 s3 => ?_⟩
      refine ⟨_, _, rfl, some y, ?_, s1.trans s3⟩
      show [some (V.ref a), some (V.int _), some y] = [some (V.ref a), some (V.int _), some y]
      rw [mxl_take1 hu]
      simp only [List.cons.injEq, Option.some.injEq, V.int.injEq, and_true, true_and]
      split <;> omega
    · rintro σ H1 ⟨v, rfl, s1⟩
      refine ⟨_, rfl, 1, _, rfl, rfl, ?_⟩
      have e3 : (1 : Int) + ((mxl ((t.kids.take ys.length).map Tm.nest) : Nat) : Int) = (t.nest : Int) := by
        rw [hk.length, List.take_length, nest_kids]; omega
      show Q (V.int _) H1
      rw [e3]
      exact q H1 ((same_new hp _).trans s1)
theorem ok_nest (D : DF K mg "nesting" s_nesting ["term"]) (z1 : mg "max" = none) (G1 : OkD P w K mg base 1 "is_variable" ["term"] (spIsVar N)) : ∀ n, OkD P w K mg base (n + 1) "nesting" ["term"] (spNest N n)
  | 0 => (D.ok0 fun vs H Q E ⟨t, x, _, _, hn, _⟩ => absurd hn (by have := nest_pos t; omega)).mono (Nat.zero_le _)
  | n + 1 => ok_nest1 D z1 G1 (ok_nest D z1 G1 n)
end
end K78
end
section
set_option maxHeartbeats 4000000
namespace K78
open PySem PySem.Spec PyProof.Rows L2
theorem has_kids {m : Nat} {t : Tm} (n : t.isV = false) : t.has m ↔ ∃ u, u ∈ t.kids ∧ u.has m := by
  cases t with
  | v _ => cases n
  | c _ => simp [Tm.has, Tm.kids]
  | f t => simp [Tm.has, Tm.kids]
  | g t u => simp [Tm.has, Tm.kids]
theorem mem_take1 {α : Type} {l : List α} {i : Nat} {a x : α} (h : l[i]? = some a) : x ∈ l.take (i + 1) ↔ x ∈ l.take i ∨ x = a := by
  rw [take_get h, List.mem_append, List.mem_singleton]
theorem size_take_le {t u : Tm} {i : Nat} (h : t.kids[i]? = some u) : ((t.kids.take i).map Tm.size).sum + u.size ≤ t.size := by
  rw [← sum_take1 (f := Tm.size) h, size_kids]
  have e : (t.kids.map Tm.size).sum = ((t.kids.take (i + 1)).map Tm.size).sum + ((t.kids.drop (i + 1)).map Tm.size).sum := by
    rw [← List.sum_append, ← List.map_append, List.take_append_drop]
  omega
theorem sz16 {n : Nat} (h : n ≤ 100000) : n < sizeLine := Nat.lt_of_le_of_lt h (by decide)
section
variable {P : Program} {w : World} {K : PySem.W.Frag} {mg : Str → Option Value} {base : Heap} {N : List Str}
/-! ### variables -/
def VarsOf (t : Tm) (ns : List Nat) : Prop := (∀ m, m ∈ ns ↔ t.has m) ∧ ns.length ≤ t.size
def spVars (N : List Str) (n : Nat) : Sp := fun vs H Q _ => ∃ (t : Tm) (x : V), vs = [x] ∧ TmAt N H t x ∧ t.nest ≤ n ∧ t.size ≤ 90000 ∧ ∀ p (ns : List Nat) H', H p = none → Same H H' → VarsOf t ns → H' p = some (.lst (ns.map natV)) → Q (.ref p) H'
theorem ok_vars1 {n : Nat} (D : DF K mg "variables" s_variables ["term"]) (G1 : OkD P w K mg base 1 "is_variable" ["term"] (spIsVar N)) (G : OkD P w K mg base (n + 1) "variables" ["term"] (spVars N n)) : OkD P w K mg base (n + 2) "variables" ["term"] (spVars N (n + 1)) := by
  refine D.ok sc_variables (fun vs H Q E h => ?_) (fun f cdv A outer s H vs Q E hr h => ?_)
  · obtain ⟨t, x, rfl, _⟩ := h
    rfl
  obtain ⟨t, x, rfl, ht, hn, hz, q⟩ := h
  obtain ⟨f1, fd1, m1, k1, b1, F1, _⟩ := G1
  obtain ⟨f2, fd2, m2, k2, b2, F2, _⟩ := G
  have hr1 : Room 1 _ := hr.mono (by omega)
  refine ⟨_, pss_cons (ps_if (pt_val (pe_call F1 hr1 rfl m1 k1 b1 .nil pass0 (pa_cons (pv 0) pa_nil))) (pss_one (ps_ret (pe_lst (pa_cons (pv 0) pa_nil)))) pss_nil)
    (pss_cons (ps_set (i := 1) sc_variables.nd rfl (Or.inl rfl) (pe_lst pa_nil))
    (pss_cons (ps_for PassesOwn.never rfl (pi_tup (pe_slice sl_1 (pv 0) (po_some pe_int) po_none)) (pg_name (i := 2) sc_variables.nd rfl (Or.inl rfl))
      (pss_one (ps_for PassesOwn.never rfl (pi_list (pe_call F2 hr rfl m2 k2 b2 .nil pass0 (pa_cons (pv 2) pa_nil))) (pg_name (i := 3) sc_variables.nd rfl (Or.inl rfl))
        (pss_one (ps_if (pt_cmpR op_notIn_seq (pv 3) (pv 1) (by rfl))
          (pss_one (ps_expr (pe_bm PySem.F.plainAttrs_list PySem.F.slot_list_append PySem.F.type_list_append mt_append (pv 1) (pa_cons (pv 3) pa_nil)))) pss_nil)))))
    (pss_one (ps_ret (pv 1))))), ?_⟩
  refine ⟨x, rfl, t, x, rfl, ht, _, rfl, ?_⟩
  cases e : t.isV with
  | true =>
    refine iteT ?_
    obtain ⟨k, rfl, rfl⟩ := ht.isV_int e
    refine ⟨_, rfl, (by decide : 1 ≤ sizeLine), fun p hp => ?_⟩
    exact q p [k] _ hp (same_new hp _) ⟨fun m => by rw [List.mem_singleton]; exact eq_comm, Nat.le_refl _⟩ upd_same
  | false =>
    refine iteF ?_
    obtain ⟨a, ys, rfl, h2, hk⟩ := ht.app e
    refine ⟨(by decide : 0 ≤ sizeLine), fun fd hfd => ?_⟩
    have sa : Same H (upd H fd (.lst [])) := same_new hfd _
    refine ⟨_, rfl, _, rfl, a, _, ys, rfl, rfl, rfl, SqT.of (sa _ _ h2), fun p hp => ?_⟩
    have sp : Same H (upd (upd H fd (.lst [])) p (.tup ys)) := sa.trans (same_new hp _)
    have npf : p ≠ fd := fun e => by subst e; rw [upd_same] at hp; cases hp
    refine ⟨p, rfl, ⟨_, SqT.of upd_same⟩, for_tup (K := K) (a := p) (xs := ys) (fun i σ H1 => ∃ (ns : List Nat) (v v' : Option V), σ = [some (.ref a), some (.ref fd), v, v'] ∧ Same H H1 ∧ H1 p = some (.tup ys) ∧ H1 fd = some (.lst (ns.map natV)) ∧ (∀ m, m ∈ ns ↔ ∃ u, u ∈ t.kids.take i ∧ u.has m) ∧ ns.length ≤ ((t.kids.take i).map Tm.size).sum)
      ⟨[], none, none, rfl, sp, upd_same, by rw [upd_ne npf.symm]; exact upd_same, fun m => by simp, Nat.le_refl _⟩ (fun i σ H1 _ ⟨_, _, _, _, _, h, _⟩ => SqT.of h) ?_ ?_⟩
    · rintro i y σ H1 hi ⟨ns, v, v', rfl, s1, hp1, hf1, hm1, hl1⟩
      obtain ⟨u, hu, hy⟩ := hk.get hi
      refine ⟨_, rfl, u, y, rfl, hy.same s1, kid_nest hu hn, by have := size_take_le hu; omega, fun p2 ms H2 np2 s2 hV hp2 => ?_⟩
      refine ⟨p2, rfl, ⟨_, SqL.of hp2⟩, ?_⟩
      have npf2 : fd ≠ p2 := ne_of_none hf1 np2
      refine for_list (K := K) (a := p2) (xs := ms.map natV) (fun j σ H3 => ∃ (ns : List Nat) (v v' : Option V), σ = [some (.ref a), some (.ref fd), v, v'] ∧ Same H H3 ∧ H3 p = some (.tup ys) ∧ H3 p2 = some (.lst (ms.map natV)) ∧ H3 fd = some (.lst (ns.map natV)) ∧ (∀ m, m ∈ ns ↔ (∃ u, u ∈ t.kids.take i ∧ u.has m) ∨ m ∈ ms.take j) ∧ ns.length ≤ ((t.kids.take i).map Tm.size).sum + j) ?_ ?_ ?_ ?_
      · exact ⟨ns, _, _, rfl, s1.trans s2, s2 _ _ hp1, hp2, s2 _ _ hf1, fun m => by rw [hm1]; simp, hl1⟩
      · rintro j σ H3 _ ⟨ns, v, v', _, _, _, h, _⟩
        exact SqL.of h
      · rintro j z σ H3 hj ⟨ns, v, v', rfl, s3, hp3, hp23, hf3, hm3, hl3⟩
        obtain ⟨m, hm, rfl⟩ : ∃ m, ms[j]? = some m ∧ natV m = z := by
          rw [List.getElem?_map, Option.map_eq_some_iff] at hj; exact hj
        have hjl : j < ms.length := (List.getElem?_eq_some_iff.mp hm).1
        have hz1 := size_take_le hu
        refine ⟨natV m, rfl, _, rfl, fd, _, rfl, .inl (SqL.of hf3), rfl, natV_flat ns, _, rfl, ?_⟩
        rw [if_pos rfl, inV_nat]
        have hm4 : ∀ m', (m' ∈ ns ∨ m' = m) ↔ (∃ u, u ∈ t.kids.take i ∧ u.has m') ∨ m' ∈ ms.take (j + 1) := fun m' => by
          rw [hm3, mem_take1 hm, or_assoc]
        refine ite2 (fun c => ?_) (fun c => ?_)
        · refine ⟨_, rfl, .inl ⟨rfl, _, SqL.of hf3⟩, _, rfl, fd, _, _, rfl, rfl, hf3, sz16 (by rw [List.length_map]; have := hV.2; omega), ?_⟩
          have npfd : p ≠ fd := npf
          refine ⟨ns ++ [m], v, some (natV m), rfl, fun b o h => ?_, ?_, ?_, ?_, ?_, ?_⟩
          · rw [upd_ne (ne_of_none h hfd)]; exact s3 _ _ h
          · rw [upd_ne npf]; exact hp3
          · rw [upd_ne npf2.symm]; exact hp23
          · rw [upd_same, List.map_append]; rfl
          · intro m'; rw [← hm4, List.mem_append, List.mem_singleton]
          · rw [List.length_append, List.length_singleton]; omega
        · have c2 : m ∈ ns := by simpa using c
          refine ⟨ns, v, some (natV m), rfl, s3, hp3, hp23, hf3, fun m' => ?_, by omega⟩
          rw [← hm4]
          constructor
          · exact .inl
          · rintro (h | rfl)
            · exact h
            · exact c2
      · rintro σ H3 ⟨ns, v, v', rfl, s3, hp3, hp23, hf3, hm3, hl3⟩
        refine ⟨ns, _, _, rfl, s3, hp3, hf3, fun m => ?_, ?_⟩
        · rw [hm3, List.length_map, List.take_length, hV.1]
          constructor
          · rintro (⟨u', h1, h2⟩ | h)
            · exact ⟨u', (mem_take1 hu).mpr (.inl h1), h2⟩
            · exact ⟨u, (mem_take1 hu).mpr (.inr rfl), h⟩
          · rintro ⟨u', h1, h2⟩
            rcases (mem_take1 hu).mp h1 with h | rfl
            · exact .inl ⟨u', h, h2⟩
            · exact .inr h2
        · rw [sum_take1 hu]
          rw [List.length_map] at hl3
          have := hV.2
          omega
    · rintro σ H1 ⟨ns, v, v', rfl, s1, hp1, hf1, hm1, hl1⟩
      refine ⟨_, rfl, ?_⟩
      refine q fd ns H1 hfd s1 ⟨fun m => ?_, ?_⟩ hf1
      · rw [hm1, hk.length, List.take_length, has_kids e]
      · rw [hk.length, List.take_length] at hl1
        rw [size_kids]; omega
theorem ok_vars (D : DF K mg "variables" s_variables ["term"]) (G1 : OkD P w K mg base 1 "is_variable" ["term"] (spIsVar N)) : ∀ n, OkD P w K mg base (n + 1) "variables" ["term"] (spVars N n)
  | 0 => (D.ok0 fun vs H Q E ⟨t, x, _, _, hn, _⟩ => absurd hn (by have := nest_pos t; omega)).mono (Nat.zero_le _)
  | n + 1 => ok_vars1 D G1 (ok_vars D G1 n)
end
end K78
end
section
set_option maxHeartbeats 4000000
namespace K78
open PySem PySem.Spec PyProof.Rows L2
def plcK : List Tm → Nat → List (List Nat)
  | [], _ => []
  | t :: ts, i => t.plc.map (i :: ·) ++ plcK ts (i + 1)
theorem plc_kids {t : Tm} (n : t.isV = false) : t.plc = [] :: plcK t.kids 1 := by
  cases t with
  | v _ => cases n
  | c _ => simp [Tm.plc, Tm.kids, plcK]
  | f t => simp [Tm.plc, Tm.kids, plcK]
  | g t u => simp [Tm.plc, Tm.kids, plcK]
theorem plcK_snoc (u : Tm) : ∀ (ts : List Tm) (i : Nat), plcK (ts ++ [u]) i = plcK ts i ++ u.plc.map ((i + ts.length) :: ·)
  | [], i => by simp [plcK]
  | t :: ts, i => by
    rw [List.cons_append, plcK, plcK, plcK_snoc u ts (i + 1), List.append_assoc, List.length_cons, show i + 1 + ts.length = i + (ts.length + 1) by omega]
theorem plcK_take1 {ts : List Tm} {i : Nat} {u : Tm} (h : ts[i]? = some u) : plcK (ts.take (i + 1)) 1 = plcK (ts.take i) 1 ++ u.plc.map ((1 + i) :: ·) := by
  have hl : i < ts.length := (List.getElem?_eq_some_iff.mp h).1
  rw [take_get h, plcK_snoc, List.length_take, Nat.min_eq_left (Nat.le_of_lt hl)]
theorem plc_le : ∀ t : Tm, t.plc.length ≤ t.size
  | .v _ => by simp [Tm.plc]
  | .c _ => by simp [Tm.plc, Tm.size]
  | .f t => by have := plc_le t; simp [Tm.plc, Tm.size]; omega
  | .g t u => by have := plc_le t; have := plc_le u; simp [Tm.plc, Tm.size]; omega
theorem plcK_le : ∀ (ts : List Tm) (i : Nat), (plcK ts i).length ≤ (ts.map Tm.size).sum
  | [], i => by simp [plcK]
  | t :: ts, i => by have := plc_le t; have := plcK_le ts (i + 1); simp [plcK]; omega
theorem plc_len : ∀ (t : Tm) {p : List Nat}, p ∈ t.plc → p.length < t.nest
  | .v _, p, h => by simp [Tm.plc] at h
  | .c _, p, h => by simp [Tm.plc] at h; subst h; exact Nat.one_pos
  | .f t, p, h => by
    simp [Tm.plc] at h
    rcases h with rfl | ⟨q, hq, rfl⟩
    · simp [Tm.nest]; omega
    · have := plc_len t hq; simp [Tm.nest]; omega
  | .g t u, p, h => by
    simp [Tm.plc] at h
    rcases h with rfl | ⟨q, hq, rfl⟩ | ⟨q, hq, rfl⟩
    · simp [Tm.nest]; omega
    · have := plc_len t hq; simp [Tm.nest]; omega
    · have := plc_len u hq; simp [Tm.nest]; omega
theorem nest_le_size : ∀ t : Tm, t.nest ≤ t.size
  | .v _ => Nat.le_refl _
  | .c _ => Nat.le_refl _
  | .f t => by have := nest_le_size t; simp [Tm.nest, Tm.size]; omega
  | .g t u => by have := nest_le_size t; have := nest_le_size u; simp [Tm.nest, Tm.size]; omega
section
variable {P : Program} {w : World} {K : PySem.W.Frag} {mg : Str → Option Value} {base : Heap} {N : List Str}
/-! ### positions -/
def spPos (N : List Str) (n : Nat) : Sp := fun vs H Q _ => ∃ (t : Tm) (x : V), vs = [x, .bl false] ∧ TmAt N H t x ∧ t.nest ≤ n ∧ t.size ≤ 90000 ∧ ∀ p ys H', H p = none → Same H H' → PossAt H' t.plc ys → H' p = some (.lst ys) → Q (.ref p) H'
theorem ok_positions1 {n : Nat} (D : DFK K mg "positions" s_positions ["term", "with_variables"] 1 ["with_variables"] [("with_variables", .bl true)]) (z1 : mg "range" = none) (z2 : mg "len" = none) (G1 : OkD P w K mg base 1 "is_variable" ["term"] (spIsVar N))
    (G : OkK P w K mg base (n + 1) "positions" ["term", "with_variables"] 1 ["with_variables"] (spPos N n)) : OkK P w K mg base (n + 2) "positions" ["term", "with_variables"] 1 ["with_variables"] (spPos N (n + 1)) := by
  refine D.ok sc_positions (fun vs H Q E h => ?_) (fun f cdv A outer s H vs Q E hr h => ?_)
  · obtain ⟨t, x, rfl, _⟩ := h
    rfl
  obtain ⟨t, x, rfl, ht, hn, hz, q⟩ := h
  obtain ⟨f1, fd1, m1, k1, b1, F1, _⟩ := G1
  obtain ⟨f2, fd2, m2, k2, b2, F2, _⟩ := G
  have hr1 : Room 1 _ := hr.mono (by omega)
  have nd := sc_positions.nd
  refine ⟨_, pss_cons (ps_if (pt_val (pe_call F1 hr1 rfl m1 k1 b1 .nil pass0 (pa_cons (pv 0) pa_nil)))
      (pss_cons (ps_if (pt_val (pv 1)) (pss_one (ps_ret (pe_lst (pa_cons (pe_tup pa_nil) pa_nil)))) pss_nil) (pss_one (ps_ret (pe_lst pa_nil)))) pss_nil)
    (pss_cons (ps_set (i := 2) nd rfl (Or.inl rfl) (pe_lst (pa_cons (pe_tup pa_nil) pa_nil)))
    (pss_cons (ps_for PassesOwn.never rfl (pi_range2 (by rfl) z1 (pa_cons pe_int (pa_cons (pe_callB call_len_seq (by rfl) z2 PySem.boot_len (pa_cons (pv 0) pa_nil)) pa_nil))) (pg_name (i := 3) nd rfl (Or.inl rfl))
      (pss_one (ps_for PassesOwn.never rfl (pi_list (pe_callN F2 hr rfl m2 k2 b2 pass0 (pa_cons (pe_ix ix_tup (pv 0) (pv 3) (fun _ _ => rfl)) pa_nil) (pk_cons (pv 1) pk_nil))) (pg_name (i := 4) nd rfl (Or.inl rfl))
        (pss_one (ps_expr (pe_bm PySem.F.plainAttrs_list PySem.F.slot_list_append PySem.F.type_list_append mt_append (pv 2) (pa_cons (pe_op op_catN (pe_tup (pa_cons (pv 3) pa_nil)) (pv 4)) pa_nil)))))))
    (pss_one (ps_ret (pv 2))))), ?_⟩
  refine ⟨x, rfl, t, x, rfl, ht, _, rfl, ?_⟩
  cases e : t.isV with
  | true =>
    refine iteT ?_
    obtain ⟨k, rfl, rfl⟩ := ht.isV_int e
    refine ⟨_, rfl, false, rfl, ?_⟩
    refine iteF ?_
    refine ⟨(by decide : 0 ≤ sizeLine), fun p hp => ?_⟩
    exact q p [] _ hp (same_new hp _) rfl upd_same
  | false =>
    refine iteF ?_
    obtain ⟨a, ys, rfl, h2, hk⟩ := ht.app e
    refine ⟨(by decide : 0 ≤ sizeLine), fun e0 he0 => ⟨(by decide : 1 ≤ sizeLine), fun fd hfd => ?_⟩⟩
    have s0 : Same H (upd H e0 (.tup [])) := same_new he0 _
    have nfd : H fd = none := s0.free hfd
    have sa : Same H (upd (upd H e0 (.tup [])) fd (.lst [.ref e0])) := s0.trans (same_new hfd _)
    have hl : ys.length ≤ 2 := by rw [hk.length]; exact kids_le t
    refine ⟨_, rfl, a, _, rfl, .inr (SqT.of (sa _ _ h2)), 1, _, rfl, ?_, ?_⟩
    · rw [List.length_cons]; omega
    have en : (((V.str (sy N t) :: ys).length : Int) - 1).toNat = ys.length := by rw [List.length_cons]; omega
    rw [en]
    refine for_range (lo := 1) (n := ys.length) (fun i σ H1 => ∃ (zs : List V) (v v' : Option V), σ = [some (.ref a), some (.bl false), some (.ref fd), v, v'] ∧ Same H H1 ∧ H1 fd = some (.lst zs) ∧ PossAt H1 ([] :: plcK (t.kids.take i) 1) zs) ?_ ?_ ?_
    · refine ⟨_, none, none, rfl, sa, upd_same, _, [], rfl, ⟨e0, rfl, ?_⟩, rfl⟩
      rw [upd_ne (ne_of_none upd_same hfd)]
      exact upd_same
    · rintro i σ H1 hi ⟨zs, v, v', rfl, s1, hf1, hp1⟩
      have hy : ys[i]? = some ys[i] := List.getElem?_eq_getElem hi
      obtain ⟨u, hu, hyu⟩ := hk.get hy
      have hzu := size_take_le hu
      refine ⟨_, rfl, _, rfl, a, _, 1 + (i : Int), ys[i], rfl, rfl, SqT.of (s1 _ _ h2), at_of (j := i + 1) (by omega) (by rw [List.getElem?_cons_succ]; exact hy), _, rfl, rfl, rfl, u, _, rfl, hyu.same s1, kid_nest hu hn, by omega, fun p2 ws H2 np2 s2 hW hp2 => ?_⟩
      refine ⟨p2, rfl, ⟨_, SqL.of hp2⟩, ?_⟩
      have npf2 : fd ≠ p2 := ne_of_none hf1 np2
      refine for_list (K := K) (a := p2) (xs := ws) (fun j σ H3 => ∃ (zs : List V) (v' : Option V), σ = [some (.ref a), some (.bl false), some (.ref fd), some (.int (1 + (i : Int))), v'] ∧ Same H H3 ∧ PossAt H3 u.plc ws ∧ H3 p2 = some (.lst ws) ∧ H3 fd = some (.lst zs) ∧ PossAt H3 ([] :: (plcK (t.kids.take i) 1 ++ (u.plc.take j).map ((1 + i) :: ·))) zs) ?_ ?_ ?_ ?_
      · exact ⟨zs, _, rfl, s1.trans s2, hW, hp2, s2 _ _ hf1, by simpa using PossAt.same hp1 s2⟩
      · rintro j σ H3 _ ⟨zs, v', _, _, _, h, _⟩
        exact SqL.of h
      · rintro j z σ H3 hj ⟨zs, v', rfl, s3, hW3, hp23, hf3, hP3⟩
        obtain ⟨p, hpj, b, rfl, hb⟩ := hW3.get hj
        have hpm : p ∈ u.plc := List.mem_of_getElem? hpj
        have hlp := plc_len _ hpm
        have hnu : u.nest ≤ u.size := nest_le_size u
        refine ⟨_, rfl, .inl ⟨rfl, _, SqL.of hf3⟩, _, rfl, (by decide : 1 ≤ sizeLine), fun c hc => ?_⟩
        have s4 : Same H3 (upd H3 c (.tup [.int (1 + (i : Int))])) := same_new hc _
        refine ⟨_, rfl, c, b, _, _, rfl, rfl, upd_same, s4 _ _ hb, by simp, by rw [List.length_map, List.length_singleton]; omega, fun r H5 s5 hr5 => ?_⟩
        have s6 := s4.trans s5
        have hzl : zs.length ≤ t.size := by
          have e1 := hP3.length
          have e2 := plcK_le (t.kids.take i) 1
          have e3 := plc_le u
          rw [e1, List.length_cons, List.length_append, List.length_map, List.length_take]
          have e4 : j < u.plc.length := (List.getElem?_eq_some_iff.mp hpj).1
          have e5 := size_kids t
          have e6 : ((t.kids.take i).map Tm.size).sum + u.size + 1 ≤ t.size := by
            rw [← sum_take1 (f := Tm.size) hu]
            have e : (t.kids.map Tm.size).sum = ((t.kids.take (i + 1)).map Tm.size).sum + ((t.kids.drop (i + 1)).map Tm.size).sum := by
              rw [← List.sum_append, ← List.map_append, List.take_append_drop]
            omega
          omega
        refine ⟨fd, zs, _, rfl, rfl, s6 _ _ hf3, sz16 (by omega), ?_⟩
        have nr : fd ≠ r := ne_of (s6 _ _ hf3) hr5 (by intro z; cases z)
        have sbut : ∀ b xs, H5 b = some (.tup xs) → (upd H5 fd (.lst (zs ++ [.ref r]))) b = some (.tup xs) := fun b xs h => by
          rw [upd_ne (ne_of h (s6 _ _ hf3) (by intro z; cases z))]; exact h
        refine ⟨zs ++ [.ref r], some (.ref b), rfl, fun b o h => ?_, ?_, ?_, upd_same, ?_⟩
        · rw [upd_ne (ne_of_none h nfd)]; exact s6 _ _ (s3 _ _ h)
        · exact AllAt.mono (fun p y ⟨a, h1, h2⟩ => ⟨a, h1, sbut _ _ (s6 _ _ h2)⟩) hW3
        · rw [upd_ne npf2.symm]; exact s6 _ _ hp23
        · rw [take_get hpj, List.map_append, ← List.append_assoc, ← List.cons_append]
          refine AllAt.snoc (AllAt.mono (fun p y ⟨a, h1, h2⟩ => ⟨a, h1, sbut _ _ (s6 _ _ h2)⟩) hP3) ⟨r, rfl, sbut _ _ ?_⟩
          rw [hr5]
          simp [natV]
      · rintro σ H3 ⟨zs, v', rfl, s3, hW3, hp23, hf3, hP3⟩
        refine ⟨zs, _, _, rfl, s3, hf3, ?_⟩
        rw [plcK_take1 hu]
        rw [hW3.length, List.take_length] at hP3
        exact hP3
    · rintro σ H1 ⟨zs, v, v', rfl, s1, hf1, hp1⟩
      refine ⟨_, rfl, ?_⟩
      rw [hk.length, List.take_length, ← plc_kids e] at hp1
      exact q fd zs H1 nfd s1 hp1 hf1
theorem ok_positions (D : DFK K mg "positions" s_positions ["term", "with_variables"] 1 ["with_variables"] [("with_variables", .bl true)]) (z1 : mg "range" = none) (z2 : mg "len" = none) (G1 : OkD P w K mg base 1 "is_variable" ["term"] (spIsVar N)) : ∀ n, OkK P w K mg base (n + 1) "positions" ["term", "with_variables"] 1 ["with_variables"] (spPos N n)
  | 0 => (D.ok0 fun vs H Q E ⟨t, x, _, _, hn, _⟩ => absurd hn (by have := nest_pos t; omega)).mono (Nat.zero_le _)
  | n + 1 => ok_positions1 D z1 z2 G1 (ok_positions D z1 z2 G1 n)
end
end K78
end
section
set_option maxHeartbeats 4000000
namespace K78
open PySem PySem.Spec PyProof.Rows L2
/-- a position stands in a term -/
def isP : Tm → List Nat → Bool
  | _, [] => true
  | .f t, 1 :: p => isP t p
  | .g t _, 1 :: p => isP t p
  | .g _ u, 2 :: p => isP u p
  | _, _ :: _ => false
theorem isP_kid {t : Tm} {k : Nat} {p : List Nat} (h : isP t (k :: p) = true) : t.isV = false ∧ ∃ (i : Nat) (u : Tm), k = i + 1 ∧ t.kids[i]? = some u ∧ isP u p = true ∧ t.sat (k :: p) = u.sat p ∧
    ∀ r, (t.put (k :: p) r).isV = false ∧ (t.put (k :: p) r).hd = t.hd ∧ (t.put (k :: p) r).kids = t.kids.set i (u.put p r) := by
  unfold isP at h
  split at h
  · exact absurd (by assumption) (List.cons_ne_nil _ _)
  · rename_i e; cases e
    exact ⟨rfl, 0, _, rfl, rfl, h, rfl, fun r => ⟨rfl, rfl, rfl⟩⟩
  · rename_i e; cases e
    exact ⟨rfl, 0, _, rfl, rfl, h, rfl, fun r => ⟨rfl, rfl, rfl⟩⟩
  · rename_i e; cases e
    exact ⟨rfl, 1, _, rfl, rfl, h, rfl, fun r => ⟨rfl, rfl, rfl⟩⟩
  · cases h
theorem sat_nil (t : Tm) : t.sat [] = t := by cases t <;> rfl
theorem put_nil (t r : Tm) : t.put [] r = r := by cases t <;> rfl
theorem isP_plc : ∀ {t : Tm} {p : List Nat}, p ∈ t.plc → isP t p = true ∧ (t.sat p).isV = false
  | .v _, p, h => by simp [Tm.plc] at h
  | .c _, p, h => by simp [Tm.plc] at h; subst h; exact ⟨rfl, rfl⟩
  | .f t, p, h => by
    simp [Tm.plc] at h
    rcases h with rfl | ⟨q, hq, rfl⟩
    · exact ⟨rfl, rfl⟩
    · have := isP_plc hq; simpa [isP, Tm.sat] using this
  | .g t u, p, h => by
    simp [Tm.plc] at h
    rcases h with rfl | ⟨q, hq, rfl⟩ | ⟨q, hq, rfl⟩
    · exact ⟨rfl, rfl⟩
    · have := isP_plc hq; simpa [isP, Tm.sat] using this
    · have := isP_plc hq; simpa [isP, Tm.sat] using this
theorem isP_len : ∀ {t : Tm} {p : List Nat}, isP t p = true → p.length < t.nest
  | t, [], _ => nest_pos t
  | t, k :: p, h => by
    obtain ⟨n, i, u, rfl, hu, hp, _⟩ := isP_kid h
    have h1 := isP_len hp
    have h2 : u.nest < t.nest := by
      obtain ⟨m, hm⟩ : ∃ m, t.nest = m + 1 := ⟨t.nest - 1, by have := nest_pos t; omega⟩
      have := kid_nest hu (Nat.le_of_eq hm)
      omega
    simp only [List.length_cons]; omega
section
variable {P : Program} {w : World} {K : PySem.W.Frag} {mg : Str → Option Value} {base : Heap} {N : List Str}
/-! ### subterm_at -/
def spSub (N : List Str) : Sp := fun vs H Q _ => ∃ (t : Tm) (p : List Nat) (x y : V), vs = [x, y] ∧ TmAt N H t x ∧ PosAt H p y ∧ isP t p = true ∧ ∀ z H', Same H H' → TmAt N H' (t.sat p) z → Q z H'
theorem ok_subterm_at (D : DF K mg "subterm_at" s_subterm_at ["term", "position"]) (z2 : mg "len" = none) (G1 : OkD P w K mg base 1 "is_variable" ["term"] (spIsVar N)) : OkD P w K mg base 2 "subterm_at" ["term", "position"] (spSub N) := by
  refine D.ok sc_subterm_at (fun vs H Q E h => ?_) (fun f cdv A outer s H vs Q E hr h => ?_)
  · obtain ⟨t, p, x, y, rfl, _⟩ := h
    rfl
  obtain ⟨t, p, x, y, rfl, ht, ⟨b, rfl, hb⟩, hp, q⟩ := h
  obtain ⟨f1, fd1, m1, k1, b1, F1, _⟩ := G1
  have nd := sc_subterm_at.nd
  refine ⟨_, pss_cons (ps_set (i := 2) nd rfl (Or.inl rfl) (pv 0))
    (pss_cons (ps_for PassesOwn.never rfl (pi_tup (pv 1)) (pg_name (i := 3) nd rfl (Or.inl rfl))
      (pss_cons (ps_if (PW.pt (pw_or (pt_val (pe_call F1 hr rfl m1 k1 b1 .nil pass0 (pa_cons (pv 2) pa_nil))) (pw_or (pt_cmpR op_lt (pv 3) pe_int (nomark _)) (pw_or1 (pt_cmpR op_ge (pv 3) (pe_callB call_len_seq (by rfl) z2 PySem.boot_len (pa_cons (pv 2) pa_nil)) (nomark _)))))) (pss_one ps_never) pss_nil)
      (pss_one (ps_set (i := 2) nd rfl (Or.inl rfl) (pe_ix ix_tup (pv 2) (pv 3) (fun _ _ => rfl))))))
    (pss_one (ps_ret (pv 2)))), ?_⟩
  refine ⟨x, rfl, _, rfl, b, rfl, ⟨_, SqT.of hb⟩, for_tup (K := K) (a := b) (xs := p.map natV) (fun i σ H1 => ∃ (u : Tm) (z : V) (v : Option V), σ = [some x, some (.ref b), some z, v] ∧ H1 = H ∧ TmAt N H u z ∧ isP u (p.drop i) = true ∧ t.sat p = u.sat (p.drop i))
    ⟨t, x, none, rfl, rfl, ht, hp, rfl⟩ (fun i σ H1 _ ⟨_, _, _, _, e, _⟩ => e ▸ SqT.of hb) ?_ ?_⟩
  · rintro i y σ H1 hi ⟨u, z, v, rfl, rfl, hu, hup, hs⟩
    obtain ⟨k, hk, rfl⟩ : ∃ k, p[i]? = some k ∧ natV k = y := by
      rw [List.getElem?_map, Option.map_eq_some_iff] at hi; exact hi
    obtain ⟨hil, ek⟩ := List.getElem?_eq_some_iff.mp hk
    have ed : p.drop i = k :: p.drop (i + 1) := by rw [List.drop_eq_getElem_cons hil, ek]
    rw [ed] at hup hs
    obtain ⟨n, j, u', rfl, hj, hup', hs', _⟩ := isP_kid hup
    obtain ⟨a, ys, rfl, h2, hk2⟩ := hu.app n
    obtain ⟨y', hy', hty⟩ := hk2.get' hj
    refine ⟨_, rfl, u, _, rfl, hu, _, rfl, ?_⟩
    rw [n]
    refine iteF ?_
    refine ⟨_, rfl, _, _, rfl, rfl, _, rfl, ?_⟩
    have e1 : decide (((j + 1 : Nat) : Int) < 1) = false := decide_eq_false (by omega)
    rw [e1]
    refine iteF ?_
    refine ⟨_, rfl, _, rfl, a, _, rfl, .inr (SqT.of h2), _, _, rfl, rfl, _, rfl, ?_⟩
    have hjl : j < ys.length := (List.getElem?_eq_some_iff.mp hy').1
    have e2 : decide (((V.str (sy N u) :: ys).length : Int) ≤ ((j + 1 : Nat) : Int)) = false := decide_eq_false (by rw [List.length_cons]; omega)
    rw [e2]
    refine iteF ?_
    refine ⟨_, rfl, _, rfl, a, _, _, y', rfl, rfl, SqT.of h2, atI_nat (by rw [List.getElem?_cons_succ]; exact hy'), ?_⟩
    exact ⟨u', y', some (natV (j + 1)), rfl, rfl, hty, hup', by rw [hs, hs']⟩
  · rintro σ H1 ⟨u, z, v, rfl, rfl, hu, hup, hs⟩
    refine ⟨_, rfl, q z H1 (Same.refl _) ?_⟩
    rw [List.length_map, List.drop_length] at hs
    rw [hs, sat_nil]
    exact hu
/-! ### exchanged, replace_at -/
def spExch (N : List Str) (n : Nat) : Sp := fun vs H Q _ => ∃ (t r : Tm) (p : List Nat) (x y z : V), vs = [x, y, z] ∧ TmAt N H t x ∧ PosAt H p y ∧ TmAt N H r z ∧ isP t p = true ∧ p.length < n ∧ ∀ z H', Same H H' → TmAt N H' (t.put p r) z → Q z H'
theorem drop_one {α : Type} {a : α} {l : List α} : (a :: l).drop 1 = l := rfl
theorem split_set {ys : List V} {i : Nat} {s y : V} (h : i < ys.length) : ((s :: ys).take (i + 1) ++ [y]) ++ (s :: ys).drop (i + 1 + 1) = s :: ys.set i y := by
  rw [List.take_succ_cons, List.drop_succ_cons, List.cons_append, List.cons_append, List.set_eq_take_append_cons_drop, if_pos h, List.append_assoc]
  rfl
theorem ok_exch1 {n : Nat} (D : DF K mg "exchanged" s_exchanged ["term", "position", "new"]) (G : OkD P w K mg base n "exchanged" ["term", "position", "new"] (spExch N n)) : OkD P w K mg base (n + 1) "exchanged" ["term", "position", "new"] (spExch N (n + 1)) := by
  refine D.ok sc_exchanged (fun vs H Q E h => ?_) (fun f cdv A outer s H vs Q E hr h => ?_)
  · obtain ⟨t, r, p, x, y, z, rfl, _⟩ := h
    rfl
  obtain ⟨t, r, p, x, y, z, rfl, ht, ⟨b, rfl, hb⟩, hz, hp, hn, q⟩ := h
  obtain ⟨f2, fd2, m2, k2, b2, F2, _⟩ := G
  have nd := sc_exchanged.nd
  refine ⟨_, pss_cons (ps_if (pt_not (pt_truth (pv 1) (by intro _; rfl))) (pss_one (ps_ret (pv 2))) pss_nil)
    (pss_cons (ps_set (i := 3) nd rfl (Or.inl rfl) (pe_ix ix_tup (pv 1) pe_int (fun _ _ => rfl)))
    (pss_cons (ps_set (i := 4) nd rfl (Or.inl rfl) (pe_call F2 hr rfl m2 k2 b2 .nil pass0 (pa_cons (pe_ix ix_tup (pv 0) (pv 3) (fun _ _ => rfl)) (pa_cons (pe_slice sl_1 (pv 1) (po_some pe_int) po_none) (pa_cons (pv 2) pa_nil)))))
    (pss_one (ps_ret (pe_op op_catN (pe_op op_catN (pe_slice sl_tk (pv 0) po_none (po_some (pv 3))) (pe_tup (pa_cons (pv 4) pa_nil))) (pe_slice sl_dp (pv 0) (po_some (pe_op op_add (pv 3) pe_int)) po_none)))))), ?_⟩
  refine ⟨_, rfl, _, .inr (.inl ⟨_, SqT.of hb, rfl⟩), ?_⟩
  cases p with
  | nil =>
    refine iteT ⟨_, rfl, ?_⟩
    rw [put_nil] at q
    exact q z H (Same.refl _) hz
  | cons k p =>
    refine iteF ?_
    obtain ⟨nv, i, u, rfl, hu, hup, _, hput⟩ := isP_kid hp
    obtain ⟨a, ys, rfl, h2, hk⟩ := ht.app nv
    obtain ⟨y', hy', hty⟩ := hk.get' hu
    have hil : i < ys.length := (List.getElem?_eq_some_iff.mp hy').1
    have hl2 : ys.length ≤ 2 := by rw [hk.length]; exact kids_le t
    refine ⟨_, rfl, b, _, 0, natV (i + 1), rfl, rfl, SqT.of hb, atI_nat (j := 0) rfl, ?_⟩
    refine ⟨_, rfl, _, rfl, a, _, _, y', rfl, rfl, SqT.of h2, atI_nat (j := i + 1) (by rw [List.getElem?_cons_succ]; exact hy'), ?_⟩
    refine ⟨_, rfl, _, rfl, b, _, p.map natV, rfl, rfl, rfl, SqT.of hb, fun c hc => ?_⟩
    have s1 : Same H (upd H c (.tup (p.map natV))) := same_new hc _
    refine ⟨_, rfl, u, r, p, y', .ref c, z, rfl, hty.same s1, ⟨c, rfl, upd_same⟩, hz.same s1, hup, by simp only [List.length_cons] at hn; omega, fun v H1 s2 hv => ?_⟩
    have s3 := s1.trans s2
    refine ⟨_, rfl, _, rfl, _, rfl, a, _, i + 1, rfl, rfl, rfl, by rw [List.length_cons]; omega, SqT.of (s3 _ _ h2), fun d hd => ?_⟩
    have s4 : Same H1 (upd H1 d (.tup ((V.str (sy N t) :: ys).take (i + 1)))) := same_new hd _
    refine ⟨_, rfl, (by decide : 1 ≤ sizeLine), fun e he => ?_⟩
    have s5 := s4.trans (same_new he (.tup [v]))
    have hd5 := same_new he (.tup [v]) _ _ (upd_same (H := H1) (a := d) (o := .tup ((V.str (sy N t) :: ys).take (i + 1))))
    refine ⟨d, e, _, _, rfl, rfl, hd5, upd_same, by simp, ?_, fun g H2 s6 hg => ?_⟩
    · rw [List.length_take, List.length_singleton, List.length_cons]; omega
    have s7 := s5.trans s6
    have e1 : ((i + 1 : Nat) : Int) + 1 = ((i + 1 + 1 : Nat) : Int) := by omega
    refine ⟨_, rfl, _, rfl, _, _, rfl, rfl, _, rfl, ?_⟩
    refine ⟨a, _, i + 1 + 1, rfl, congrArg some e1, rfl, by omega, by rw [List.length_cons]; omega, SqT.of (s7 _ _ (s3 _ _ h2)), fun j hj => ?_⟩
    have s8 := s7.trans (same_new hj (.tup ((V.str (sy N t) :: ys).drop (i + 1 + 1))))
    refine ⟨g, j, _, _, rfl, rfl, same_new hj _ _ _ hg, upd_same, by simp, ?_, fun o H3 s9 ho => ?_⟩
    · rw [List.length_append, List.length_take, List.length_drop, List.length_singleton, List.length_cons]; omega
    rw [split_set hil] at ho
    have s10 := s3.trans (s8.trans s9)
    refine q (.ref o) H3 s10 ?_
    obtain ⟨g1, g2, g3⟩ := hput r
    refine TmAt.mk g1 (ys := ys.set i v) ?_ ?_
    · rw [ho]; unfold sy; rw [g2]
    · rw [g3]
      exact AllAt.set (TmsAt.same hk s10) (hv.same (s8.trans s9))
theorem ok_exch (D : DF K mg "exchanged" s_exchanged ["term", "position", "new"]) : ∀ n, OkD P w K mg base n "exchanged" ["term", "position", "new"] (spExch N n)
  | 0 => D.ok0 fun vs H Q E ⟨t, r, p, x, y, z, _, _, _, _, _, hn, _⟩ => absurd hn (Nat.not_lt_zero _)
  | n + 1 => ok_exch1 D (ok_exch D n)
theorem ok_replace_at {n : Nat} (D : DF K mg "replace_at" s_replace_at ["term", "position", "new"]) (G1 : OkD P w K mg base 2 "subterm_at" ["term", "position"] (spSub N)) (G2 : OkD P w K mg base n "exchanged" ["term", "position", "new"] (spExch N n)) (h2 : 2 ≤ n) : OkD P w K mg base (n + 1) "replace_at" ["term", "position", "new"] (spExch N n) := by
  refine D.ok sc_replace_at (fun vs H Q E h => ?_) (fun f cdv A outer s H vs Q E hr h => ?_)
  · obtain ⟨t, r, p, x, y, z, rfl, _⟩ := h
    rfl
  obtain ⟨t, r, p, x, y, z, rfl, ht, hb, hz, hp, hn, q⟩ := h
  obtain ⟨f1, fd1, m1, k1, b1, F1, _⟩ := G1
  obtain ⟨f2, fd2, m2, k2, b2, F2, _⟩ := G2
  refine ⟨_, pss_cons (ps_expr (pe_call F1 (hr.mono h2) rfl m1 k1 b1 .nil pass0 (pa_cons (pv 0) (pa_cons (pv 1) pa_nil)))) (pss_one (ps_ret (pe_call F2 hr rfl m2 k2 b2 .nil pass0 (pa_cons (pv 0) (pa_cons (pv 1) (pa_cons (pv 2) pa_nil)))))), ?_⟩
  refine ⟨_, rfl, _, rfl, t, p, x, y, rfl, ht, hb, hp, fun v H1 s1 _ => ?_⟩
  exact ⟨_, rfl, _, rfl, _, rfl, t, r, p, x, y, z, rfl, ht.same s1, hb.same s1, hz.same s1, hp, hn, fun z H2 s2 h => q z H2 (s1.trans s2) h⟩
/-! ### shift -/
def spShift (N : List Str) (n : Nat) : Sp := fun vs H Q _ => ∃ (t : Tm) (d : Nat) (x : V), vs = [x, natV d] ∧ TmAt N H t x ∧ t.nest ≤ n ∧ ∀ z H', Same H H' → TmAt N H' (t.shift d) z → Q z H'
theorem shift_kids (t : Tm) (d : Nat) (n : t.isV = false) : (t.shift d).isV = false ∧ (t.shift d).hd = t.hd ∧ (t.shift d).kids = t.kids.map (Tm.shift d) := by
  cases t with
  | v _ => cases n
  | c _ => exact ⟨rfl, rfl, rfl⟩
  | f _ => exact ⟨rfl, rfl, rfl⟩
  | g _ _ => exact ⟨rfl, rfl, rfl⟩
theorem ok_shift1 {n : Nat} (D : DF K mg "shift" s_shift ["term", "by"]) (z1 : mg "tuple" = none) (G1 : OkD P w K mg base 1 "is_variable" ["term"] (spIsVar N)) (G : OkD P w K mg base (n + 1) "shift" ["term", "by"] (spShift N n)) : OkD P w K mg base (n + 2) "shift" ["term", "by"] (spShift N (n + 1)) := by
  refine D.ok sc_shift (fun vs H Q E h => ?_) (fun f cdv A outer s H vs Q E hr h => ?_)
  · obtain ⟨t, d, x, rfl, _⟩ := h
    rfl
  obtain ⟨t, d, x, rfl, ht, hn, q⟩ := h
  obtain ⟨f1, fd1, m1, k1, b1, F1, _⟩ := G1
  obtain ⟨f2, fd2, m2, k2, b2, F2, _⟩ := G
  have hr1 : Room 1 _ := hr.mono (by omega)
  have nd := sc_shift.nd
  refine ⟨_, pss_cons (ps_if (pt_val (pe_call F1 hr1 rfl m1 k1 b1 .nil pass0 (pa_cons (pv 0) pa_nil))) (pss_one (ps_ret (pe_op op_add (pv 0) (pv 1)))) pss_nil)
    (pss_one (ps_ret (pe_op op_catN (pe_tup (pa_cons (pe_ix ix_tup (pv 0) pe_int (fun _ _ => rfl)) pa_nil)) (pe_callTy call_tuple_of (by rfl) z1 (by decide +kernel) (pa_cons
      (pe_lc (own := [("argument", 2)]) (g := gName 2) (tt := tYes) rfl nd (pi_tup (pe_slice sl_1 (pv 0) (po_some pe_int) po_none)) (blkOk_by (N := ["term", "by", "argument"]) (sc := defScope s_shift) (by decide +kernel)) (fun _ _ _ _ _ => pg_name (i := 2) nd rfl (Or.inl rfl)) (fun _ _ _ _ _ => pts_nil)
        (fun _ _ _ _ _ => pe_call F2 hr rfl m2 k2 b2 .nil pass0 (pa_cons (pv 2) (pa_cons (pv 1) pa_nil)))) pa_nil))))), ?_⟩
  refine ⟨x, rfl, t, x, rfl, ht, _, rfl, ?_⟩
  cases e : t.isV with
  | true =>
    refine iteT ?_
    obtain ⟨k, rfl, rfl⟩ := ht.isV_int e
    refine ⟨_, rfl, _, rfl, _, _, rfl, rfl, ?_⟩
    exact q _ H (Same.refl _) (by show V.int _ = V.int _; rw [Int.natCast_add])
  | false =>
    refine iteF ?_
    obtain ⟨a, ys, rfl, h2, hk⟩ := ht.app e
    have hl2 : ys.length ≤ 2 := by rw [hk.length]; exact kids_le t
    refine ⟨_, rfl, a, _, 0, _, rfl, rfl, SqT.of h2, atI_nat (j := 0) rfl, (by decide : 1 ≤ sizeLine), fun c hc => ?_⟩
    have s1 : Same H (upd H c (.tup [V.str (sy N t)])) := same_new hc _
    refine ⟨_, rfl, _, rfl, a, _, ys, rfl, rfl, rfl, SqT.of (s1 _ _ h2), fun p hp => ?_⟩
    have s2 := s1.trans (same_new hp (.tup ys))
    refine ⟨p, rfl, ⟨_, SqT.of upd_same⟩, fun D hD => lc_map_tup (R := TmAt N) (bs := t.kids.map (Tm.shift d)) (fun _ _ _ _ e h => h.tupS e) (by rw [List.length_map, hk.length]) (by omega) upd_same ?_ hD ?_⟩
    · intro k y b H1 Q' hy hb s3 q'
      rw [List.getElem?_map, Option.map_eq_some_iff] at hb
      obtain ⟨u, hu, rfl⟩ := hb
      obtain ⟨u', hu', hyu⟩ := hk.get hy
      rw [hu] at hu'
      cases hu'
      exact ⟨_, rfl, _, rfl, u, d, y, rfl, hyu.same (s2.trans s3), kid_nest hu hn, fun z H2 s4 hz => q' z H2 s4 hz⟩
    · intro zs H1 s3 hd1 ha1
      refine ⟨D, zs, rfl, .inl ⟨SqL.of hd1, fun l hl => ?_⟩⟩
      have s4 := same_new hl (.tup zs)
      have hzl : zs.length ≤ 2 := by rw [ha1.length, List.length_map]; exact kids_le t
      refine ⟨c, l, _, _, rfl, rfl, s4 _ _ (s3 _ _ (same_new hp (.tup ys) _ _ upd_same)), upd_same, by simp, by rw [List.length_singleton]; omega, fun r H2 s5 hr2 => ?_⟩
      have s6 := s2.trans (s3.trans (s4.trans s5))
      obtain ⟨g1, g2, g3⟩ := shift_kids t d e
      refine q (.ref r) H2 s6 (TmAt.mk g1 (ys := zs) ?_ ?_)
      · rw [hr2]; unfold sy; rw [g2]; rfl
      · rw [g3]
        exact TmsAt.same ha1 (s4.trans s5)
theorem ok_shift (D : DF K mg "shift" s_shift ["term", "by"]) (z1 : mg "tuple" = none) (G1 : OkD P w K mg base 1 "is_variable" ["term"] (spIsVar N)) : ∀ n, OkD P w K mg base (n + 1) "shift" ["term", "by"] (spShift N n)
  | 0 => (D.ok0 fun vs H Q E ⟨t, d, x, _, _, hn, _⟩ => absurd hn (by have := nest_pos t; omega)).mono (Nat.zero_le _)
  | n + 1 => ok_shift1 D z1 G1 (ok_shift D z1 G1 n)
end
end K78
end
section
set_option maxHeartbeats 4000000
namespace K78
open PySem PySem.Spec PyProof.Rows L2
/-- the five names are five, and texts that can be written -/
structure NmOk (N : List Str) : Prop where
  inj : ∀ i j, i < 5 → j < 5 → N.getD i "" = N.getD j "" → i = j
  ok : ∀ i, i < 5 → PyData.strOk (N.getD i "") = true
theorem hd_lt (t : Tm) : t.hd < 5 := by
  cases t with
  | v _ => exact Nat.succ_pos 4
  | c k => exact Nat.lt_of_lt_of_le k.isLt (by decide)
  | f _ => exact (by decide : 3 < 5)
  | g _ _ => exact (by decide : 4 < 5)
/-- a term as data -/
def tmD (N : List Str) : Tm → PyData
  | .v n => .int n
  | .c k => .tuple [.str (N.getD k.val "")]
  | .f t => .tuple [.str (N.getD 3 ""), tmD N t]
  | .g t u => .tuple [.str (N.getD 4 ""), tmD N t, tmD N u]
section
variable {K : PySem.W.Frag} {N : List Str} {H : Hp}
theorem dp_tm : ∀ {t : Tm} {x : V}, TmAt N H t x → Dp K H x (tmD N t)
  | .v n, _, h => by cases h; exact .int _
  | .c k, _, ⟨a, h1, h2⟩ => by cases h1; exact .tup (SqT.of h2) (.cons (.str _) .nil)
  | .f t, _, ⟨a, y, h1, h2, h3⟩ => by cases h1; exact .tup (SqT.of h2) (.cons (.str _) (.cons (dp_tm h3) .nil))
  | .g t u, _, ⟨a, y, z, h1, h2, h3, h4⟩ => by cases h1; exact .tup (SqT.of h2) (.cons (.str _) (.cons (dp_tm h3) (.cons (dp_tm h4) .nil)))
theorem tmD_lay (hN : NmOk N) : ∀ t : Tm, (tmD N t).canLay0 = true
  | .v n => by simp [tmD, PyData.canLay0]
  | .c k => by have := hN.ok k.val (hd_lt (.c k)); simp only [tmD, PyData.canLay0, PyData.canLayAll0, this, Bool.and_self]
  | .f t => by have := hN.ok 3 (by decide); simp only [tmD, PyData.canLay0, PyData.canLayAll0, this, tmD_lay hN t, Bool.and_self]
  | .g t u => by have := hN.ok 4 (by decide); simp only [tmD, PyData.canLay0, PyData.canLayAll0, this, tmD_lay hN t, tmD_lay hN u, Bool.and_self]
theorem tmD_depth : ∀ t : Tm, (tmD N t).depth ≤ t.nest
  | .v n => by simp [tmD, PyData.depth]
  | .c k => by simp [tmD, PyData.depth, PyData.depthAll, Tm.nest]
  | .f t => by have := tmD_depth t; simp only [tmD, PyData.depth, PyData.depthAll, Tm.nest]; omega
  | .g t u => by have := tmD_depth t; have := tmD_depth u; simp only [tmD, PyData.depth, PyData.depthAll, Tm.nest]; omega
theorem tmD_eqv (hN : NmOk N) : ∀ t u : Tm, PyData.eqv (tmD N t) (tmD N u) = decide (t = u) := by
  have ne : ∀ {i j : Nat}, i < 5 → j < 5 → i ≠ j → (N.getD i "" == N.getD j "") = false := fun {i j} hi hj h => by
    rw [beq_eq_false_iff_ne]; exact fun e => h (hN.inj i j hi hj e)
  intro t
  induction t with
  | v n =>
    intro u
    cases u with
    | v m =>
      simp only [tmD, PyData.eqv, Tm.v.injEq]
      rw [Bool.eq_iff_iff, beq_iff_eq, decide_eq_true_eq]
      omega
    | _ => simp [tmD, PyData.eqv]
  | c k =>
    intro u
    cases u with
    | v m => simp [tmD, PyData.eqv]
    | c j =>
      simp only [tmD, PyData.eqv, PyData.eqvAll, Bool.and_true, Tm.c.injEq]
      rw [Bool.eq_iff_iff, beq_iff_eq, decide_eq_true_eq]
      exact ⟨fun e => Fin.ext (hN.inj _ _ (by omega) (by omega) e), fun e => by rw [e]⟩
    | f t => simp [tmD, PyData.eqv, PyData.eqvAll]
    | g t u => simp [tmD, PyData.eqv, PyData.eqvAll]
  | f t ih =>
    intro u
    cases u with
    | v m => simp [tmD, PyData.eqv]
    | c j => simp [tmD, PyData.eqv, PyData.eqvAll]
    | f t' =>
      simp only [tmD, PyData.eqv, PyData.eqvAll, Bool.and_true, Tm.f.injEq, ih, beq_self_eq_true, Bool.true_and]
    | g t u => simp [tmD, PyData.eqv, PyData.eqvAll]
  | g t1 t2 ih1 ih2 =>
    intro u
    cases u with
    | v m => simp [tmD, PyData.eqv]
    | c j => simp [tmD, PyData.eqv, PyData.eqvAll]
    | f t => simp [tmD, PyData.eqv, PyData.eqvAll]
    | g u1 u2 =>
      simp only [tmD, PyData.eqv, PyData.eqvAll, Bool.and_true, Tm.g.injEq, ih1, ih2, beq_self_eq_true, Bool.true_and]
      rw [Bool.eq_iff_iff, Bool.and_eq_true, decide_eq_true_eq, decide_eq_true_eq, decide_eq_true_eq]
end
section
variable {X : Cx}
def rEqX (K : PySem.W.Frag) : R2 := fun x y H Q => ∃ d e, Dp K H x d ∧ Dp K H y e ∧ d.canLay0 = true ∧ e.canLay0 = true ∧ min d.depth e.depth ≤ 190 ∧ Q (.bl (PyData.eqv d e)) H
def rNeX (K : PySem.W.Frag) : R2 := fun x y H Q => ∃ d e, Dp K H x d ∧ Dp K H y e ∧ d.canLay0 = true ∧ e.canLay0 = true ∧ min d.depth e.depth ≤ 190 ∧ Q (.bl (!PyData.eqv d e)) H
theorem op_eqX (hu : X.A.units + 200 < cLine) : OpR X (compareOp .Eq) (rEqX X.K) := by
  intro pins s σ H x y v u Q I rx ry h
  obtain ⟨d, e, hd, he, sd, se, hm, q⟩ := h
  obtain ⟨as, r1⟩ := Dp.reads I d x v hd rx
  obtain ⟨bs, r2⟩ := Dp.reads I e y u he ry
  exact SeqAt.compareEq_reads r1 r2 sd se (by omega) ⟨.bl _, H, I, rfl, q⟩
theorem op_neX (hu : X.A.units + 200 < cLine) : OpR X (compareOp .NotEq) (rNeX X.K) := by
  intro pins s σ H x y v u Q I rx ry h
  obtain ⟨d, e, hd, he, sd, se, hm, q⟩ := h
  obtain ⟨as, r1⟩ := Dp.reads I d x v hd rx
  obtain ⟨bs, r2⟩ := Dp.reads I e y u he ry
  exact SeqAt.compareNe_reads r1 r2 sd se (by omega) ⟨.bl _, H, I, rfl, q⟩
def rEqTm (N : List Str) : R2 := fun x y H Q => ∃ t u, TmAt N H t x ∧ TmAt N H u y ∧ min t.nest u.nest ≤ 190 ∧ Q (.bl (decide (t = u))) H
def rNeTm (N : List Str) : R2 := fun x y H Q => ∃ t u, TmAt N H t x ∧ TmAt N H u y ∧ min t.nest u.nest ≤ 190 ∧ Q (.bl (!decide (t = u))) H
variable {N : List Str}
theorem op_eqTm (hN : NmOk N) (hu : X.A.units + 200 < cLine) : OpR X (compareOp .Eq) (rEqTm N) := by
  intro pins s σ H x y v u Q I rx ry ⟨t, u', ht, hu', hn, q⟩
  refine op_eqX hu pins s σ H x y v u Q I rx ry ⟨_, _, dp_tm ht, dp_tm hu', tmD_lay hN t, tmD_lay hN u', ?_, ?_⟩
  · have := tmD_depth (N := N) t; have := tmD_depth (N := N) u'; omega
  · rw [tmD_eqv hN]; exact q
theorem op_neTm (hN : NmOk N) (hu : X.A.units + 200 < cLine) : OpR X (compareOp .NotEq) (rNeTm N) := by
  intro pins s σ H x y v u Q I rx ry ⟨t, u', ht, hu', hn, q⟩
  refine op_neX hu pins s σ H x y v u Q I rx ry ⟨_, _, dp_tm ht, dp_tm hu', tmD_lay hN t, tmD_lay hN u', ?_, ?_⟩
  · have := tmD_depth (N := N) t; have := tmD_depth (N := N) u'; omega
  · rw [tmD_eqv hN]; exact q
theorem hu2 {A : Around} {k : Nat} (hr : Room k A) : A.units + 200 < cLine := by have := hr.un; omega
end
/-! ### substitutions -/
/-- a dict that stands for a partial substitution, of at most k entries -/
def SubK (N : List Str) (H : Hp) (kvs : List (Key × V)) (s : PSub) : Prop := ∀ n : Nat, match s n with
  | none => valV kvs (Sum.inl (n : Int) : Key) = none
  | some t => ∃ x, valV kvs (Sum.inl (n : Int) : Key) = some x ∧ TmAt N H t x
def SubAt (N : List Str) (H : Hp) (d : Addr) (s : PSub) (k : Nat) : Prop := ∃ kvs, H d = some (.dK kvs) ∧ kvs.length ≤ k ∧ SubK N H kvs s
section
variable {N : List Str} {H H' : Hp} {kvs : List (Key × V)} {s : PSub} {d : Addr} {k : Nat}
theorem SubK.tupS (h : SubK N H kvs s) (e : TupSame H H') : SubK N H' kvs s := fun n => by
  have := h n
  cases hs : s n with
  | none => rw [hs] at this; exact this
  | some t => rw [hs] at this; obtain ⟨x, h1, h2⟩ := this; exact ⟨x, h1, h2.tupS e⟩
theorem SubK.none_at {n : Nat} (h : SubK N H kvs s) (e : s n = none) : valV kvs (Sum.inl (n : Int) : Key) = none := by
  have := h n; rw [e] at this; exact this
theorem SubK.some_at {n : Nat} {t : Tm} (h : SubK N H kvs s) (e : s n = some t) : ∃ x, valV kvs (Sum.inl (n : Int) : Key) = some x ∧ TmAt N H t x := by
  have := h n; rw [e] at this; exact this
theorem SubAt.same (h : SubAt N H d s k) (e : Same H H') : SubAt N H' d s k := by
  obtain ⟨kvs, h1, h2, h3⟩ := h
  exact ⟨kvs, e _ _ h1, h2, h3.tupS (TupSame.of e)⟩
theorem SubAt.mono {k' : Nat} (h : SubAt N H d s k) (e : k ≤ k') : SubAt N H d s k' := by
  obtain ⟨kvs, h1, h2, h3⟩ := h
  exact ⟨kvs, h1, Nat.le_trans h2 e, h3⟩
theorem SubK.nil : SubK N H [] PSub.nil := fun _ => rfl
theorem SubK.put {n : Nat} {t : Tm} {x : V} (h : SubK N H kvs s) (hx : TmAt N H t x) : SubK N H (putK kvs (Sum.inl (n : Int)) x) (s.set n t) := fun m => by
  unfold PSub.set
  by_cases e : m = n
  · subst e
    rw [if_pos rfl]
    exact ⟨x, by rw [valV_put, if_pos rfl], hx⟩
  · rw [if_neg e]
    have e2 : valV (putK kvs (Sum.inl (n : Int) : Key) x) (Sum.inl (m : Int)) = valV kvs (Sum.inl (m : Int) : Key) := by
      rw [valV_put, if_neg]
      intro q
      have := Sum.inl.inj q
      omega
    rw [e2]
    exact h m
/-- all stays but what stands at d -/
def But (d : Addr) (H H' : Hp) : Prop := ∀ b o, b ≠ d → H b = some o → H' b = some o
theorem But.refl : But d H H := fun _ _ _ h => h
theorem But.trans {H1 : Hp} (e : But d H H1) (e2 : But d H1 H') : But d H H' := fun b o hb h => e2 b o hb (e b o hb h)
theorem But.of (e : Same H H') : But d H H' := fun b o _ h => e b o h
theorem But.tup {o : HO} (e : But d H H') (hd : H d = some o) (n : ∀ xs, o ≠ .tup xs) : TupSame H H' := fun b xs h => e b _ (ne_of h hd fun q => n xs q.symm) h
theorem But.tupD (e : But d H H') (hd : H d = some (.dK kvs)) : TupSame H H' := e.tup hd fun xs q => by cases q
theorem but_upd {o : HO} : But d H (upd H d o) := fun b u hb h => by rw [upd_ne hb]; exact h
/-- new at d: all that stood stays -/
theorem Same.but {H1 : Hp} (e : Same H H1) (hd : H d = none) (b : But d H1 H') : Same H H' := fun c o h => b c o (ne_of_none h hd) (e c o h)
end
end K78
end
section
set_option maxHeartbeats 4000000
namespace K78
open PySem PySem.Spec PyProof.Rows L2
def mtK : List Tm → List Tm → PSub → Option PSub
  | [], [], s => some s
  | p :: ps, t :: ts, s => match mt p t s with
    | some s' => mtK ps ts s'
    | none => none
  | _, _, _ => none
theorem mt_kids {p t : Tm} {s : PSub} (np : p.isV = false) (nt : t.isV = false) (h : p.hd = t.hd) : mt p t s = mtK p.kids t.kids s ∧ p.kids.length = t.kids.length := by
  cases p with
  | v _ => cases np
  | c k =>
    cases t with
    | v _ => cases nt
    | c j =>
      have e : k = j := Fin.ext h
      subst e
      simp [mt, mtK, Tm.kids]
    | f _ => exact absurd h (by simp only [Tm.hd]; omega)
    | g _ _ => exact absurd h (by simp only [Tm.hd]; omega)
  | f p =>
    cases t with
    | v _ => cases nt
    | c j => exact absurd h (by simp only [Tm.hd]; omega)
    | f t =>
      refine ⟨?_, rfl⟩
      simp only [mt, mtK, Tm.kids]
      cases mt p t s <;> rfl
    | g _ _ => exact absurd h (by simp only [Tm.hd]; omega)
  | g p1 p2 =>
    cases t with
    | v _ => cases nt
    | c j => exact absurd h (by simp only [Tm.hd]; omega)
    | f _ => exact absurd h (by simp only [Tm.hd]; omega)
    | g t u =>
      refine ⟨?_, rfl⟩
      simp only [mt, mtK, Tm.kids]
      cases mt p1 t s with
      | none => rfl
      | some s' => simp only []; cases mt p2 u s' <;> rfl
theorem mt_ne {p t : Tm} {s : PSub} (np : p.isV = false) (h : t.isV = true ∨ p.hd ≠ t.hd) : mt p t s = none := by
  cases p with
  | v _ => cases np
  | c k =>
    cases t with
    | c j =>
      rcases h with h | h
      · cases h
      · simp only [mt]
        rw [if_neg]
        intro e
        injection e with e
        exact h (by rw [e])
    | _ => simp [mt]
  | f p =>
    cases t with
    | f t => rcases h with h | h <;> first | cases h | exact absurd rfl h
    | _ => simp [mt]
  | g p1 p2 =>
    cases t with
    | g t u => rcases h with h | h <;> first | cases h | exact absurd rfl h
    | _ => simp [mt]
theorem sy_eq {N : List Str} (hN : NmOk N) (t u : Tm) : decide (V.str (sy N t) = V.str (sy N u)) = decide (t.hd = u.hd) := by
  rw [Bool.eq_iff_iff, decide_eq_true_eq, decide_eq_true_eq]
  exact ⟨fun e => hN.inj _ _ (hd_lt t) (hd_lt u) (V.str.inj e), fun e => by unfold sy; rw [e]⟩
section
variable {P : Program} {w : World} {K : PySem.W.Frag} {mg : Str → Option Value} {base : Heap} {N : List Str}
/-! ### _extend -/
def spExt (N : List Str) (n : Nat) : Sp := fun vs H Q _ => ∃ (p t : Tm) (x y : V) (d : Addr) (s : PSub) (k : Nat), vs = [x, y, .ref d] ∧ TmAt N H p x ∧ TmAt N H t y ∧ SubAt N H d s k ∧ p.nest ≤ n ∧ t.nest ≤ 190 ∧ k + p.size ≤ 90000 ∧
  (∀ H' s', But d H H' → mt p t s = some s' → SubAt N H' d s' (k + p.size) → Q (.bl true) H') ∧ (∀ H', But d H H' → mt p t s = none → Q (.bl false) H')
theorem ok_ext1 {n : Nat} (hN : NmOk N) (D : DF K mg "_extend" s_extend ["pattern", "term", "found"]) (z1 : mg "zip" = none) (z2 : mg "len" = none) (G1 : OkD P w K mg base 1 "is_variable" ["term"] (spIsVar N)) (G : OkD P w K mg base (n + 1) "_extend" ["pattern", "term", "found"] (spExt N n)) : OkD P w K mg base (n + 2) "_extend" ["pattern", "term", "found"] (spExt N (n + 1)) := by
  refine D.ok sc_extend (fun vs H Q E h => ?_) (fun f cdv A outer s H vs Q E hr h => ?_)
  · obtain ⟨p, t, x, y, d, s, k, rfl, _⟩ := h
    rfl
  obtain ⟨p, t, x, y, d, s, k, rfl, hp, ht, hs, hn, hnt, hk, qT, qF⟩ := h
  obtain ⟨f1, fd1, m1, k1, b1, F1, _⟩ := G1
  obtain ⟨f2, fd2, m2, k2, b2, F2, _⟩ := G
  have hr1 : Room 1 _ := hr.mono (by omega)
  have hu := hu_of hr
  have nd := sc_extend.nd
  refine ⟨_, pss_cons (ps_if (pt_val (pe_call F1 hr1 rfl m1 k1 b1 .nil pass0 (pa_cons (pv 0) pa_nil)))
      (pss_cons (ps_if (pt_cmp (pc_din hu (pv 0) (pv 2))) (pss_one (ps_ret (pe_cmpR (op_eqTm hN (hu2 hr)) (pe_dget hu (pv 2) (pv 0) (fun _ _ => rfl)) (pv 1) (nomark _)))) pss_nil)
      (pss_cons (ps_dput hu (pv 2) (pv 0) (pv 1) rfl) (pss_one (ps_ret pe_bl)))) pss_nil)
    (pss_cons (ps_if (PW.pt (pw_or (pt_val (pe_call F1 hr1 rfl m1 k1 b1 .nil pass0 (pa_cons (pv 1) pa_nil))) (pw_or (pt_cmpR op_ne (pe_ix ix_tup (pv 0) pe_int (fun _ _ => rfl)) (pe_ix ix_tup (pv 1) pe_int (fun _ _ => rfl)) (nomark _))
        (pw_or1 (pt_cmpR op_ne (pe_callB call_len_seq (by rfl) z2 PySem.boot_len (pa_cons (pv 0) pa_nil)) (pe_callB call_len_seq (by rfl) z2 PySem.boot_len (pa_cons (pv 1) pa_nil)) (nomark _)))))) (pss_one (ps_ret pe_bl)) pss_nil)
    (pss_cons (ps_for PassesOwn.never rfl (RZ.pi_zipA (by rfl) z1 (pa_cons (pe_slice sl_1 (pv 0) (po_some pe_int) po_none) (pa_cons (pe_slice sl_1 (pv 1) (po_some pe_int) po_none) pa_nil)))
        (pg_tup rfl (pgs_cons (pg_name (i := 3) nd rfl (.inl rfl)) (pgs_cons (pg_name (i := 4) nd rfl (.inl rfl)) pgs_nil)))
      (pss_one (ps_if (pt_not (pt_val (pe_call F2 hr rfl m2 k2 b2 .nil pass0 (pa_cons (pv 3) (pa_cons (pv 4) (pa_cons (pv 2) pa_nil)))))) (pss_one (ps_ret pe_bl)) pss_nil)))
    (pss_one (ps_ret pe_bl)))), ?_⟩
  refine ⟨x, rfl, p, x, rfl, hp, _, rfl, ?_⟩
  cases e : p.isV with
  | true =>
    refine iteT ?_
    obtain ⟨m, rfl, rfl⟩ := hp.isV_int e
    obtain ⟨kvs, hd, hl, hs⟩ := hs
    refine ⟨_, rfl, _, rfl, d, _, rfl, DGet.k (k := Sum.inl (m : Int)) hd, _, rfl, ?_⟩
    cases em : s m with
    | some u =>
      obtain ⟨z, hz, hzt⟩ := hs.some_at em
      rw [hz]
      refine iteT ?_
      have hg : DGet H d (natV m) (some z) := by rw [← hz]; exact DGet.k (k := Sum.inl (m : Int)) hd
      refine ⟨_, rfl, _, rfl, d, z, rfl, hg, _, rfl, u, t, hzt, ht, by omega, ?_⟩
      by_cases eu : u = t
      · rw [decide_eq_true eu]
        exact qT H s But.refl (by simp only [mt, em]; rw [if_pos eu]) ⟨kvs, hd, by simp only [Tm.size]; omega, hs⟩
      · rw [decide_eq_false eu]
        exact qF H But.refl (by simp only [mt, em]; rw [if_neg eu])
    | none =>
      rw [hs.none_at em]
      refine iteF ?_
      refine ⟨_, rfl, _, rfl, _, rfl, d, _, rfl, DPut.k (k := Sum.inl (m : Int)) hd (sz16 (by omega)), ?_⟩
      refine qT _ (s.set m t) but_upd (by simp only [mt, em]) ⟨_, upd_same, ?_, ?_⟩
      · have := length_putK kvs (Sum.inl (m : Int) : Key) y; simp only [Tm.size]; omega
      · exact SubK.put (hs.tupS (tup_updD hd)) (ht.tupS (tup_updD hd))
  | false =>
    refine iteF ?_
    refine ⟨y, rfl, t, y, rfl, ht, _, rfl, ?_⟩
    cases e2 : t.isV with
    | true =>
      refine iteT ?_
      exact iteT (qF H But.refl (mt_ne e (.inl e2)))
    | false =>
      refine iteF ?_
      obtain ⟨a, ys, rfl, h2, hk2⟩ := hp.app e
      obtain ⟨b, zs, rfl, h3, hk3⟩ := ht.app e2
      refine ⟨_, rfl, a, _, 0, _, rfl, rfl, SqT.of h2, atI_nat (j := 0) rfl, _, rfl, b, _, 0, _, rfl, rfl, SqT.of h3, atI_nat (j := 0) rfl, rfl, _, rfl, ?_⟩
      rw [sy_eq hN]
      by_cases eh : p.hd = t.hd
      · rw [decide_eq_true eh]
        refine iteF ?_
        obtain ⟨em, el⟩ := mt_kids (s := s) e e2 eh
        refine ⟨_, rfl, a, _, rfl, .inr (SqT.of h2), _, rfl, b, _, rfl, .inr (SqT.of h3), rfl, _, rfl, ?_⟩
        have ell : ys.length = zs.length := by rw [hk2.length, hk3.length, el]
        have e5 : decide (V.int ((V.str (sy N p) :: ys).length : Int) = V.int ((V.str (sy N t) :: zs).length : Int)) = true := decide_eq_true (by rw [List.length_cons, List.length_cons, ell])
        rw [e5]
        refine iteF ?_
        refine ⟨_, rfl, _, rfl, a, _, ys, rfl, rfl, rfl, SqT.of h2, fun c1 hc1 => ?_⟩
        have s1 : Same H (upd H c1 (.tup ys)) := same_new hc1 _
        refine ⟨_, rfl, _, rfl, b, _, zs, rfl, rfl, rfl, SqT.of (s1 _ _ h3), fun c2 hc2 => ?_⟩
        have s2 := s1.trans (same_new hc2 (.tup zs))
        refine ⟨c1, c2, ys, zs, rfl, .inr ⟨SqT.of (same_new hc2 _ _ _ upd_same), SqT.of upd_same, ?_⟩⟩
        refine RZ.for_zipT (K := K) (a := c1) (b := c2) (xs := ys) (ys := zs) ell (fun i σ H1 => ∃ (s' : PSub) (v v' : Option V), σ = [some (.ref a), some (.ref b), some (.ref d), v, v'] ∧ But d H H1 ∧ H1 c1 = some (.tup ys) ∧ H1 c2 = some (.tup zs) ∧ SubAt N H1 d s' (k + ((p.kids.take i).map Tm.size).sum) ∧ mtK (p.kids.drop i) (t.kids.drop i) s' = mt p t s) ?_ ?_ ?_ ?_
        · exact ⟨s, none, none, rfl, .of s2, same_new hc2 _ _ _ upd_same, upd_same, by simpa using hs.same s2, by simpa using em.symm⟩
        · rintro i σ H1 ⟨s', v, v', _, _, h1, h2, _⟩
          exact ⟨SqT.of h1, SqT.of h2⟩
        · rintro i x y T σ H1 hx hy ⟨s', v, v', rfl, b1, g1, g2, hs1, hm⟩ hT
          obtain ⟨pu, hpu, hxu⟩ := hk2.get hx
          obtain ⟨tu, htu, hyu⟩ := hk3.get hy
          obtain ⟨kvs, hd, hl, hs1⟩ := hs1
          have hd0 : ∃ kvs0, H d = some (.dK kvs0) := by obtain ⟨kvs0, h, _⟩ := hs; exact ⟨kvs0, h⟩
          obtain ⟨kvs0, hd0⟩ := hd0
          have sT : Same H1 (upd H1 T (.tup [x, y])) := same_new hT _
          have tS : TupSame H (upd H1 T (.tup [x, y])) := (b1.tupD hd0).trans (TupSame.of sT)
          have hzp := size_take_le hpu
          have hpd : p.kids.drop i = pu :: p.kids.drop (i + 1) := by
            obtain ⟨hil, ek⟩ := List.getElem?_eq_some_iff.mp hpu
            rw [List.drop_eq_getElem_cons hil, ek]
          have htd : t.kids.drop i = tu :: t.kids.drop (i + 1) := by
            obtain ⟨hil, ek⟩ := List.getElem?_eq_some_iff.mp htu
            rw [List.drop_eq_getElem_cons hil, ek]
          rw [hpd, htd] at hm
          have hnt2 : tu.nest ≤ 190 := by have := kid_nest htu (n := 189) hnt; omega
          refine ⟨T, [x, y], rfl, SqT.of upd_same, rfl, _, _, rfl, _, _, rfl, rfl, ?_⟩
          refine ⟨_, rfl, _, rfl, _, rfl, pu, tu, x, y, d, s', _, rfl, hxu.tupS tS, hyu.tupS tS, ⟨kvs, sT _ _ hd, hl, hs1.tupS (TupSame.of sT)⟩, kid_nest hpu hn, hnt2, by omega, fun H2 s2' bt e1 hs2 => ?_, fun H2 bt e1 => ?_⟩
          · refine ⟨_, rfl, ?_⟩
            refine iteF ?_
            have nd1 : c1 ≠ d := ne_of g1 hd (by intro q; cases q)
            have nd2 : c2 ≠ d := ne_of g2 hd (by intro q; cases q)
            refine ⟨s2', some x, some y, rfl, b1.trans ((But.of sT).trans bt), bt _ _ nd1 (sT _ _ g1), bt _ _ nd2 (sT _ _ g2), ?_, ?_⟩
            · rw [sum_take1 hpu, ← Nat.add_assoc]; exact hs2
            · rw [← hm]; simp only [mtK, e1]
          · refine ⟨_, rfl, ?_⟩
            refine iteT ?_
            refine qF H2 (b1.trans ((But.of sT).trans bt)) ?_
            rw [← hm]; simp only [mtK, e1]
        · rintro σ H1 ⟨s', v, v', rfl, b1, g1, g2, hs1, hm⟩
          rw [hk2.length, List.drop_length, el, List.drop_length] at hm
          rw [hk2.length, List.take_length] at hs1
          exact qT H1 s' b1 hm.symm (hs1.mono (by rw [size_kids p]; omega))
      · rw [decide_eq_false eh]
        refine iteT ?_
        exact iteT (qF H But.refl (mt_ne e (.inr eh)))
theorem ok_ext (hN : NmOk N) (D : DF K mg "_extend" s_extend ["pattern", "term", "found"]) (z1 : mg "zip" = none) (z2 : mg "len" = none) (G1 : OkD P w K mg base 1 "is_variable" ["term"] (spIsVar N)) : ∀ n, OkD P w K mg base (n + 1) "_extend" ["pattern", "term", "found"] (spExt N n)
  | 0 => (D.ok0 fun vs H Q E ⟨p, t, x, y, d, s, k, _, _, _, _, hn, _⟩ => absurd hn (by have := nest_pos p; omega)).mono (Nat.zero_le _)
  | n + 1 => ok_ext1 hN D z1 z2 G1 (ok_ext hN D z1 z2 G1 n)
end
end K78
end
section
set_option maxHeartbeats 4000000
namespace K78
open PySem PySem.Spec PyProof.Rows L2
section
variable {P : Program} {w : World} {K : PySem.W.Frag} {mg : Str → Option Value} {base : Heap} {N : List Str}
/-- what a match hands back: a new dict, or None -/
def MtQ (N : List Str) (p t : Tm) (H : Hp) (Q : VK) : Prop :=
  (∀ d H' s', H d = none → Same H H' → mt p t PSub.nil = some s' → SubAt N H' d s' p.size → Q (.ref d) H') ∧ (∀ H', Same H H' → mt p t PSub.nil = none → Q .non H')
def spMatchAll (N : List Str) (n : Nat) : Sp := fun vs H Q _ => ∃ (p t : Tm) (x y : V) (l a : Addr), vs = [.ref l, .non] ∧ H l = some (.lst [.ref a]) ∧ H a = some (.tup [x, y]) ∧ TmAt N H p x ∧ TmAt N H t y ∧ p.nest ≤ n ∧ t.nest ≤ 190 ∧ p.size ≤ 90000 ∧ MtQ N p t H Q
theorem ok_match_all {n : Nat} (D : DFK K mg "match_all" s_match_all ["pairs", "known"] 1 ["known"] [("known", .non)]) (G : OkD P w K mg base (n + 1) "_extend" ["pattern", "term", "found"] (spExt N n)) : OkK P w K mg base (n + 2) "match_all" ["pairs", "known"] 1 ["known"] (spMatchAll N n) := by
  refine D.ok sc_match_all (fun vs H Q E h => ?_) (fun f cdv A outer s H vs Q E hr h => ?_)
  · obtain ⟨p, t, x, y, l, a, rfl, _⟩ := h
    rfl
  obtain ⟨p, t, x, y, l, a, rfl, hl, ha, hp, ht, hn, hnt, hz, qT, qF⟩ := h
  obtain ⟨f2, fd2, m2, k2, b2, F2, _⟩ := G
  have nd := sc_match_all.nd
  refine ⟨_, pss_cons (ps_set (i := 2) nd rfl (Or.inl rfl) pe_dnewK)
    (pss_cons (ps_if (pt_cmpR op_notN (pv 1) pe_non (nomark _)) pss_never pss_nil)
    (pss_cons (ps_for PassesOwn.never rfl (pi_list (pv 0)) (pg_tup rfl (pgs_cons (pg_name (i := 5) nd rfl (.inl rfl)) (pgs_cons (pg_name (i := 4) nd rfl (.inl rfl)) pgs_nil)))
      (pss_one (ps_if (pt_not (pt_val (pe_call F2 hr rfl m2 k2 b2 .nil pass0 (pa_cons (pv 5) (pa_cons (pv 4) (pa_cons (pv 2) pa_nil)))))) (pss_one (ps_ret pe_non)) pss_nil)))
    (pss_one (ps_ret (pv 2))))), ?_⟩
  intro d hd
  have s1 : Same H (upd H d (.dK [])) := same_new hd _
  refine ⟨_, rfl, rfl, _, rfl, ?_⟩
  refine iteF ?_
  refine ⟨_, rfl, l, rfl, ⟨_, SqL.of (s1 _ _ hl)⟩, ?_⟩
  refine for_list (K := K) (a := l) (xs := [.ref a]) (fun i σ H1 => ∃ (v v' : Option V), σ = [some (.ref l), some .non, some (.ref d), none, v, v'] ∧ Same H H1 ∧ ((i = 0 ∧ SubAt N H1 d PSub.nil 0) ∨ (i = 1 ∧ ∃ s', mt p t PSub.nil = some s' ∧ SubAt N H1 d s' p.size))) ?_ ?_ ?_ ?_
  · exact ⟨none, none, rfl, s1, .inl ⟨rfl, [], upd_same, Nat.le_refl _, SubK.nil⟩⟩
  · rintro i σ H1 _ ⟨v, v', _, s2, _⟩
    exact SqL.of (s2 _ _ hl)
  · rintro i z σ H1 hi ⟨v, v', rfl, s2, hc⟩
    rcases hc with ⟨rfl, hs⟩ | ⟨rfl, _⟩
    · cases hi
      refine ⟨a, _, rfl, SqT.of (s2 _ _ ha), rfl, x, [y], rfl, y, [], rfl, rfl, ?_⟩
      refine ⟨_, rfl, _, rfl, _, rfl, p, t, x, y, d, PSub.nil, 0, rfl, hp.same s2, ht.same s2, hs, hn, hnt, by omega, fun H2 s' bt e1 hs2 => ?_, fun H2 bt e1 => ?_⟩
      · refine ⟨_, rfl, ?_⟩
        refine iteF ?_
        exact ⟨some y, some x, rfl, Same.but s2 hd bt, .inr ⟨rfl, s', e1, by simpa using hs2⟩⟩
      · refine ⟨_, rfl, ?_⟩
        refine iteT ?_
        exact qF H2 (Same.but s2 hd bt) e1
    · simp at hi
  · rintro σ H1 ⟨v, v', rfl, s2, hc⟩
    rcases hc with ⟨e, _⟩ | ⟨_, s', e1, hs2⟩
    · simp at e
    · exact ⟨_, rfl, qT d H1 s' hd s2 e1 hs2⟩
def spMatch (N : List Str) (n : Nat) : Sp := fun vs H Q _ => ∃ (p t : Tm) (x y : V), vs = [x, y, .non] ∧ TmAt N H p x ∧ TmAt N H t y ∧ p.nest ≤ n ∧ t.nest ≤ 190 ∧ p.size ≤ 90000 ∧ MtQ N p t H Q
theorem ok_match {n : Nat} (D : DFB K mg "match" s_match ["pattern", "term", "known"] [.non] [("known", .non)]) (G : OkK P w K mg base (n + 2) "match_all" ["pairs", "known"] 1 ["known"] (spMatchAll N n)) : OkB P w K mg base (n + 3) "match" ["pattern", "term", "known"] [.non] (spMatch N n) := by
  refine D.ok sc_match (fun vs H Q E h => ?_) (fun f cdv A outer s H vs Q E hr h => ?_)
  · obtain ⟨p, t, x, y, rfl, _⟩ := h
    rfl
  obtain ⟨p, t, x, y, rfl, hp, ht, hn, hnt, hz, qT, qF⟩ := h
  obtain ⟨f2, fd2, m2, k2, b2, F2, _⟩ := G
  refine ⟨_, pss_one (ps_ret (pe_callN F2 hr rfl m2 k2 b2 pass0 (pa_cons (pe_lst (pa_cons (pe_tup (pa_cons (pv 0) (pa_cons (pv 1) pa_nil))) pa_nil)) pa_nil) (pk_cons (pv 2) pk_nil))), ?_⟩
  refine ⟨_, rfl, _, rfl, (by decide : 2 ≤ sizeLine), fun a ha => ⟨(by decide : 1 ≤ sizeLine), fun l hl => ?_⟩⟩
  have s1 : Same H (upd H a (.tup [x, y])) := same_new ha _
  have s2 := s1.trans (same_new hl (.lst [.ref a]))
  refine ⟨_, rfl, rfl, rfl, p, t, x, y, l, a, rfl, upd_same, same_new hl _ _ _ upd_same, hp.same s2, ht.same s2, hn, hnt, hz, fun d H' s' hd s3 e1 hs => ?_, fun H' s3 e1 => ?_⟩
  · exact qT d H' s' (s2.free hd) (s2.trans s3) e1 hs
  · exact qF H' (s2.trans s3) e1
/-! ### _law_match -/
/-- a term against a known substitution at dk (None: no match); the dict that comes back is new, or the known one -/
def spLMatch (N : List Str) (n : Nat) : Sp := fun vs H Q _ => ∃ (p t : Tm) (x y : V) (d : Addr) (s : PSub) (k : Nat), vs = [x, y, .ref d] ∧ TmAt N H p x ∧ TmAt N H t y ∧ SubAt N H d s k ∧ p.nest ≤ n ∧ t.nest ≤ 190 ∧ k + p.size ≤ 90000 ∧
  (∀ d' H' s', Same H H' → mt p t s = some s' → SubAt N H' d' s' (k + p.size) → Q (.ref d') H') ∧ (∀ H', Same H H' → mt p t s = none → Q .non H')
theorem ok_lmatch1 {n : Nat} (hN : NmOk N) (D : DF K mg "_law_match" s_law_match ["_law_pattern", "_law_term_here", "_law_known"]) (z0 : mg "isinstance" = none) (z1 : mg "tuple" = none) (z2 : mg "len" = none) (z3 : mg "dict" = none) (z4 : mg "range" = none) (G : OkD P w K mg base n "_law_match" ["_law_pattern", "_law_term_here", "_law_known"] (spLMatch N n)) : OkD P w K mg base (n + 1) "_law_match" ["_law_pattern", "_law_term_here", "_law_known"] (spLMatch N (n + 1)) := by
  refine D.ok sc_law_match (fun vs H Q E h => ?_) (fun f cdv A outer s H vs Q E hr h => ?_)
  · obtain ⟨p, t, x, y, d, s, k, rfl, _⟩ := h
    rfl
  obtain ⟨p, t, x, y, d, s, k, rfl, hp, ht, hs, hn, hnt, hk, qT, qF⟩ := h
  obtain ⟨f2, fd2, m2, k2, b2, F2, _⟩ := G
  have hu := hu_of hr
  have nd := sc_law_match.nd
  refine ⟨_, pss_cons (ps_if (pt_not (pt_val (pe_callB (call_isTm (N := N)) (by rfl) z0 (by decide +kernel) (pa_cons (pv 0) (pa_cons (pe_bltn (v := .ty "tuple") (by rfl) z1 (by decide +kernel) rfl) pa_nil)))))
      (pss_cons (ps_if (pt_cmp (pc_din hu (pv 0) (pv 2)))
        (pss_cons (ps_if (pt_cmpR (op_eqTm hN (hu2 hr)) (pe_dget hu (pv 2) (pv 0) (fun _ _ => rfl)) (pv 1) (nomark _)) (pss_one (ps_ret (pv 2))) pss_nil) (pss_one (ps_ret pe_non))) pss_nil)
      (pss_cons (ps_set (i := 3) nd rfl (Or.inl rfl) (pe_callTy call_dictD (by rfl) z3 (by decide +kernel) (pa_cons (pv 2) pa_nil)))
      (pss_cons (ps_dput hu (pv 3) (pv 0) (pv 1) rfl) (pss_one (ps_ret (pv 3)))))) pss_nil)
    (pss_cons (ps_if (PW.pt (pw_or (pt_not (pt_val (pe_callB (call_isTm (N := N)) (by rfl) z0 (by decide +kernel) (pa_cons (pv 1) (pa_cons (pe_bltn (v := .ty "tuple") (by rfl) z1 (by decide +kernel) rfl) pa_nil))))) (pw_or (pt_cmpR op_ne (pe_ix ix_tup (pv 0) pe_int (fun _ _ => rfl)) (pe_ix ix_tup (pv 1) pe_int (fun _ _ => rfl)) (nomark _))
        (pw_or1 (pt_cmpR op_ne (pe_callB call_len_seq (by rfl) z2 PySem.boot_len (pa_cons (pv 0) pa_nil)) (pe_callB call_len_seq (by rfl) z2 PySem.boot_len (pa_cons (pv 1) pa_nil)) (nomark _)))))) (pss_one (ps_ret pe_non)) pss_nil)
    (pss_cons (ps_for PassesOwn.never rfl (pi_range2 (by rfl) z4 (pa_cons pe_int (pa_cons (pe_callB call_len_seq (by rfl) z2 PySem.boot_len (pa_cons (pv 0) pa_nil)) pa_nil))) (pg_name (i := 4) nd rfl (Or.inl rfl))
      (pss_cons (ps_set (i := 2) nd rfl (Or.inl rfl) (pe_call F2 hr rfl m2 k2 b2 .nil pass0 (pa_cons (pe_ix ix_tup (pv 0) (pv 4) (fun _ _ => rfl)) (pa_cons (pe_ix ix_tup (pv 1) (pv 4) (fun _ _ => rfl)) (pa_cons (pv 2) pa_nil)))))
      (pss_one (ps_if (pt_cmpR op_isN (pv 2) pe_non (nomark _)) (pss_one (ps_ret pe_non)) pss_nil))))
    (pss_one (ps_ret (pv 2))))), ?_⟩
  refine ⟨x, rfl, p, x, rfl, hp, _, rfl, ?_⟩
  cases e : p.isV with
  | true =>
    refine iteT ?_
    obtain ⟨m, rfl, rfl⟩ := hp.isV_int e
    obtain ⟨kvs, hd, hl, hs⟩ := hs
    refine ⟨_, rfl, _, rfl, d, _, rfl, DGet.k (k := Sum.inl (m : Int)) hd, _, rfl, ?_⟩
    cases em : s m with
    | some u =>
      obtain ⟨z, hz, hzt⟩ := hs.some_at em
      rw [hz]
      refine iteT ?_
      have hg : DGet H d (natV m) (some z) := by rw [← hz]; exact DGet.k (k := Sum.inl (m : Int)) hd
      refine ⟨_, rfl, _, rfl, d, z, rfl, hg, _, rfl, u, t, hzt, ht, by omega, _, rfl, ?_⟩
      by_cases eu : u = t
      · rw [decide_eq_true eu]
        refine iteT ?_
        exact ⟨_, rfl, qT d H s (Same.refl H) (by simp only [mt, em]; rw [if_pos eu]) ⟨kvs, hd, by simp only [Tm.size]; omega, hs⟩⟩
      · rw [decide_eq_false eu]
        refine iteF ?_
        exact qF H (Same.refl H) (by simp only [mt, em]; rw [if_neg eu])
    | none =>
      rw [hs.none_at em]
      refine iteF ?_
      refine ⟨_, rfl, d, kvs, rfl, .inl hd, fun g hg => ?_⟩
      have s1 : Same H (upd H g (.dK kvs)) := same_new hg _
      refine ⟨_, rfl, _, rfl, _, rfl, g, _, rfl, DPut.k (k := Sum.inl (m : Int)) upd_same (sz16 (by omega)), ?_⟩
      rw [upd_upd]
      have s2 : Same H (upd H g (.dK (putK kvs (Sum.inl (m : Int)) y))) := same_new hg _
      refine ⟨_, rfl, qT g _ (s.set m t) s2 (by simp only [mt, em]) ⟨_, upd_same, ?_, ?_⟩⟩
      · have := length_putK kvs (Sum.inl (m : Int) : Key) y; simp only [Tm.size]; omega
      · exact SubK.put (hs.tupS (TupSame.of s2)) (ht.same s2)
  | false =>
    refine iteF ?_
    refine ⟨y, rfl, t, y, rfl, ht, _, rfl, ?_⟩
    cases e2 : t.isV with
    | true =>
      refine iteT ?_
      exact iteT (qF H (Same.refl H) (mt_ne e (.inl e2)))
    | false =>
      refine iteF ?_
      obtain ⟨a, ys, rfl, h2, hk2⟩ := hp.app e
      obtain ⟨b, zs, rfl, h3, hk3⟩ := ht.app e2
      refine ⟨_, rfl, a, _, 0, _, rfl, rfl, SqT.of h2, atI_nat (j := 0) rfl, _, rfl, b, _, 0, _, rfl, rfl, SqT.of h3, atI_nat (j := 0) rfl, rfl, _, rfl, ?_⟩
      rw [sy_eq hN]
      by_cases eh : p.hd = t.hd
      · rw [decide_eq_true eh]
        refine iteF ?_
        obtain ⟨em, el⟩ := mt_kids (s := s) e e2 eh
        refine ⟨_, rfl, a, _, rfl, .inr (SqT.of h2), _, rfl, b, _, rfl, .inr (SqT.of h3), rfl, _, rfl, ?_⟩
        have ell : ys.length = zs.length := by rw [hk2.length, hk3.length, el]
        have e5 : decide (V.int ((V.str (sy N p) :: ys).length : Int) = V.int ((V.str (sy N t) :: zs).length : Int)) = true := decide_eq_true (by rw [List.length_cons, List.length_cons, ell])
        rw [e5]
        refine iteF ?_
        have hl2 : ys.length ≤ 2 := by rw [hk2.length]; exact kids_le p
        refine ⟨_, rfl, a, _, rfl, .inr (SqT.of h2), 1, _, rfl, ?_, ?_⟩
        · rw [List.length_cons]; omega
        have en : (((V.str (sy N p) :: ys).length : Int) - 1).toNat = ys.length := by rw [List.length_cons]; omega
        rw [en]
        refine for_range (lo := 1) (n := ys.length) (fun i σ H1 => ∃ (d' : Addr) (s' : PSub) (v v' : Option V), σ = [some (.ref a), some (.ref b), some (.ref d'), v, v'] ∧ Same H H1 ∧ SubAt N H1 d' s' (k + ((p.kids.take i).map Tm.size).sum) ∧ mtK (p.kids.drop i) (t.kids.drop i) s' = mt p t s) ?_ ?_ ?_
        · exact ⟨d, s, none, none, rfl, Same.refl H, by simpa using hs, by simpa using em.symm⟩
        · rintro i σ H1 hi ⟨d', s', v, v', rfl, s1, hs1, hm⟩
          have hy : ys[i]? = some ys[i] := List.getElem?_eq_getElem hi
          have hz : zs[i]? = some (zs[i]'(by omega)) := List.getElem?_eq_getElem _
          obtain ⟨pu, hpu, hxu⟩ := hk2.get hy
          obtain ⟨tu, htu, hyu⟩ := hk3.get hz
          have hzp := size_take_le hpu
          have hpd : p.kids.drop i = pu :: p.kids.drop (i + 1) := by
            obtain ⟨hil, ek⟩ := List.getElem?_eq_some_iff.mp hpu
            rw [List.drop_eq_getElem_cons hil, ek]
          have htd : t.kids.drop i = tu :: t.kids.drop (i + 1) := by
            obtain ⟨hil, ek⟩ := List.getElem?_eq_some_iff.mp htu
            rw [List.drop_eq_getElem_cons hil, ek]
          rw [hpd, htd] at hm
          have hnt2 : tu.nest ≤ 190 := by have := kid_nest htu (n := 189) hnt; omega
          refine ⟨_, rfl, _, rfl, a, _, _, _, rfl, rfl, SqT.of (s1 _ _ h2), at_of (j := i + 1) (by omega) (by rw [List.getElem?_cons_succ]; exact hy), _, rfl, _, rfl, b, _, _, _, rfl, rfl, SqT.of (s1 _ _ h3), at_of (j := i + 1) (by omega) (by rw [List.getElem?_cons_succ]; exact hz), ?_⟩
          refine ⟨_, rfl, pu, tu, _, _, d', s', _, rfl, hxu.same s1, hyu.same s1, hs1, kid_nest hpu hn, hnt2, by omega, fun d2 H2 s2' st e1 hs2 => ?_, fun H2 st e1 => ?_⟩
          · refine ⟨_, rfl, rfl, _, rfl, ?_⟩
            refine iteF ?_
            refine ⟨d2, s2', v, _, rfl, s1.trans st, ?_, ?_⟩
            · rw [sum_take1 hpu, ← Nat.add_assoc]; exact hs2
            · rw [← hm]; simp only [mtK, e1]
          · refine ⟨_, rfl, rfl, _, rfl, ?_⟩
            refine iteT ?_
            refine qF H2 (s1.trans st) ?_
            rw [← hm]; simp only [mtK, e1]
        · rintro σ H1 ⟨d', s', v, v', rfl, s1, hs1, hm⟩
          rw [hk2.length, List.drop_length, el, List.drop_length] at hm
          rw [hk2.length, List.take_length] at hs1
          exact ⟨_, rfl, qT d' H1 s' s1 hm.symm (hs1.mono (by rw [size_kids p]; omega))⟩
      · rw [decide_eq_false eh]
        refine iteT ?_
        exact iteT (qF H (Same.refl H) (mt_ne e (.inr eh)))
theorem ok_lmatch (hN : NmOk N) (D : DF K mg "_law_match" s_law_match ["_law_pattern", "_law_term_here", "_law_known"]) (z0 : mg "isinstance" = none) (z1 : mg "tuple" = none) (z2 : mg "len" = none) (z3 : mg "dict" = none) (z4 : mg "range" = none) : ∀ n, OkD P w K mg base n "_law_match" ["_law_pattern", "_law_term_here", "_law_known"] (spLMatch N n)
  | 0 => D.ok0 fun vs H Q E ⟨p, t, x, y, d, s, k, _, _, _, _, hn, _⟩ => absurd hn (by have := nest_pos p; omega)
  | n + 1 => ok_lmatch1 hN D z0 z1 z2 z3 z4 (ok_lmatch hN D z0 z1 z2 z3 z4 n)
end
end K78
end
section
set_option maxHeartbeats 4000000
namespace K78
open PySem PySem.Spec PyProof.Rows L2
theorem ap_kids (t : Tm) (s : Nat → Tm) (n : t.isV = false) : (t.ap s).isV = false ∧ (t.ap s).hd = t.hd ∧ (t.ap s).kids = t.kids.map (Tm.ap s) := by
  cases t with
  | v _ => cases n
  | c _ => exact ⟨rfl, rfl, rfl⟩
  | f _ => exact ⟨rfl, rfl, rfl⟩
  | g _ _ => exact ⟨rfl, rfl, rfl⟩
section
variable {P : Program} {w : World} {K : PySem.W.Frag} {mg : Str → Option Value} {base : Heap} {N : List Str}
/-! ### _replace, _law_apply -/
def spRep (N : List Str) (n : Nat) : Sp := fun vs H Q _ => ∃ (t : Tm) (x : V) (d : Addr) (s : PSub) (k : Nat), vs = [.ref d, x] ∧ TmAt N H t x ∧ SubAt N H d s k ∧ t.nest ≤ n ∧ ∀ z H', Same H H' → TmAt N H' (t.ap s.tot) z → Q z H'
theorem ok_replace1 {n : Nat} (D : DF K mg "_replace" s_replace ["substitution", "term"]) (z1 : mg "tuple" = none) (G1 : OkD P w K mg base 1 "is_variable" ["term"] (spIsVar N)) (G : OkD P w K mg base (n + 1) "_replace" ["substitution", "term"] (spRep N n)) : OkD P w K mg base (n + 2) "_replace" ["substitution", "term"] (spRep N (n + 1)) := by
  refine D.ok sc_replace (fun vs H Q E h => ?_) (fun f cdv A outer s H vs Q E hr h => ?_)
  · obtain ⟨t, x, d, s, k, rfl, _⟩ := h
    rfl
  obtain ⟨t, x, d, s, k, rfl, ht, hs, hn, q⟩ := h
  obtain ⟨f1, fd1, m1, k1, b1, F1, _⟩ := G1
  obtain ⟨f2, fd2, m2, k2, b2, F2, _⟩ := G
  have hr1 : Room 1 _ := hr.mono (by omega)
  have hu := hu_of hr
  have nd := sc_replace.nd
  refine ⟨_, pss_cons (ps_if (pt_val (pe_call F1 hr1 rfl m1 k1 b1 .nil pass0 (pa_cons (pv 1) pa_nil))) (pss_one (ps_ret (pe_dget2 hu (pv 0) (pv 1) (pv 1) ⟨rfl, rfl, rfl, rfl⟩))) pss_nil)
    (pss_one (ps_ret (pe_op op_catN (pe_tup (pa_cons (pe_ix ix_tup (pv 1) pe_int (fun _ _ => rfl)) pa_nil)) (pe_callTy call_tuple_of (by rfl) z1 (by decide +kernel) (pa_cons
      (pe_lc (own := [("part", 2)]) (g := gName 2) (tt := tYes) rfl nd (pi_tup (pe_slice sl_1 (pv 1) (po_some pe_int) po_none)) (blkOk_by (N := ["substitution", "term", "part"]) (sc := defScope s_replace) (by decide +kernel)) (fun _ _ _ _ _ => pg_name (i := 2) nd rfl (Or.inl rfl)) (fun _ _ _ _ _ => pts_nil)
        (fun _ _ _ _ _ => pe_call F2 hr rfl m2 k2 b2 .nil pass0 (pa_cons (pv 0) (pa_cons (pv 2) pa_nil)))) pa_nil))))), ?_⟩
  refine ⟨x, rfl, t, x, rfl, ht, _, rfl, ?_⟩
  cases e : t.isV with
  | true =>
    refine iteT ?_
    obtain ⟨m, rfl, rfl⟩ := ht.isV_int e
    obtain ⟨kvs, hd, _, hs⟩ := hs
    refine ⟨_, rfl, d, rfl, .inl ⟨kvs, .inl hd⟩, _, rfl, _, rfl, _, DGet.k (k := Sum.inl (m : Int)) hd, ?_⟩
    refine q _ H (Same.refl H) ?_
    show TmAt N H ((s m).getD (.v m)) _
    cases em : s m with
    | none => rw [hs.none_at em]; rfl
    | some u => obtain ⟨z, hz, hzt⟩ := hs.some_at em; rw [hz]; exact hzt
  | false =>
    refine iteF ?_
    obtain ⟨a, ys, rfl, h2, hk⟩ := ht.app e
    have hl2 : ys.length ≤ 2 := by rw [hk.length]; exact kids_le t
    refine ⟨_, rfl, a, _, 0, _, rfl, rfl, SqT.of h2, atI_nat (j := 0) rfl, (by decide : 1 ≤ sizeLine), fun c hc => ?_⟩
    have s1 : Same H (upd H c (.tup [V.str (sy N t)])) := same_new hc _
    refine ⟨_, rfl, _, rfl, a, _, ys, rfl, rfl, rfl, SqT.of (s1 _ _ h2), fun p hp => ?_⟩
    have s2 := s1.trans (same_new hp (.tup ys))
    refine ⟨p, rfl, ⟨_, SqT.of upd_same⟩, fun D hD => lc_map_tup (R := TmAt N) (bs := t.kids.map (Tm.ap s.tot)) (fun _ _ _ _ e h => h.tupS e) (by rw [List.length_map, hk.length]) (by omega) upd_same ?_ hD ?_⟩
    · intro k y b H1 Q' hy hb s3 q'
      rw [List.getElem?_map, Option.map_eq_some_iff] at hb
      obtain ⟨u, hu, rfl⟩ := hb
      obtain ⟨u', hu', hyu⟩ := hk.get hy
      rw [hu] at hu'
      cases hu'
      exact ⟨_, rfl, _, rfl, u, y, d, s, _, rfl, hyu.same (s2.trans s3), hs.same (s2.trans s3), kid_nest hu hn, fun z H2 s4 hz => q' z H2 s4 hz⟩
    · intro zs H1 s3 hd1 ha1
      refine ⟨D, zs, rfl, .inl ⟨SqL.of hd1, fun l hl => ?_⟩⟩
      have s4 := same_new hl (.tup zs)
      have hzl : zs.length ≤ 2 := by rw [ha1.length, List.length_map]; exact kids_le t
      refine ⟨c, l, _, _, rfl, rfl, s4 _ _ (s3 _ _ (same_new hp (.tup ys) _ _ upd_same)), upd_same, by simp, by rw [List.length_singleton]; omega, fun r H2 s5 hr2 => ?_⟩
      have s6 := s2.trans (s3.trans (s4.trans s5))
      obtain ⟨g1, g2, g3⟩ := ap_kids t s.tot e
      refine q (.ref r) H2 s6 (TmAt.mk g1 (ys := zs) ?_ ?_)
      · rw [hr2]; unfold sy; rw [g2]; rfl
      · rw [g3]
        exact TmsAt.same ha1 (s4.trans s5)
theorem ok_replace (D : DF K mg "_replace" s_replace ["substitution", "term"]) (z1 : mg "tuple" = none) (G1 : OkD P w K mg base 1 "is_variable" ["term"] (spIsVar N)) : ∀ n, OkD P w K mg base (n + 1) "_replace" ["substitution", "term"] (spRep N n)
  | 0 => (D.ok0 fun vs H Q E ⟨t, x, d, s, k, _, _, _, hn, _⟩ => absurd hn (by have := nest_pos t; omega)).mono (Nat.zero_le _)
  | n + 1 => ok_replace1 D z1 G1 (ok_replace D z1 G1 n)
theorem ok_lapply1 {n : Nat} (D : DF K mg "_law_apply" s_law_apply ["_law_sub", "_law_term_here"]) (z0 : mg "isinstance" = none) (z1 : mg "tuple" = none) (G : OkD P w K mg base n "_law_apply" ["_law_sub", "_law_term_here"] (spRep N n)) : OkD P w K mg base (n + 1) "_law_apply" ["_law_sub", "_law_term_here"] (spRep N (n + 1)) := by
  refine D.ok sc_law_apply (fun vs H Q E h => ?_) (fun f cdv A outer s H vs Q E hr h => ?_)
  · obtain ⟨t, x, d, s, k, rfl, _⟩ := h
    rfl
  obtain ⟨t, x, d, s, k, rfl, ht, hs, hn, q⟩ := h
  obtain ⟨f2, fd2, m2, k2, b2, F2, _⟩ := G
  have hu := hu_of hr
  have nd := sc_law_apply.nd
  refine ⟨_, pss_cons (ps_if (pt_not (pt_val (pe_callB (call_isTm (N := N)) (by rfl) z0 (by decide +kernel) (pa_cons (pv 1) (pa_cons (pe_bltn (v := .ty "tuple") (by rfl) z1 (by decide +kernel) rfl) pa_nil)))))
      (pss_cons (ps_if (pt_cmp (pc_din hu (pv 1) (pv 0))) (pss_one (ps_ret (pe_dget hu (pv 0) (pv 1) (fun _ _ => rfl)))) pss_nil) (pss_one (ps_ret (pv 1)))) pss_nil)
    (pss_one (ps_ret (pe_op op_catN (pe_tup (pa_cons (pe_ix ix_tup (pv 1) pe_int (fun _ _ => rfl)) pa_nil)) (pe_callTy call_tuple_of (by rfl) z1 (by decide +kernel) (pa_cons
      (pe_lc (own := [("_law_part", 2)]) (g := gName 2) (tt := tYes) rfl nd (pi_tup (pe_slice sl_1 (pv 1) (po_some pe_int) po_none)) (blkOk_by (N := ["_law_sub", "_law_term_here", "_law_part"]) (sc := defScope s_law_apply) (by decide +kernel)) (fun _ _ _ _ _ => pg_name (i := 2) nd rfl (Or.inl rfl)) (fun _ _ _ _ _ => pts_nil)
        (fun _ _ _ _ _ => pe_call F2 hr rfl m2 k2 b2 .nil pass0 (pa_cons (pv 0) (pa_cons (pv 2) pa_nil)))) pa_nil))))), ?_⟩
  refine ⟨x, rfl, t, x, rfl, ht, _, rfl, ?_⟩
  cases e : t.isV with
  | true =>
    refine iteT ?_
    obtain ⟨m, rfl, rfl⟩ := ht.isV_int e
    obtain ⟨kvs, hd, _, hs⟩ := hs
    refine ⟨_, rfl, _, rfl, d, _, rfl, DGet.k (k := Sum.inl (m : Int)) hd, _, rfl, ?_⟩
    have qq : ∀ z, TmAt N H ((s m).getD (.v m)) z → Q z H := fun z h => q z H (Same.refl H) h
    cases em : s m with
    | some u =>
      obtain ⟨z, hz, hzt⟩ := hs.some_at em
      rw [hz]
      refine iteT ?_
      have hg : DGet H d (natV m) (some z) := by rw [← hz]; exact DGet.k (k := Sum.inl (m : Int)) hd
      exact ⟨_, rfl, _, rfl, d, z, rfl, hg, qq z (by rw [em]; exact hzt)⟩
    | none =>
      rw [hs.none_at em]
      refine iteF ?_
      exact ⟨_, rfl, qq _ (by rw [em]; rfl)⟩
  | false =>
    refine iteF ?_
    obtain ⟨a, ys, rfl, h2, hk⟩ := ht.app e
    have hl2 : ys.length ≤ 2 := by rw [hk.length]; exact kids_le t
    refine ⟨_, rfl, a, _, 0, _, rfl, rfl, SqT.of h2, atI_nat (j := 0) rfl, (by decide : 1 ≤ sizeLine), fun c hc => ?_⟩
    have s1 : Same H (upd H c (.tup [V.str (sy N t)])) := same_new hc _
    refine ⟨_, rfl, _, rfl, a, _, ys, rfl, rfl, rfl, SqT.of (s1 _ _ h2), fun p hp => ?_⟩
    have s2 := s1.trans (same_new hp (.tup ys))
    refine ⟨p, rfl, ⟨_, SqT.of upd_same⟩, fun D hD => lc_map_tup (R := TmAt N) (bs := t.kids.map (Tm.ap s.tot)) (fun _ _ _ _ e h => h.tupS e) (by rw [List.length_map, hk.length]) (by omega) upd_same ?_ hD ?_⟩
    · intro k y b H1 Q' hy hb s3 q'
      rw [List.getElem?_map, Option.map_eq_some_iff] at hb
      obtain ⟨u, hu, rfl⟩ := hb
      obtain ⟨u', hu', hyu⟩ := hk.get hy
      rw [hu] at hu'
      cases hu'
      exact ⟨_, rfl, _, rfl, u, y, d, s, _, rfl, hyu.same (s2.trans s3), hs.same (s2.trans s3), kid_nest hu hn, fun z H2 s4 hz => q' z H2 s4 hz⟩
    · intro zs H1 s3 hd1 ha1
      refine ⟨D, zs, rfl, .inl ⟨SqL.of hd1, fun l hl => ?_⟩⟩
      have s4 := same_new hl (.tup zs)
      have hzl : zs.length ≤ 2 := by rw [ha1.length, List.length_map]; exact kids_le t
      refine ⟨c, l, _, _, rfl, rfl, s4 _ _ (s3 _ _ (same_new hp (.tup ys) _ _ upd_same)), upd_same, by simp, by rw [List.length_singleton]; omega, fun r H2 s5 hr2 => ?_⟩
      have s6 := s2.trans (s3.trans (s4.trans s5))
      obtain ⟨g1, g2, g3⟩ := ap_kids t s.tot e
      refine q (.ref r) H2 s6 (TmAt.mk g1 (ys := zs) ?_ ?_)
      · rw [hr2]; unfold sy; rw [g2]; rfl
      · rw [g3]
        exact TmsAt.same ha1 (s4.trans s5)
theorem ok_lapply (D : DF K mg "_law_apply" s_law_apply ["_law_sub", "_law_term_here"]) (z0 : mg "isinstance" = none) (z1 : mg "tuple" = none) : ∀ n, OkD P w K mg base n "_law_apply" ["_law_sub", "_law_term_here"] (spRep N n)
  | 0 => D.ok0 fun vs H Q E ⟨t, x, d, s, k, _, _, _, hn, _⟩ => absurd hn (by have := nest_pos t; omega)
  | n + 1 => ok_lapply1 D z0 z1 (ok_lapply D z0 z1 n)
/-! ### _fitting, apply -/
def spFit (N : List Str) : Sp := fun vs H Q _ => ∃ (t : Tm) (x : V), vs = [x] ∧ TmAt N H t x ∧ t.size ≤ 1000 ∧ t.nest ≤ 100 ∧ ∀ H', Same H H' → Q x H'
theorem ok_fitting {tk1 tk2 : Tok} (D : DF K mg "_fitting" s_fitting ["term"]) (c1 : mg "MAX_SIZE" = some (.int 1000 tk1)) (c2 : mg "MAX_NESTING" = some (.int 100 tk2)) (G1 : OkD P w K mg base 101 "size" ["term"] (spSize N 100)) (G2 : OkD P w K mg base 101 "nesting" ["term"] (spNest N 100)) : OkD P w K mg base 102 "_fitting" ["term"] (spFit N) := by
  refine D.ok sc_fitting (fun vs H Q E h => ?_) (fun f cdv A outer s H vs Q E hr h => ?_)
  · obtain ⟨t, x, rfl, _⟩ := h
    rfl
  obtain ⟨t, x, rfl, ht, hz, hn, q⟩ := h
  obtain ⟨f1, fd1, m1, k1, b1, F1, _⟩ := G1
  obtain ⟨f2, fd2, m2, k2, b2, F2, _⟩ := G2
  refine ⟨_, pss_cons (ps_if (PW.pt (pw_or (pt_cmpR op_gt (pe_call F1 hr rfl m1 k1 b1 .nil pass0 (pa_cons (pv 0) pa_nil)) (pe_glob (v := .int 1000) rfl c1 ⟨_, rfl⟩) (nomark _)) (pw_or1 (pt_cmpR op_gt (pe_call F2 hr rfl m2 k2 b2 .nil pass0 (pa_cons (pv 0) pa_nil)) (pe_glob (v := .int 100) rfl c2 ⟨_, rfl⟩) (nomark _))))) (pss_one ps_never) pss_nil)
    (pss_one (ps_ret (pv 0))), ?_⟩
  refine ⟨_, rfl, t, x, rfl, ht, hn, fun H1 s1 => ⟨_, _, rfl, rfl, _, rfl, ?_⟩⟩
  have e1 : decide ((1000 : Int) < (t.size : Int)) = false := decide_eq_false (by omega)
  rw [e1]
  refine iteF ?_
  refine ⟨_, rfl, t, x, rfl, ht.same s1, hn, fun H2 s2 => ⟨_, _, rfl, rfl, _, rfl, ?_⟩⟩
  have e2 : decide ((100 : Int) < (t.nest : Int)) = false := decide_eq_false (by omega)
  rw [e2]
  refine iteF ?_
  exact ⟨_, rfl, q H2 (s1.trans s2)⟩
def spApply (N : List Str) (n : Nat) : Sp := fun vs H Q _ => ∃ (t : Tm) (x : V) (d : Addr) (s : PSub) (k : Nat), vs = [.ref d, x] ∧ TmAt N H t x ∧ SubAt N H d s k ∧ t.nest ≤ n ∧ (t.ap s.tot).size ≤ 1000 ∧ (t.ap s.tot).nest ≤ 100 ∧ ∀ z H', Same H H' → TmAt N H' (t.ap s.tot) z → Q z H'
theorem ok_apply {n : Nat} (D : DF K mg "apply" s_apply ["substitution", "term"]) (G1 : OkD P w K mg base 102 "_fitting" ["term"] (spFit N)) (G2 : OkD P w K mg base (n + 1) "_replace" ["substitution", "term"] (spRep N n)) : OkD P w K mg base (n + 104) "apply" ["substitution", "term"] (spApply N n) := by
  refine D.ok (k := n + 103) sc_apply (fun vs H Q E h => ?_) (fun f cdv A outer s H vs Q E hr h => ?_)
  · obtain ⟨t, x, d, s, k, rfl, _⟩ := h
    rfl
  obtain ⟨t, x, d, s, k, rfl, ht, hs, hn, hz, hm, q⟩ := h
  obtain ⟨f1, fd1, m1, k1, b1, F1, _⟩ := G1
  obtain ⟨f2, fd2, m2, k2, b2, F2, _⟩ := G2
  refine ⟨_, pss_one (ps_ret (pe_call F1 (hr.mono (by omega)) rfl m1 k1 b1 .nil pass0 (pa_cons (pe_call F2 (hr.mono (by omega)) rfl m2 k2 b2 .nil pass0 (pa_cons (pv 0) (pa_cons (pv 1) pa_nil))) pa_nil))), ?_⟩
  refine ⟨_, rfl, _, rfl, t, x, d, s, k, rfl, ht, hs, hn, fun z H1 s1 hz1 => ⟨_, z, rfl, hz1, hz, hm, fun H2 s2 => q z H2 (s1.trans s2) (hz1.same s2)⟩⟩
end
end K78
end
section
set_option maxHeartbeats 4000000
namespace K78
open PySem PySem.Spec PyProof.Rows L2
section
variable {X : Cx}
/-- isinstance(x, tuple), x an int or any tuple -/
def rIsTp : List V → Hp → VK → Prop := fun xs H Q => (∃ i, xs = [.int i, .ty "tuple"] ∧ Q (.bl false) H) ∨ (∃ a ys, xs = [.ref a, .ty "tuple"] ∧ H a = some (.tup ys) ∧ Q (.bl true) H)
theorem call_isTp : CallR X (.builtin "isinstance") rIsTp := by
  intro pins s σ H xs us Q I r h
  rcases h with ⟨i, rfl, q⟩ | ⟨a, ys, rfl, h2, q⟩
  · exact call_isi pins s σ H _ us Q I r ⟨_, _, _, _, false, rfl, .ty "tuple", .base (.int _), kit_ty (by decide +kernel), q⟩
  · exact call_isi pins s σ H _ us Q I r ⟨_, _, _, _, true, rfl, .ty "tuple", .base (.tup h2), kit_ty (by decide +kernel), q⟩
end
theorem sum_split {α : Type} (f : α → Nat) {l : List α} {i : Nat} {a : α} (h : l[i]? = some a) : ((l.take i).map f).sum + f a ≤ (l.map f).sum := by
  rw [← sum_take1 (f := f) h]
  have e : (l.map f).sum = ((l.take (i + 1)).map f).sum + ((l.drop (i + 1)).map f).sum := by
    rw [← List.sum_append, ← List.map_append, List.take_append_drop]
  omega
section
variable {P : Program} {w : World} {K : PySem.W.Frag} {mg : Str → Option Value} {base : Heap} {N : List Str}
/-! ### _law_vars: of a term, or of a tuple of anything and terms -/
def VarsL (ts : List Tm) (ns : List Nat) : Prop := (∀ m, m ∈ ns ↔ ∃ u, u ∈ ts ∧ u.has m) ∧ ns.Nodup
/-- not too many variables for a list -/
def FewV (ts : List Tm) : Prop := ∀ ns : List Nat, ns.Nodup → (∀ m, m ∈ ns → ∃ u, u ∈ ts ∧ u.has m) → ns.length ≤ 90000
def VarsV (t : Tm) (ns : List Nat) : Prop := (∀ m, m ∈ ns ↔ t.has m) ∧ ns.Nodup ∧ ns.length ≤ 90000
theorem vars_le : ∀ (t : Tm) (ns : List Nat), ns.Nodup → (∀ m, m ∈ ns → t.has m) → ns.length ≤ t.size
  | .v n, ns, hd, h => by
    have e : ∀ m, m ∈ ns → m = n := fun m hm => (h m hm).symm
    match ns, hd, e with
    | [], _, _ => exact Nat.zero_le _
    | [_], _, _ => exact Nat.le_refl _
    | a :: b :: r, hd, e =>
      have h1 := e a (by simp)
      have h2 := e b (by simp)
      subst h1
      rw [List.nodup_cons] at hd
      exact absurd (by rw [h2]; simp) hd.1
  | .c _, ns, _, h => by
    cases ns with
    | nil => exact Nat.zero_le _
    | cons a r => exact absurd (h a (by simp)) (fun q => q)
  | .f t, ns, hd, h => by have := vars_le t ns hd h; simp only [Tm.size]; omega
  | .g t u, ns, hd, h => by
    have h1 := vars_le t (ns.filter fun m => Classical.propDecidable (t.has m) |>.decide) (hd.filter _) (fun m hm => by
      have := (List.mem_filter.mp hm).2
      exact @of_decide_eq_true _ (Classical.propDecidable _) this)
    have h2 := vars_le u (ns.filter fun m => !(Classical.propDecidable (t.has m) |>.decide)) (hd.filter _) (fun m hm => by
      have h3 := List.mem_filter.mp hm
      rcases h m h3.1 with h4 | h4
      · have := h3.2
        rw [Bool.not_eq_true'] at this
        exact absurd h4 (@of_decide_eq_false _ (Classical.propDecidable _) this)
      · exact h4)
    have h3 : (ns.filter fun m => Classical.propDecidable (t.has m) |>.decide).length + (ns.filter fun m => !(Classical.propDecidable (t.has m) |>.decide)).length = ns.length := by
      clear h1 h2 h hd
      induction ns with
      | nil => rfl
      | cons a r ih =>
        rw [List.filter_cons, List.filter_cons]
        cases Classical.propDecidable (t.has a) |>.decide with
        | true => simp only [if_true, Bool.not_true, List.length_cons]; rw [if_neg (by decide)]; omega
        | false => simp only [Bool.not_false, if_true, List.length_cons]; rw [if_neg (by decide)]; omega
    simp only [Tm.size]; omega
theorem few_size {t : Tm} (h : t.size ≤ 90000) : FewV [t] := fun ns hd hm => Nat.le_trans (vars_le t ns hd fun m q => by obtain ⟨u, h1, h2⟩ := hm m q; rw [List.mem_singleton] at h1; subst h1; exact h2) h
theorem nodup_lt : ∀ (n : Nat) (ns : List Nat), ns.Nodup → (∀ m, m ∈ ns → m < n) → ns.length ≤ n
  | 0, ns, _, h => by
    cases ns with
    | nil => exact Nat.le_refl _
    | cons a r => exact absurd (h a (by simp)) (Nat.not_lt_zero _)
  | n + 1, ns, hd, h => by
    have h1 := nodup_lt n (ns.erase n) (hd.erase n) (fun m hm => by
      have h2 := (List.Nodup.mem_erase_iff hd).mp hm
      have := h m h2.2
      omega)
    have h2 := List.length_erase (a := n) (l := ns)
    split at h2 <;> omega
theorem few_lt {ts : List Tm} {n : Nat} (h : ∀ u, u ∈ ts → ∀ m, u.has m → m < n) (hn : n ≤ 90000) : FewV ts := fun ns hd hm => Nat.le_trans (nodup_lt n ns hd fun m q => by obtain ⟨u, h1, h2⟩ := hm m q; exact h u h1 m h2) hn
def spLVars (N : List Str) (n : Nat) : Sp := fun vs H Q _ => ∃ (ts : List Tm) (x : V), vs = [x] ∧ 0 < n ∧ ((∃ m : Nat, ts = [.v m] ∧ x = natV m) ∨ ∃ a h ys, x = .ref a ∧ H a = some (.tup (h :: ys)) ∧ TmsAt N H ts ys ∧ ∀ u, u ∈ ts → u.nest < n) ∧
  FewV ts ∧ ∀ p (ns : List Nat) H', H p = none → Same H H' → VarsL ts ns → H' p = some (.lst (ns.map natV)) → Q (.ref p) H'
theorem lvars_arg {n : Nat} {H : Hp} {t : Tm} {x : V} (ht : TmAt N H t x) (hn : t.nest ≤ n) (hz : FewV [t]) : ∃ ts : List Tm, ((∃ m : Nat, ts = [.v m] ∧ x = natV m) ∨ ∃ a h ys, x = .ref a ∧ H a = some (.tup (h :: ys)) ∧ TmsAt N H ts ys ∧ ∀ u, u ∈ ts → u.nest < n) ∧
    FewV ts ∧ ∀ ns, VarsL ts ns → VarsV t ns := by
  have npos : 0 < n := by have := nest_pos t; omega
  have fin : ∀ {ns : List Nat}, (∀ m, m ∈ ns ↔ t.has m) → ns.Nodup → VarsV t ns := fun {ns} h1 h2 => ⟨h1, h2, hz ns h2 fun m q => ⟨t, by simp, (h1 m).mp q⟩⟩
  cases e : t.isV with
  | true =>
    obtain ⟨k', rfl, rfl⟩ := ht.isV_int e
    exact ⟨[.v k'], .inl ⟨k', rfl, rfl⟩, hz, fun ns a3 => fin (fun m => by rw [a3.1]; simp) a3.2⟩
  | false =>
    obtain ⟨b, zs, rfl, hb, hkb⟩ := ht.app e
    refine ⟨t.kids, .inr ⟨b, _, zs, rfl, hb, hkb, fun w hw => ?_⟩, fun ns hd hm => hz ns hd fun m q => ⟨t, by simp, (has_kids e).mpr (hm m q)⟩, fun ns a3 => fin (fun m => by rw [a3.1, has_kids e]) a3.2⟩
    obtain ⟨j, hj, ej⟩ := List.getElem_of_mem hw
    have := kid_nest (t := t) (u := w) (i := j) (n := n - 1) (by rw [List.getElem?_eq_getElem hj, ej]) (by omega)
    omega
theorem ok_lvars1 {n : Nat} (D : DF K mg "_law_vars" s_law_vars ["_law_term_here"]) (z0 : mg "isinstance" = none) (z1 : mg "tuple" = none) (G : OkD P w K mg base n "_law_vars" ["_law_term_here"] (spLVars N n)) : OkD P w K mg base (n + 1) "_law_vars" ["_law_term_here"] (spLVars N (n + 1)) := by
  refine D.ok sc_law_vars (fun vs H Q E h => ?_) (fun f cdv A outer s H vs Q E hr h => ?_)
  · obtain ⟨t, x, rfl, _⟩ := h
    rfl
  obtain ⟨ts, x, rfl, _, hx, hz, q⟩ := h
  obtain ⟨f2, fd2, m2, k2, b2, F2, _⟩ := G
  have nd := sc_law_vars.nd
  refine ⟨_, pss_cons (ps_if (pt_not (pt_val (pe_callB call_isTp (by rfl) z0 (by decide +kernel) (pa_cons (pv 0) (pa_cons (pe_bltn (v := .ty "tuple") (by rfl) z1 (by decide +kernel) rfl) pa_nil))))) (pss_one (ps_ret (pe_lst (pa_cons (pv 0) pa_nil)))) pss_nil)
    (pss_cons (ps_set (i := 1) nd rfl (Or.inl rfl) (pe_lst pa_nil))
    (pss_cons (ps_for PassesOwn.never rfl (pi_tup (pe_slice sl_1 (pv 0) (po_some pe_int) po_none)) (pg_name (i := 2) nd rfl (Or.inl rfl))
      (pss_one (ps_for PassesOwn.never rfl (pi_list (pe_call F2 hr rfl m2 k2 b2 .nil pass0 (pa_cons (pv 2) pa_nil))) (pg_name (i := 3) nd rfl (Or.inl rfl))
        (pss_one (ps_if (pt_cmpR op_notIn_seq (pv 3) (pv 1) (by rfl))
          (pss_one (ps_expr (pe_bm PySem.F.plainAttrs_list PySem.F.slot_list_append PySem.F.type_list_append mt_append (pv 1) (pa_cons (pv 3) pa_nil)))) pss_nil)))))
    (pss_one (ps_ret (pv 1))))), ?_⟩
  rcases hx with ⟨k, rfl, rfl⟩ | ⟨a, h0, ys, rfl, h2, hk, hn⟩
  · refine ⟨_, rfl, .inl ⟨_, rfl, _, rfl, ?_⟩⟩
    refine iteT ?_
    refine ⟨_, rfl, (by decide : 1 ≤ sizeLine), fun p hp => ?_⟩
    exact q p [k] _ hp (same_new hp _) ⟨fun m => by simp [Tm.has, eq_comm], by simp⟩ upd_same
  · refine ⟨_, rfl, .inr ⟨a, _, rfl, h2, _, rfl, ?_⟩⟩
    refine iteF ?_
    refine ⟨(by decide : 0 ≤ sizeLine), fun fd hfd => ?_⟩
    have sa : Same H (upd H fd (.lst [])) := same_new hfd _
    refine ⟨_, rfl, _, rfl, a, _, ys, rfl, rfl, rfl, SqT.of (sa _ _ h2), fun p hp => ?_⟩
    have sp : Same H (upd (upd H fd (.lst [])) p (.tup ys)) := sa.trans (same_new hp _)
    have npf : p ≠ fd := fun e => by subst e; rw [upd_same] at hp; cases hp
    refine ⟨p, rfl, ⟨_, SqT.of upd_same⟩, for_tup (K := K) (a := p) (xs := ys) (fun i σ H1 => ∃ (ns : List Nat) (v v' : Option V), σ = [some (.ref a), some (.ref fd), v, v'] ∧ Same H H1 ∧ H1 p = some (.tup ys) ∧ H1 fd = some (.lst (ns.map natV)) ∧ (∀ m, m ∈ ns ↔ ∃ u, u ∈ ts.take i ∧ u.has m) ∧ ns.Nodup)
      ⟨[], none, none, rfl, sp, upd_same, by rw [upd_ne npf.symm]; exact upd_same, fun m => by simp, by simp⟩ (fun i σ H1 _ ⟨_, _, _, _, _, h, _⟩ => SqT.of h) ?_ ?_⟩
    · rintro i y σ H1 hi ⟨ns, v, v', rfl, s1, hp1, hf1, hm1, hl1⟩
      obtain ⟨u, hu, hy⟩ := hk.get hi
      have hun : u.nest < n + 1 := hn u (List.mem_of_getElem? hu)
      have npos : 0 < n := by have := nest_pos u; omega
      obtain ⟨us, hus1, hus2, hus3⟩ := lvars_arg (hy.same s1) (n := n) (by omega) (fun ns hd hm => hz ns hd fun m q => by obtain ⟨u', h1, h2⟩ := hm m q; rw [List.mem_singleton] at h1; subst h1; exact ⟨u', List.mem_of_getElem? hu, h2⟩)
      refine ⟨_, rfl, us, _, rfl, npos, hus1, hus2, fun p2 ms H2 np2 s2 hV hp2 => ?_⟩
      obtain ⟨hV1, hV2, hV3⟩ := hus3 ms hV
      refine ⟨p2, rfl, ⟨_, SqL.of hp2⟩, ?_⟩
      have npf2 : fd ≠ p2 := ne_of_none hf1 np2
      refine for_list (K := K) (a := p2) (xs := ms.map natV) (fun j σ H3 => ∃ (ns : List Nat) (v v' : Option V), σ = [some (.ref a), some (.ref fd), v, v'] ∧ Same H H3 ∧ H3 p = some (.tup ys) ∧ H3 p2 = some (.lst (ms.map natV)) ∧ H3 fd = some (.lst (ns.map natV)) ∧ (∀ m, m ∈ ns ↔ (∃ u, u ∈ ts.take i ∧ u.has m) ∨ m ∈ ms.take j) ∧ ns.Nodup) ?_ ?_ ?_ ?_
      · exact ⟨ns, _, _, rfl, s1.trans s2, s2 _ _ hp1, hp2, s2 _ _ hf1, fun m => by rw [hm1]; simp, hl1⟩
      · rintro j σ H3 _ ⟨ns, v, v', _, _, _, h, _⟩
        exact SqL.of h
      · rintro j z σ H3 hj ⟨ns, v, v', rfl, s3, hp3, hp23, hf3, hm3, hl3⟩
        obtain ⟨m, hm, rfl⟩ : ∃ m, ms[j]? = some m ∧ natV m = z := by
          rw [List.getElem?_map, Option.map_eq_some_iff] at hj; exact hj
        have hjl : j < ms.length := (List.getElem?_eq_some_iff.mp hm).1
        have hnl : ns.length ≤ 90000 := hz ns hl3 fun m' q => by
          rcases (hm3 m').mp q with ⟨u', h1, h2⟩ | h
          · exact ⟨u', List.mem_of_mem_take h1, h2⟩
          · exact ⟨u, List.mem_of_getElem? hu, (hV1 m').mp (List.mem_of_mem_take h)⟩
        refine ⟨natV m, rfl, _, rfl, fd, _, rfl, .inl (SqL.of hf3), rfl, natV_flat ns, _, rfl, ?_⟩
        rw [if_pos rfl, inV_nat]
        have hm4 : ∀ m', (m' ∈ ns ∨ m' = m) ↔ (∃ u, u ∈ ts.take i ∧ u.has m') ∨ m' ∈ ms.take (j + 1) := fun m' => by
          rw [hm3, mem_take1 hm, or_assoc]
        refine ite2 (fun c => ?_) (fun c => ?_)
        · refine ⟨_, rfl, .inl ⟨rfl, _, SqL.of hf3⟩, _, rfl, fd, _, _, rfl, rfl, hf3, sz16 (by rw [List.length_map]; omega), ?_⟩
          refine ⟨ns ++ [m], v, some (natV m), rfl, fun b o h => ?_, ?_, ?_, ?_, ?_, ?_⟩
          · rw [upd_ne (ne_of_none h hfd)]; exact s3 _ _ h
          · rw [upd_ne npf]; exact hp3
          · rw [upd_ne npf2.symm]; exact hp23
          · rw [upd_same, List.map_append]; rfl
          · intro m'; rw [← hm4, List.mem_append, List.mem_singleton]
          · have c2 : ¬ m ∈ ns := by simpa using c
            rw [List.nodup_append]
            exact ⟨hl3, by simp, fun x hx y hy e => by rw [List.mem_singleton] at hy; subst hy; subst e; exact c2 hx⟩
        · have c2 : m ∈ ns := by simpa using c
          refine ⟨ns, v, some (natV m), rfl, s3, hp3, hp23, hf3, fun m' => ?_, hl3⟩
          rw [← hm4]
          constructor
          · exact .inl
          · rintro (h | rfl)
            · exact h
            · exact c2
      · rintro σ H3 ⟨ns, v, v', rfl, s3, hp3, hp23, hf3, hm3, hl3⟩
        refine ⟨ns, _, _, rfl, s3, hp3, hf3, fun m => ?_, hl3⟩
        · rw [hm3, List.length_map, List.take_length, hV1]
          constructor
          · rintro (⟨u', h1, h2⟩ | h)
            · exact ⟨u', (mem_take1 hu).mpr (.inl h1), h2⟩
            · exact ⟨u, (mem_take1 hu).mpr (.inr rfl), h⟩
          · rintro ⟨u', h1, h2⟩
            rcases (mem_take1 hu).mp h1 with h | rfl
            · exact .inl ⟨u', h, h2⟩
            · exact .inr h2
    · rintro σ H1 ⟨ns, v, v', rfl, s1, hp1, hf1, hm1, hl1⟩
      refine ⟨_, rfl, ?_⟩
      refine q fd ns H1 hfd s1 ⟨fun m => ?_, hl1⟩ hf1
      rw [hm1, hk.length, List.take_length]
theorem ok_lvars (D : DF K mg "_law_vars" s_law_vars ["_law_term_here"]) (z0 : mg "isinstance" = none) (z1 : mg "tuple" = none) : ∀ n, OkD P w K mg base n "_law_vars" ["_law_term_here"] (spLVars N n)
  | 0 => D.ok0 fun vs H Q E ⟨t, x, _, hn, _⟩ => absurd hn (Nat.lt_irrefl _)
  | n + 1 => ok_lvars1 D z0 z1 (ok_lvars D z0 z1 n)
/-- of a term -/
def spLVarsT (N : List Str) (n : Nat) : Sp := fun vs H Q _ => ∃ (t : Tm) (x : V), vs = [x] ∧ TmAt N H t x ∧ t.nest ≤ n ∧ FewV [t] ∧ ∀ p (ns : List Nat) H', H p = none → Same H H' → VarsV t ns → H' p = some (.lst (ns.map natV)) → Q (.ref p) H'
theorem lvarsT {n : Nat} (G : OkD P w K mg base n "_law_vars" ["_law_term_here"] (spLVars N n)) : OkD P w K mg base n "_law_vars" ["_law_term_here"] (spLVarsT N n) := G.imp fun vs H Q E ⟨t, x, e1, ht, hn, hz, q⟩ => by
  subst e1
  have npos : 0 < n := by have := nest_pos t; omega
  obtain ⟨us, hus1, hus2, hus3⟩ := lvars_arg ht hn hz
  exact ⟨us, x, rfl, npos, hus1, hus2, fun p2 ms H2 a1 a2 a3 a4 => q p2 ms H2 a1 a2 (hus3 ms a3) a4⟩
end
end K78
end
section
set_option maxHeartbeats 4000000
namespace K78
open PySem PySem.Spec PyProof.Rows L2
theorem cnt_kids {m : Nat} {t : Tm} (n : t.isV = false) : t.cnt m = (t.kids.map (Tm.cnt m)).sum := by
  cases t with
  | v _ => cases n
  | _ => simp [Tm.cnt, Tm.kids]
theorem wt_kids {ww : Nat → Nat} {t : Tm} (n : t.isV = false) : t.wt ww = ww t.hd + (t.kids.map (Tm.wt ww)).sum := by
  cases t with
  | v _ => cases n
  | _ => simp [Tm.wt, Tm.kids, Tm.hd]; try omega
theorem all_nat : ∀ {bs : List Nat} {zs : List V}, AllAt (fun b z => z = natV b) bs zs → zs = (bs.map fun (b : Nat) => (b : Int)).map V.int
  | [], _, h => by cases h; rfl
  | b :: bs, _, ⟨z, zs, h1, h2, h3⟩ => by subst h1; subst h2; rw [all_nat h3]; rfl
theorem sum_cast (bs : List Nat) : (bs.map fun (b : Nat) => (b : Int)).sum = (bs.sum : Nat) := by
  induction bs with
  | nil => rfl
  | cons b bs ih => rw [List.map_cons, List.sum_cons, List.sum_cons, ih]; omega
/-- the weights: a dict by the symbols; what is not in it weighs 1 -/
def WtAt (N : List Str) (H : Hp) (d : Addr) (ww : Nat → Nat) : Prop := ∃ kvs, H d = some (.dK kvs) ∧ ∀ i, i < 5 → (valV kvs (Sum.inr (N.getD i "") : Key)).getD (.int 1) = natV (ww i)
theorem WtAt.same {N : List Str} {H H' : Hp} {d : Addr} {ww : Nat → Nat} (h : WtAt N H d ww) (e : Same H H') : WtAt N H' d ww := by
  obtain ⟨kvs, h1, h2⟩ := h
  exact ⟨kvs, e _ _ h1, h2⟩
section
variable {P : Program} {w : World} {K : PySem.W.Frag} {mg : Str → Option Value} {base : Heap} {N : List Str}
/-! ### _law_count -/
def spLCount (N : List Str) (n : Nat) : Sp := fun vs H Q _ => ∃ (t : Tm) (x : V) (m : Nat), vs = [x, natV m] ∧ TmAt N H t x ∧ t.nest ≤ n ∧ ∀ H', Same H H' → Q (natV (t.cnt m)) H'
theorem ok_lcount1 {n : Nat} (D : DF K mg "_law_count" s_law_count ["_law_term_here", "_law_name"]) (z0 : mg "isinstance" = none) (z1 : mg "tuple" = none) (z2 : mg "int" = none) (z3 : mg "sum" = none) (G : OkD P w K mg base n "_law_count" ["_law_term_here", "_law_name"] (spLCount N n)) : OkD P w K mg base (n + 1) "_law_count" ["_law_term_here", "_law_name"] (spLCount N (n + 1)) := by
  refine D.ok sc_law_count (fun vs H Q E h => ?_) (fun f cdv A outer s H vs Q E hr h => ?_)
  · obtain ⟨t, x, m, rfl, _⟩ := h
    rfl
  obtain ⟨t, x, m, rfl, ht, hn, q⟩ := h
  obtain ⟨f2, fd2, m2, k2, b2, F2, _⟩ := G
  have nd := sc_law_count.nd
  refine ⟨_, pss_cons (ps_if (pt_not (pt_val (pe_callB (call_isTm (N := N)) (by rfl) z0 (by decide +kernel) (pa_cons (pv 0) (pa_cons (pe_bltn (v := .ty "tuple") (by rfl) z1 (by decide +kernel) rfl) pa_nil)))))
      (pss_one (ps_ret (pe_callTy call_int1 (by rfl) z2 (by decide +kernel) (pa_cons (pe_cmpR op_eq (pv 0) (pv 1) (nomark _)) pa_nil)))) pss_nil)
    (pss_one (ps_ret (pe_callB (cr_sum rfl) (by rfl) z3 (by decide +kernel) (pa_cons
      (pe_lc (own := [("_law_part", 2)]) (g := gName 2) (tt := tYes) rfl nd (pi_tup (pe_slice sl_1 (pv 0) (po_some pe_int) po_none)) (blkOk_by (N := ["_law_term_here", "_law_name", "_law_part"]) (sc := defScope s_law_count) (by decide +kernel)) (fun _ _ _ _ _ => pg_name (i := 2) nd rfl (Or.inl rfl)) (fun _ _ _ _ _ => pts_nil)
        (fun _ _ _ _ _ => pe_call F2 hr rfl m2 k2 b2 .nil pass0 (pa_cons (pv 2) (pa_cons (pv 1) pa_nil)))) pa_nil)))), ?_⟩
  refine ⟨x, rfl, t, x, rfl, ht, _, rfl, ?_⟩
  cases e : t.isV with
  | true =>
    refine iteT ?_
    obtain ⟨k, rfl, rfl⟩ := ht.isV_int e
    refine ⟨_, rfl, _, rfl, rfl, .inr ⟨_, rfl, ?_⟩⟩
    have := q H (Same.refl H)
    simp only [Tm.cnt] at this
    by_cases ek : k = m
    · subst ek
      rw [if_pos rfl] at this
      have e1 : decide (natV k = natV k) = true := decide_eq_true rfl
      rw [e1]
      exact this
    · rw [if_neg ek] at this
      have e1 : decide (natV k = natV m) = false := decide_eq_false (fun h => by injection h with h; omega)
      rw [e1]
      exact this
  | false =>
    refine iteF ?_
    obtain ⟨a, ys, rfl, h2, hk⟩ := ht.app e
    have hl2 : ys.length ≤ 2 := by rw [hk.length]; exact kids_le t
    refine ⟨_, rfl, _, rfl, a, _, ys, rfl, rfl, rfl, SqT.of h2, fun p hp => ?_⟩
    have s2 : Same H (upd H p (.tup ys)) := same_new hp (.tup ys)
    refine ⟨p, rfl, ⟨_, SqT.of upd_same⟩, fun D hD => lc_map_tup (R := fun _ b z => z = natV b) (bs := t.kids.map (Tm.cnt m)) (fun _ _ _ _ e h => h) (by rw [List.length_map, hk.length]) (by omega) upd_same ?_ hD ?_⟩
    · intro k y b H1 Q' hy hb s3 q'
      rw [List.getElem?_map, Option.map_eq_some_iff] at hb
      obtain ⟨u, hu, rfl⟩ := hb
      obtain ⟨u', hu', hyu⟩ := hk.get hy
      rw [hu] at hu'
      cases hu'
      exact ⟨_, rfl, _, rfl, u, y, m, rfl, hyu.same (s2.trans s3), kid_nest hu hn, fun H2 s4 => q' _ H2 s4 rfl⟩
    · intro zs H1 s3 hd1 ha1
      rw [all_nat ha1] at hd1
      refine ⟨D, _, rfl, SqL.of hd1, ?_⟩
      rw [sum_cast, ← cnt_kids e]
      exact q H1 (s2.trans s3)
theorem ok_lcount (D : DF K mg "_law_count" s_law_count ["_law_term_here", "_law_name"]) (z0 : mg "isinstance" = none) (z1 : mg "tuple" = none) (z2 : mg "int" = none) (z3 : mg "sum" = none) : ∀ n, OkD P w K mg base n "_law_count" ["_law_term_here", "_law_name"] (spLCount N n)
  | 0 => D.ok0 fun vs H Q E ⟨t, x, m, _, _, hn, _⟩ => absurd hn (by have := nest_pos t; omega)
  | n + 1 => ok_lcount1 D z0 z1 z2 z3 (ok_lcount D z0 z1 z2 z3 n)
/-! ### _law_weight -/
def spLWeight (N : List Str) (n : Nat) : Sp := fun vs H Q _ => ∃ (t : Tm) (x : V) (d : Addr) (ww : Nat → Nat), vs = [x, .ref d] ∧ TmAt N H t x ∧ WtAt N H d ww ∧ t.nest ≤ n ∧ ∀ H', Same H H' → Q (natV (t.wt ww)) H'
theorem ok_lweight1 {n : Nat} (D : DF K mg "_law_weight" s_law_weight ["_law_term_here", "_law_weights_here"]) (z0 : mg "isinstance" = none) (z1 : mg "tuple" = none) (z3 : mg "sum" = none) (G : OkD P w K mg base n "_law_weight" ["_law_term_here", "_law_weights_here"] (spLWeight N n)) : OkD P w K mg base (n + 1) "_law_weight" ["_law_term_here", "_law_weights_here"] (spLWeight N (n + 1)) := by
  refine D.ok sc_law_weight (fun vs H Q E h => ?_) (fun f cdv A outer s H vs Q E hr h => ?_)
  · obtain ⟨t, x, m, ww, rfl, _⟩ := h
    rfl
  obtain ⟨t, x, d, ww, rfl, ht, hw, hn, q⟩ := h
  obtain ⟨f2, fd2, m2, k2, b2, F2, _⟩ := G
  have hu := hu_of hr
  have nd := sc_law_weight.nd
  refine ⟨_, pss_cons (ps_if (pt_not (pt_val (pe_callB (call_isTm (N := N)) (by rfl) z0 (by decide +kernel) (pa_cons (pv 0) (pa_cons (pe_bltn (v := .ty "tuple") (by rfl) z1 (by decide +kernel) rfl) pa_nil)))))
      (pss_one (ps_ret pe_int)) pss_nil)
    (pss_one (ps_ret (pe_op op_add (pe_dget2 hu (pv 1) (pe_ix ix_tup (pv 0) pe_int (fun _ _ => rfl)) pe_int ⟨rfl, rfl, rfl, rfl⟩) (pe_callB (cr_sum rfl) (by rfl) z3 (by decide +kernel) (pa_cons
      (pe_lc (own := [("_law_part", 2)]) (g := gName 2) (tt := tYes) rfl nd (pi_tup (pe_slice sl_1 (pv 0) (po_some pe_int) po_none)) (blkOk_by (N := ["_law_term_here", "_law_weights_here", "_law_part"]) (sc := defScope s_law_weight) (by decide +kernel)) (fun _ _ _ _ _ => pg_name (i := 2) nd rfl (Or.inl rfl)) (fun _ _ _ _ _ => pts_nil)
        (fun _ _ _ _ _ => pe_call F2 hr rfl m2 k2 b2 .nil pass0 (pa_cons (pv 2) (pa_cons (pv 1) pa_nil)))) pa_nil))))), ?_⟩
  refine ⟨x, rfl, t, x, rfl, ht, _, rfl, ?_⟩
  cases e : t.isV with
  | true =>
    refine iteT ?_
    obtain ⟨k, rfl, rfl⟩ := ht.isV_int e
    exact q H (Same.refl H)
  | false =>
    refine iteF ?_
    obtain ⟨a, ys, rfl, h2, hk⟩ := ht.app e
    have hl2 : ys.length ≤ 2 := by rw [hk.length]; exact kids_le t
    obtain ⟨kvs, hd, hkv⟩ := id hw
    refine ⟨_, rfl, d, rfl, .inl ⟨kvs, .inl hd⟩, _, rfl, a, _, 0, _, rfl, rfl, SqT.of h2, atI_nat (j := 0) rfl, _, DGet.k (k := Sum.inr (sy N t)) hd, ?_⟩
    have e1 : (valV kvs (Sum.inr (sy N t) : Key)).getD (.int 1) = natV (ww t.hd) := hkv _ (hd_lt t)
    rw [e1]
    refine ⟨_, rfl, _, rfl, a, _, ys, rfl, rfl, rfl, SqT.of h2, fun p hp => ?_⟩
    have s2 : Same H (upd H p (.tup ys)) := same_new hp (.tup ys)
    refine ⟨p, rfl, ⟨_, SqT.of upd_same⟩, fun D hD => lc_map_tup (R := fun _ b z => z = natV b) (bs := t.kids.map (Tm.wt ww)) (fun _ _ _ _ e h => h) (by rw [List.length_map, hk.length]) (by omega) upd_same ?_ hD ?_⟩
    · intro k y b H1 Q' hy hb s3 q'
      rw [List.getElem?_map, Option.map_eq_some_iff] at hb
      obtain ⟨u, hu, rfl⟩ := hb
      obtain ⟨u', hu', hyu⟩ := hk.get hy
      rw [hu] at hu'
      cases hu'
      exact ⟨_, rfl, _, rfl, u, y, d, ww, rfl, hyu.same (s2.trans s3), hw.same (s2.trans s3), kid_nest hu hn, fun H2 s4 => q' _ H2 s4 rfl⟩
    · intro zs H1 s3 hd1 ha1
      rw [all_nat ha1] at hd1
      refine ⟨D, _, rfl, SqL.of hd1, _, _, rfl, rfl, ?_⟩
      have e2 : V.int ((ww t.hd : Int) + ((t.kids.map (Tm.wt ww)).map fun (b : Nat) => (b : Int)).sum) = natV (t.wt ww) := by
        rw [sum_cast, wt_kids e]; show V.int _ = V.int _; rw [Int.natCast_add]
      show Q (V.int _) H1
      rw [e2]
      exact q H1 (s2.trans s3)
theorem ok_lweight (D : DF K mg "_law_weight" s_law_weight ["_law_term_here", "_law_weights_here"]) (z0 : mg "isinstance" = none) (z1 : mg "tuple" = none) (z3 : mg "sum" = none) : ∀ n, OkD P w K mg base n "_law_weight" ["_law_term_here", "_law_weights_here"] (spLWeight N n)
  | 0 => D.ok0 fun vs H Q E ⟨t, x, d, ww, _, _, _, hn, _⟩ => absurd hn (by have := nest_pos t; omega)
  | n + 1 => ok_lweight1 D z0 z1 z3 (ok_lweight D z0 z1 z3 n)
/-! ### _law_places -/
def spLPos (N : List Str) (n : Nat) : Sp := fun vs H Q _ => ∃ (t : Tm) (x : V), vs = [x] ∧ TmAt N H t x ∧ t.nest ≤ n ∧ t.size ≤ 90000 ∧ ∀ p ys H', H p = none → Same H H' → PossAt H' t.plc ys → H' p = some (.lst ys) → Q (.ref p) H'
theorem plc_room {t u : Tm} {i j : Nat} {p : List Nat} (hu : t.kids[i]? = some u) (hj : u.plc[j]? = some p) : ([] :: (plcK (t.kids.take i) 1 ++ (u.plc.take j).map ((1 + i) :: ·))).length ≤ t.size := by
  have e2 := plcK_le (t.kids.take i) 1
  have e3 := plc_le u
  rw [List.length_cons, List.length_append, List.length_map, List.length_take]
  have e4 : j < u.plc.length := (List.getElem?_eq_some_iff.mp hj).1
  have e5 := size_kids t
  have e6 := sum_split Tm.size hu
  omega
theorem ok_lplaces1 {n : Nat} (D : DF K mg "_law_places" s_law_places ["_law_term_here"]) (z0 : mg "isinstance" = none) (z1 : mg "tuple" = none) (z2 : mg "range" = none) (z3 : mg "len" = none) (G : OkD P w K mg base n "_law_places" ["_law_term_here"] (spLPos N n)) : OkD P w K mg base (n + 1) "_law_places" ["_law_term_here"] (spLPos N (n + 1)) := by
  refine D.ok sc_law_places (fun vs H Q E h => ?_) (fun f cdv A outer s H vs Q E hr h => ?_)
  · obtain ⟨t, x, rfl, _⟩ := h
    rfl
  obtain ⟨t, x, rfl, ht, hn, hz, q⟩ := h
  obtain ⟨f2, fd2, m2, k2, b2, F2, _⟩ := G
  have nd := sc_law_places.nd
  refine ⟨_, pss_cons (ps_if (pt_not (pt_val (pe_callB (call_isTm (N := N)) (by rfl) z0 (by decide +kernel) (pa_cons (pv 0) (pa_cons (pe_bltn (v := .ty "tuple") (by rfl) z1 (by decide +kernel) rfl) pa_nil)))))
      (pss_one (ps_ret (pe_lst pa_nil))) pss_nil)
    (pss_cons (ps_set (i := 1) nd rfl (Or.inl rfl) (pe_lst (pa_cons (pe_tup pa_nil) pa_nil)))
    (pss_cons (ps_for PassesOwn.never rfl (pi_range2 (by rfl) z2 (pa_cons pe_int (pa_cons (pe_callB call_len_seq (by rfl) z3 PySem.boot_len (pa_cons (pv 0) pa_nil)) pa_nil))) (pg_name (i := 2) nd rfl (Or.inl rfl))
      (pss_one (ps_for PassesOwn.never rfl (pi_list (pe_call F2 hr rfl m2 k2 b2 .nil pass0 (pa_cons (pe_ix ix_tup (pv 0) (pv 2) (fun _ _ => rfl)) pa_nil))) (pg_name (i := 3) nd rfl (Or.inl rfl))
        (pss_one (ps_expr (pe_bm PySem.F.plainAttrs_list PySem.F.slot_list_append PySem.F.type_list_append mt_append (pv 1) (pa_cons (pe_op op_catN (pe_tup (pa_cons (pv 2) pa_nil)) (pv 3)) pa_nil)))))))
    (pss_one (ps_ret (pv 1))))), ?_⟩
  refine ⟨x, rfl, t, x, rfl, ht, _, rfl, ?_⟩
  cases e : t.isV with
  | true =>
    refine iteT ?_
    obtain ⟨k, rfl, rfl⟩ := ht.isV_int e
    refine ⟨(by decide : 0 ≤ sizeLine), fun p hp => ?_⟩
    exact q p [] _ hp (same_new hp _) rfl upd_same
  | false =>
    refine iteF ?_
    obtain ⟨a, ys, rfl, h2, hk⟩ := ht.app e
    refine ⟨(by decide : 0 ≤ sizeLine), fun e0 he0 => ⟨(by decide : 1 ≤ sizeLine), fun fd hfd => ?_⟩⟩
    have s0 : Same H (upd H e0 (.tup [])) := same_new he0 _
    have nfd : H fd = none := s0.free hfd
    have sa : Same H (upd (upd H e0 (.tup [])) fd (.lst [.ref e0])) := s0.trans (same_new hfd _)
    have hl : ys.length ≤ 2 := by rw [hk.length]; exact kids_le t
    refine ⟨_, rfl, a, _, rfl, .inr (SqT.of (sa _ _ h2)), 1, _, rfl, ?_, ?_⟩
    · rw [List.length_cons]; omega
    have en : (((V.str (sy N t) :: ys).length : Int) - 1).toNat = ys.length := by rw [List.length_cons]; omega
    rw [en]
    refine for_range (lo := 1) (n := ys.length) (fun i σ H1 => ∃ (zs : List V) (v v' : Option V), σ = [some (.ref a), some (.ref fd), v, v'] ∧ Same H H1 ∧ H1 fd = some (.lst zs) ∧ PossAt H1 ([] :: plcK (t.kids.take i) 1) zs) ?_ ?_ ?_
    · refine ⟨_, none, none, rfl, sa, upd_same, _, [], rfl, ⟨e0, rfl, ?_⟩, rfl⟩
      rw [upd_ne (ne_of_none upd_same hfd)]
      exact upd_same
    · rintro i σ H1 hi ⟨zs, v, v', rfl, s1, hf1, hp1⟩
      have hy : ys[i]? = some ys[i] := List.getElem?_eq_getElem hi
      obtain ⟨u, hu, hyu⟩ := hk.get hy
      have hzu := size_take_le hu
      refine ⟨_, rfl, _, rfl, a, _, 1 + (i : Int), ys[i], rfl, rfl, SqT.of (s1 _ _ h2), at_of (j := i + 1) (by omega) (by rw [List.getElem?_cons_succ]; exact hy), u, _, rfl, hyu.same s1, kid_nest hu hn, by omega, fun p2 ws H2 np2 s2 hW hp2 => ?_⟩
      refine ⟨p2, rfl, ⟨_, SqL.of hp2⟩, ?_⟩
      have npf2 : fd ≠ p2 := ne_of_none hf1 np2
      refine for_list (K := K) (a := p2) (xs := ws) (fun j σ H3 => ∃ (zs : List V) (v' : Option V), σ = [some (.ref a), some (.ref fd), some (.int (1 + (i : Int))), v'] ∧ Same H H3 ∧ PossAt H3 u.plc ws ∧ H3 p2 = some (.lst ws) ∧ H3 fd = some (.lst zs) ∧ PossAt H3 ([] :: (plcK (t.kids.take i) 1 ++ (u.plc.take j).map ((1 + i) :: ·))) zs) ?_ ?_ ?_ ?_
      · exact ⟨zs, _, rfl, s1.trans s2, hW, hp2, s2 _ _ hf1, by simpa using PossAt.same hp1 s2⟩
      · rintro j σ H3 _ ⟨zs, v', _, _, _, h, _⟩
        exact SqL.of h
      · rintro j z σ H3 hj ⟨zs, v', rfl, s3, hW3, hp23, hf3, hP3⟩
        obtain ⟨p, hpj, b, rfl, hb⟩ := hW3.get hj
        have hpm : p ∈ u.plc := List.mem_of_getElem? hpj
        have hlp := plc_len _ hpm
        have hnu : u.nest ≤ u.size := nest_le_size u
        refine ⟨_, rfl, .inl ⟨rfl, _, SqL.of hf3⟩, _, rfl, (by decide : 1 ≤ sizeLine), fun c hc => ?_⟩
        have s4 : Same H3 (upd H3 c (.tup [.int (1 + (i : Int))])) := same_new hc _
        refine ⟨_, rfl, c, b, _, _, rfl, rfl, upd_same, s4 _ _ hb, by simp, by rw [List.length_map, List.length_singleton]; omega, fun r H5 s5 hr5 => ?_⟩
        have s6 := s4.trans s5
        have hzl : zs.length ≤ t.size := by rw [hP3.length]; exact plc_room hu hpj
        refine ⟨fd, zs, _, rfl, rfl, s6 _ _ hf3, sz16 (by omega), ?_⟩
        have nr : fd ≠ r := ne_of (s6 _ _ hf3) hr5 (by intro z; cases z)
        have sbut : ∀ b xs, H5 b = some (.tup xs) → (upd H5 fd (.lst (zs ++ [.ref r]))) b = some (.tup xs) := fun b xs h => by
          rw [upd_ne (ne_of h (s6 _ _ hf3) (by intro z; cases z))]; exact h
        refine ⟨zs ++ [.ref r], some (.ref b), rfl, fun b o h => ?_, ?_, ?_, upd_same, ?_⟩
        · rw [upd_ne (ne_of_none h nfd)]; exact s6 _ _ (s3 _ _ h)
        · exact AllAt.mono (fun p y ⟨a, h1, h2⟩ => ⟨a, h1, sbut _ _ (s6 _ _ h2)⟩) hW3
        · rw [upd_ne npf2.symm]; exact s6 _ _ hp23
        · rw [take_get hpj, List.map_append, ← List.append_assoc, ← List.cons_append]
          refine AllAt.snoc (AllAt.mono (fun p y ⟨a, h1, h2⟩ => ⟨a, h1, sbut _ _ (s6 _ _ h2)⟩) hP3) ⟨r, rfl, sbut _ _ ?_⟩
          rw [hr5]
          simp [natV]
      · rintro σ H3 ⟨zs, v', rfl, s3, hW3, hp23, hf3, hP3⟩
        refine ⟨zs, _, _, rfl, s3, hf3, ?_⟩
        rw [plcK_take1 hu]
        rw [hW3.length, List.take_length] at hP3
        exact hP3
    · rintro σ H1 ⟨zs, v, v', rfl, s1, hf1, hp1⟩
      refine ⟨_, rfl, ?_⟩
      rw [hk.length, List.take_length, ← plc_kids e] at hp1
      exact q fd zs H1 nfd s1 hp1 hf1
theorem ok_lplaces (D : DF K mg "_law_places" s_law_places ["_law_term_here"]) (z0 : mg "isinstance" = none) (z1 : mg "tuple" = none) (z2 : mg "range" = none) (z3 : mg "len" = none) : ∀ n, OkD P w K mg base n "_law_places" ["_law_term_here"] (spLPos N n)
  | 0 => D.ok0 fun vs H Q E ⟨t, x, _, _, hn, _⟩ => absurd hn (by have := nest_pos t; omega)
  | n + 1 => ok_lplaces1 D z0 z1 z2 z3 (ok_lplaces D z0 z1 z2 z3 n)
/-! ### _law_at -/
theorem ok_lat (D : DF K mg "_law_at" s_law_at ["_law_term_here", "_law_place"]) : OkD P w K mg base 1 "_law_at" ["_law_term_here", "_law_place"] (spSub N) := by
  refine D.ok sc_law_at (fun vs H Q E h => ?_) (fun f cdv A outer s H vs Q E hr h => ?_)
  · obtain ⟨t, p, x, y, rfl, _⟩ := h
    rfl
  obtain ⟨t, p, x, y, rfl, ht, ⟨b, rfl, hb⟩, hp, q⟩ := h
  have nd := sc_law_at.nd
  refine ⟨_, pss_cons (ps_for PassesOwn.never rfl (pi_tup (pv 1)) (pg_name (i := 2) nd rfl (Or.inl rfl)) (pss_one (ps_set (i := 0) nd rfl (Or.inl rfl) (pe_ix ix_tup (pv 0) (pv 2) (fun _ _ => rfl)))))
    (pss_one (ps_ret (pv 0))), ?_⟩
  refine ⟨_, rfl, b, rfl, ⟨_, SqT.of hb⟩, for_tup (K := K) (a := b) (xs := p.map natV) (fun i σ H1 => ∃ (u : Tm) (z : V) (v : Option V), σ = [some z, some (.ref b), v] ∧ H1 = H ∧ TmAt N H u z ∧ isP u (p.drop i) = true ∧ t.sat p = u.sat (p.drop i))
    ⟨t, x, none, rfl, rfl, ht, hp, rfl⟩ (fun i σ H1 _ ⟨_, _, _, _, e, _⟩ => e ▸ SqT.of hb) ?_ ?_⟩
  · rintro i y σ H1 hi ⟨u, z, v, rfl, rfl, hu, hup, hs⟩
    obtain ⟨k, hk, rfl⟩ : ∃ k, p[i]? = some k ∧ natV k = y := by
      rw [List.getElem?_map, Option.map_eq_some_iff] at hi; exact hi
    obtain ⟨hil, ek⟩ := List.getElem?_eq_some_iff.mp hk
    have ed : p.drop i = k :: p.drop (i + 1) := by rw [List.drop_eq_getElem_cons hil, ek]
    rw [ed] at hup hs
    obtain ⟨n, j, u', rfl, hj, hup', hs', _⟩ := isP_kid hup
    obtain ⟨a, ys, rfl, h2, hk2⟩ := hu.app n
    obtain ⟨y', hy', hty⟩ := hk2.get' hj
    refine ⟨_, rfl, _, rfl, a, _, _, y', rfl, rfl, SqT.of h2, atI_nat (by rw [List.getElem?_cons_succ]; exact hy'), ?_⟩
    exact ⟨u', y', some (natV (j + 1)), rfl, rfl, hty, hup', by rw [hs, hs']⟩
  · rintro σ H1 ⟨u, z, v, rfl, rfl, hu, hup, hs⟩
    refine ⟨_, rfl, q z H1 (Same.refl _) ?_⟩
    rw [List.length_map, List.drop_length] at hs
    rw [hs, sat_nil]
    exact hu
end
section
variable {X : Cx}
def posD (p : List Nat) : PyData := .tuple (p.map fun (n : Nat) => PyData.int (n : Int))
theorem dp_pos {K : PySem.W.Frag} {H : Hp} {p : List Nat} {x : V} (h : PosAt H p x) : Dp K H x (posD p) := by
  obtain ⟨a, rfl, h2⟩ := h
  refine .tup (SqT.of h2) ?_
  clear h2
  induction p with
  | nil => exact .nil
  | cons n p ih => exact .cons (.int _) ih
theorem posD_lay : ∀ p : List Nat, PyData.canLayAll0 (p.map fun (n : Nat) => PyData.int (n : Int)) = true
  | [] => by simp [PyData.canLayAll0]
  | n :: p => by simp only [List.map_cons, PyData.canLayAll0, PyData.canLay0, posD_lay p, Bool.and_self]
theorem posD_depth : ∀ p : List Nat, PyData.depthAll (p.map fun (n : Nat) => PyData.int (n : Int)) = 0
  | [] => by simp [PyData.depthAll]
  | n :: p => by simp only [List.map_cons, PyData.depthAll, PyData.depth, posD_depth p, Nat.max_self]
theorem posD_eqv_nil (p : List Nat) : PyData.eqv (posD p) (posD []) = decide (p = []) := by
  cases p <;> simp [posD, PyData.eqv, PyData.eqvAll]
/-- p == (), p != () -/
def rEqP0 : R2 := fun x y H Q => ∃ p, PosAt H p x ∧ PosAt H [] y ∧ Q (.bl (decide (p = []))) H
def rNeP0 : R2 := fun x y H Q => ∃ p, PosAt H p x ∧ PosAt H [] y ∧ Q (.bl (!decide (p = []))) H
theorem op_eqP0 (hu : X.A.units + 200 < cLine) : OpR X (compareOp .Eq) rEqP0 := by
  intro pins s σ H x y v u Q I rx ry ⟨p, hp, h0, q⟩
  refine op_eqX hu pins s σ H x y v u Q I rx ry ⟨_, _, dp_pos hp, dp_pos h0, by simp only [posD, PyData.canLay0]; exact posD_lay p, by simp only [posD, PyData.canLay0]; exact posD_lay [], ?_, ?_⟩
  · simp only [posD, PyData.depth, posD_depth]; omega
  · rw [posD_eqv_nil]; exact q
theorem op_neP0 (hu : X.A.units + 200 < cLine) : OpR X (compareOp .NotEq) rNeP0 := by
  intro pins s σ H x y v u Q I rx ry ⟨p, hp, h0, q⟩
  refine op_neX hu pins s σ H x y v u Q I rx ry ⟨_, _, dp_pos hp, dp_pos h0, by simp only [posD, PyData.canLay0]; exact posD_lay p, by simp only [posD, PyData.canLay0]; exact posD_lay [], ?_, ?_⟩
  · simp only [posD, PyData.depth, posD_depth]; omega
  · rw [posD_eqv_nil]; exact q
end
section
variable {P : Program} {w : World} {K : PySem.W.Frag} {mg : Str → Option Value} {base : Heap} {N : List Str}
/-! ### _law_put, _law_shift -/
theorem ok_lput1 {n : Nat} (D : DF K mg "_law_put" s_law_put ["_law_term_here", "_law_place", "_law_new"]) (G : OkD P w K mg base n "_law_put" ["_law_term_here", "_law_place", "_law_new"] (spExch N n)) : OkD P w K mg base (n + 1) "_law_put" ["_law_term_here", "_law_place", "_law_new"] (spExch N (n + 1)) := by
  refine D.ok sc_law_put (fun vs H Q E h => ?_) (fun f cdv A outer s H vs Q E hr h => ?_)
  · obtain ⟨t, r, p, x, y, z, rfl, _⟩ := h
    rfl
  obtain ⟨t, r, p, x, y, z, rfl, ht, hb0, hz, hp, hn, q⟩ := h
  obtain ⟨b, rfl, hb⟩ := id hb0
  obtain ⟨f2, fd2, m2, k2, b2, F2, _⟩ := G
  have nd := sc_law_put.nd
  refine ⟨_, pss_cons (ps_if (pt_cmpR (op_eqP0 (hu2 hr)) (pv 1) (pe_tup pa_nil) (nomark _)) (pss_one (ps_ret (pv 2))) pss_nil)
    (pss_cons (ps_set (i := 3) nd rfl (Or.inl rfl) (pe_ix ix_tup (pv 1) pe_int (fun _ _ => rfl)))
    (pss_one (ps_ret (pe_op op_catN (pe_op op_catN (pe_slice sl_tk (pv 0) po_none (po_some (pv 3))) (pe_tup (pa_cons (pe_call F2 hr rfl m2 k2 b2 .nil pass0 (pa_cons (pe_ix ix_tup (pv 0) (pv 3) (fun _ _ => rfl)) (pa_cons (pe_slice sl_1 (pv 1) (po_some pe_int) po_none) (pa_cons (pv 2) pa_nil)))) pa_nil))) (pe_slice sl_dp (pv 0) (po_some (pe_op op_add (pv 3) pe_int)) po_none))))), ?_⟩
  refine ⟨_, rfl, (by decide : 0 ≤ sizeLine), fun e0 he0 => ?_⟩
  have s0 : Same H (upd H e0 (.tup [])) := same_new he0 _
  refine ⟨p, hb0.same s0, ⟨e0, rfl, upd_same⟩, _, rfl, ?_⟩
  cases p with
  | nil =>
    refine iteT ⟨_, rfl, ?_⟩
    rw [put_nil] at q
    exact q z _ s0 (hz.same s0)
  | cons k p =>
    refine iteF ?_
    obtain ⟨nv, i, u, rfl, hu, hup, _, hput⟩ := isP_kid hp
    obtain ⟨a, ys, rfl, h2, hk⟩ := ht.app nv
    obtain ⟨y', hy', hty⟩ := hk.get' hu
    have hil : i < ys.length := (List.getElem?_eq_some_iff.mp hy').1
    have hl2 : ys.length ≤ 2 := by rw [hk.length]; exact kids_le t
    refine ⟨_, rfl, b, _, 0, natV (i + 1), rfl, rfl, SqT.of (s0 _ _ hb), atI_nat (j := 0) rfl, ?_⟩
    refine ⟨_, rfl, _, rfl, _, rfl, a, _, i + 1, rfl, rfl, rfl, by rw [List.length_cons]; omega, SqT.of (s0 _ _ h2), fun d hd => ?_⟩
    have sd := s0.trans (same_new hd (.tup ((V.str (sy N t) :: ys).take (i + 1))))
    refine ⟨_, rfl, _, rfl, a, _, _, y', rfl, rfl, SqT.of (sd _ _ h2), atI_nat (j := i + 1) (by rw [List.getElem?_cons_succ]; exact hy'), ?_⟩
    refine ⟨_, rfl, _, rfl, b, _, p.map natV, rfl, rfl, rfl, SqT.of (sd _ _ hb), fun c hc => ?_⟩
    have s1 := sd.trans (same_new hc (.tup (p.map natV)))
    refine ⟨_, rfl, u, r, p, y', .ref c, z, rfl, hty.same s1, ⟨c, rfl, upd_same⟩, hz.same s1, hup, by simp only [List.length_cons] at hn; omega, fun v H1 s2 hv => ?_⟩
    have s3 := s1.trans s2
    refine ⟨(by decide : 1 ≤ sizeLine), fun e he => ?_⟩
    have s5 := same_new he (.tup [v])
    have hd5 := s5 _ _ (s2 _ _ (same_new hc (.tup (p.map natV)) _ _ (upd_same (a := d) (o := .tup ((V.str (sy N t) :: ys).take (i + 1))))))
    refine ⟨d, e, _, _, rfl, rfl, hd5, upd_same, by simp, ?_, fun g H2 s6 hg => ?_⟩
    · rw [List.length_take, List.length_singleton, List.length_cons]; omega
    have s7 := s5.trans s6
    have e1 : ((i + 1 : Nat) : Int) + 1 = ((i + 1 + 1 : Nat) : Int) := by omega
    refine ⟨_, rfl, _, rfl, _, _, rfl, rfl, _, rfl, ?_⟩
    refine ⟨a, _, i + 1 + 1, rfl, congrArg some e1, rfl, by omega, by rw [List.length_cons]; omega, SqT.of (s7 _ _ (s3 _ _ h2)), fun j hj => ?_⟩
    have s8 := s7.trans (same_new hj (.tup ((V.str (sy N t) :: ys).drop (i + 1 + 1))))
    refine ⟨g, j, _, _, rfl, rfl, same_new hj _ _ _ hg, upd_same, by simp, ?_, fun o H3 s9 ho => ?_⟩
    · rw [List.length_append, List.length_take, List.length_drop, List.length_singleton, List.length_cons]; omega
    rw [split_set hil] at ho
    have s10 := s3.trans (s8.trans s9)
    refine q (.ref o) H3 s10 ?_
    obtain ⟨g1, g2, g3⟩ := hput r
    refine TmAt.mk g1 (ys := ys.set i v) ?_ ?_
    · rw [ho]; unfold sy; rw [g2]
    · rw [g3]
      exact AllAt.set (TmsAt.same hk s10) (hv.same (s8.trans s9))
theorem ok_lput (D : DF K mg "_law_put" s_law_put ["_law_term_here", "_law_place", "_law_new"]) : ∀ n, OkD P w K mg base n "_law_put" ["_law_term_here", "_law_place", "_law_new"] (spExch N n)
  | 0 => D.ok0 fun vs H Q E ⟨t, r, p, x, y, z, _, _, _, _, _, hn, _⟩ => absurd hn (Nat.not_lt_zero _)
  | n + 1 => ok_lput1 D (ok_lput D n)
theorem ok_lshift1 {n : Nat} (D : DF K mg "_law_shift" s_law_shift ["_law_term_here", "_law_by"]) (z0 : mg "isinstance" = none) (z1 : mg "tuple" = none) (G : OkD P w K mg base n "_law_shift" ["_law_term_here", "_law_by"] (spShift N n)) : OkD P w K mg base (n + 1) "_law_shift" ["_law_term_here", "_law_by"] (spShift N (n + 1)) := by
  refine D.ok sc_law_shift (fun vs H Q E h => ?_) (fun f cdv A outer s H vs Q E hr h => ?_)
  · obtain ⟨t, d, x, rfl, _⟩ := h
    rfl
  obtain ⟨t, d, x, rfl, ht, hn, q⟩ := h
  obtain ⟨f2, fd2, m2, k2, b2, F2, _⟩ := G
  have nd := sc_law_shift.nd
  refine ⟨_, pss_cons (ps_if (pt_not (pt_val (pe_callB (call_isTm (N := N)) (by rfl) z0 (by decide +kernel) (pa_cons (pv 0) (pa_cons (pe_bltn (v := .ty "tuple") (by rfl) z1 (by decide +kernel) rfl) pa_nil))))) (pss_one (ps_ret (pe_op op_add (pv 0) (pv 1)))) pss_nil)
    (pss_one (ps_ret (pe_op op_catN (pe_tup (pa_cons (pe_ix ix_tup (pv 0) pe_int (fun _ _ => rfl)) pa_nil)) (pe_callTy call_tuple_of (by rfl) z1 (by decide +kernel) (pa_cons
      (pe_lc (own := [("_law_part", 2)]) (g := gName 2) (tt := tYes) rfl nd (pi_tup (pe_slice sl_1 (pv 0) (po_some pe_int) po_none)) (blkOk_by (N := ["_law_term_here", "_law_by", "_law_part"]) (sc := defScope s_law_shift) (by decide +kernel)) (fun _ _ _ _ _ => pg_name (i := 2) nd rfl (Or.inl rfl)) (fun _ _ _ _ _ => pts_nil)
        (fun _ _ _ _ _ => pe_call F2 hr rfl m2 k2 b2 .nil pass0 (pa_cons (pv 2) (pa_cons (pv 1) pa_nil)))) pa_nil))))), ?_⟩
  refine ⟨x, rfl, t, x, rfl, ht, _, rfl, ?_⟩
  cases e : t.isV with
  | true =>
    refine iteT ?_
    obtain ⟨k, rfl, rfl⟩ := ht.isV_int e
    refine ⟨_, rfl, _, rfl, _, _, rfl, rfl, ?_⟩
    exact q _ H (Same.refl _) (by show V.int _ = V.int _; rw [Int.natCast_add])
  | false =>
    refine iteF ?_
    obtain ⟨a, ys, rfl, h2, hk⟩ := ht.app e
    have hl2 : ys.length ≤ 2 := by rw [hk.length]; exact kids_le t
    refine ⟨_, rfl, a, _, 0, _, rfl, rfl, SqT.of h2, atI_nat (j := 0) rfl, (by decide : 1 ≤ sizeLine), fun c hc => ?_⟩
    have s1 : Same H (upd H c (.tup [V.str (sy N t)])) := same_new hc _
    refine ⟨_, rfl, _, rfl, a, _, ys, rfl, rfl, rfl, SqT.of (s1 _ _ h2), fun p hp => ?_⟩
    have s2 := s1.trans (same_new hp (.tup ys))
    refine ⟨p, rfl, ⟨_, SqT.of upd_same⟩, fun D hD => lc_map_tup (R := TmAt N) (bs := t.kids.map (Tm.shift d)) (fun _ _ _ _ e h => h.tupS e) (by rw [List.length_map, hk.length]) (by omega) upd_same ?_ hD ?_⟩
    · intro k y b H1 Q' hy hb s3 q'
      rw [List.getElem?_map, Option.map_eq_some_iff] at hb
      obtain ⟨u, hu, rfl⟩ := hb
      obtain ⟨u', hu', hyu⟩ := hk.get hy
      rw [hu] at hu'
      cases hu'
      exact ⟨_, rfl, _, rfl, u, d, y, rfl, hyu.same (s2.trans s3), kid_nest hu hn, fun z H2 s4 hz => q' z H2 s4 hz⟩
    · intro zs H1 s3 hd1 ha1
      refine ⟨D, zs, rfl, .inl ⟨SqL.of hd1, fun l hl => ?_⟩⟩
      have s4 := same_new hl (.tup zs)
      have hzl : zs.length ≤ 2 := by rw [ha1.length, List.length_map]; exact kids_le t
      refine ⟨c, l, _, _, rfl, rfl, s4 _ _ (s3 _ _ (same_new hp (.tup ys) _ _ upd_same)), upd_same, by simp, by rw [List.length_singleton]; omega, fun r H2 s5 hr2 => ?_⟩
      have s6 := s2.trans (s3.trans (s4.trans s5))
      obtain ⟨g1, g2, g3⟩ := shift_kids t d e
      refine q (.ref r) H2 s6 (TmAt.mk g1 (ys := zs) ?_ ?_)
      · rw [hr2]; unfold sy; rw [g2]; rfl
      · rw [g3]
        exact TmsAt.same ha1 (s4.trans s5)
theorem ok_lshift (D : DF K mg "_law_shift" s_law_shift ["_law_term_here", "_law_by"]) (z0 : mg "isinstance" = none) (z1 : mg "tuple" = none) : ∀ n, OkD P w K mg base n "_law_shift" ["_law_term_here", "_law_by"] (spShift N n)
  | 0 => D.ok0 fun vs H Q E ⟨t, d, x, _, _, hn, _⟩ => absurd hn (by have := nest_pos t; omega)
  | n + 1 => ok_lshift1 D z0 z1 (ok_lshift D z0 z1 n)
end
end K78
end
section
set_option maxHeartbeats 4000000
namespace K78
open PySem PySem.Spec PyProof.Rows L2
/-! ### rules on the heap -/
def RuleAt (N : List Str) (H : Hp) (r : Rule) (y : V) : Prop := ∃ a x z, y = .ref a ∧ H a = some (.tup [x, z]) ∧ TmAt N H r.1 x ∧ TmAt N H r.2 z
theorem RuleAt.tupS {N : List Str} {H H' : Hp} {r : Rule} {y : V} (h : RuleAt N H r y) (e : TupSame H H') : RuleAt N H' r y := by
  obtain ⟨a, x, z, h1, h2, h3, h4⟩ := h
  exact ⟨a, x, z, h1, e _ _ h2, h3.tupS e, h4.tupS e⟩
def RulesAt (N : List Str) (H : Hp) (l : Addr) (R : List Rule) : Prop := ∃ ys, H l = some (.lst ys) ∧ AllAt (RuleAt N H) R ys
theorem RulesAt.same {N : List Str} {H H' : Hp} {l : Addr} {R : List Rule} (h : RulesAt N H l R) (e : Same H H') : RulesAt N H' l R := by
  obtain ⟨ys, h1, h2⟩ := h
  exact ⟨ys, e _ _ h1, AllAt.mono (fun _ _ q => q.tupS (TupSame.of e)) h2⟩
/-- rules within bounds -/
def RB (R : List Rule) : Prop := ∀ r, r ∈ R → r.1.nest ≤ 10 ∧ r.2.nest ≤ 10 ∧ r.1.size ≤ 1000
/-- what is put in fits -/
def FitAt (R : List Rule) (t : Tm) (p : List Nat) : Prop := ∀ r, r ∈ R → ∀ s, mt r.1 (t.sat p) PSub.nil = some s → (r.2.ap s.tot).size ≤ 1000 ∧ (r.2.ap s.tot).nest ≤ 100
theorem stepAt_cons (r : Rule) (R : List Rule) (t : Tm) (p : List Nat) : stepAt (r :: R) t p = match mt r.1 (t.sat p) PSub.nil with
    | some s => some (t.put p (r.2.ap s.tot))
    | none => stepAt R t p := by
  unfold stepAt
  rw [List.findSome?_cons]
  cases mt r.1 (t.sat p) PSub.nil <;> rfl
theorem sat_nest : ∀ {t : Tm} {p : List Nat}, isP t p = true → (t.sat p).nest ≤ t.nest
  | t, [], _ => by rw [sat_nil]; exact Nat.le_refl _
  | t, k :: p, h => by
    obtain ⟨n, i, u, rfl, hu, hp, hs, _⟩ := isP_kid h
    have h1 := sat_nest hp
    have h2 : u.nest < t.nest := by
      obtain ⟨m, hm⟩ : ∃ m, t.nest = m + 1 := ⟨t.nest - 1, by have := nest_pos t; omega⟩
      have := kid_nest hu (Nat.le_of_eq hm)
      omega
    rw [hs]; omega
theorem drop_at {α : Type} {l : List α} {i : Nat} {a : α} (h : l[i]? = some a) : l.drop i = a :: l.drop (i + 1) := by
  obtain ⟨hil, ek⟩ := List.getElem?_eq_some_iff.mp h
  rw [List.drop_eq_getElem_cons hil, ek]
section
variable {P : Program} {w : World} {K : PySem.W.Frag} {mg : Str → Option Value} {base : Heap} {N : List Str}
/-! ### rewrite_at_position, _law_step_at -/
def spStep (N : List Str) (fit : Bool) : Sp := fun vs H Q _ => ∃ (R : List Rule) (t : Tm) (p : List Nat) (l : Addr) (x y : V), vs = [.ref l, x, y] ∧ RulesAt N H l R ∧ TmAt N H t x ∧ PosAt H p y ∧ isP t p = true ∧ RB R ∧ t.nest ≤ 110 ∧ (fit = true → FitAt R t p) ∧
  (∀ z u H', Same H H' → stepAt R t p = some u → TmAt N H' u z → Q z H') ∧ (∀ H', Same H H' → stepAt R t p = none → Q .non H')
theorem ok_rewrite_at {n1 : Nat} (D : DF K mg "rewrite_at_position" s_rewrite_at_position ["rules", "term", "position"]) (G1 : OkD P w K mg base 2 "subterm_at" ["term", "position"] (spSub N)) (G2 : OkB P w K mg base 13 "match" ["pattern", "term", "known"] [.non] (spMatch N 10))
    (G3 : OkD P w K mg base 112 "replace_at" ["term", "position", "new"] (spExch N 111)) (G4 : OkD P w K mg base 114 "apply" ["substitution", "term"] (spApply N 10)) : OkD P w K mg base 115 "rewrite_at_position" ["rules", "term", "position"] (spStep N true) := by
  refine D.ok (k := 114) sc_rewrite_at_position (fun vs H Q E h => ?_) (fun f cdv A outer s H vs Q E hr h => ?_)
  · obtain ⟨R, t, p, l, x, y, rfl, _⟩ := h
    rfl
  obtain ⟨R, t, p, l, x, y, rfl, hR, ht, hp, hip, hB, hn, hF, qS, qN⟩ := h
  have hF := hF rfl
  obtain ⟨f1, fd1, m1, k1, b1, F1, _⟩ := G1
  obtain ⟨f2, fd2, ds2, m2, k2, hd2, b2, F2⟩ := G2
  obtain ⟨f3, fd3, m3, k3, b3, F3, _⟩ := G3
  obtain ⟨f4, fd4, m4, k4, b4, F4, _⟩ := G4
  have nd := sc_rewrite_at_position.nd
  refine ⟨_, pss_cons (ps_set (i := 3) nd rfl (Or.inl rfl) (pe_call F1 (hr.mono (by decide)) rfl m1 k1 b1 .nil pass0 (pa_cons (pv 1) (pa_cons (pv 2) pa_nil))))
    (pss_cons (ps_for PassesOwn.never rfl (pi_list (pv 0)) (pg_tup rfl (pgs_cons (pg_name (i := 4) nd rfl (.inl rfl)) (pgs_cons (pg_name (i := 5) nd rfl (.inl rfl)) pgs_nil)))
      (pss_cons (ps_set (i := 6) nd rfl (Or.inl rfl) (pe_call F2 (hr.mono (by decide)) rfl m2 k2 b2 hd2 pass0 (pa_cons (pv 4) (pa_cons (pv 3) pa_nil))))
      (pss_one (ps_if (pt_cmpR op_notN (pv 6) pe_non (nomark _)) (pss_one (ps_ret (pe_call F3 (hr.mono (by decide)) rfl m3 k3 b3 .nil pass0 (pa_cons (pv 1) (pa_cons (pv 2) (pa_cons (pe_call F4 hr rfl m4 k4 b4 .nil pass0 (pa_cons (pv 6) (pa_cons (pv 5) pa_nil))) pa_nil)))))) pss_nil))))
    (pss_one (ps_ret pe_non))), ?_⟩
  refine ⟨_, rfl, _, rfl, t, p, x, y, rfl, ht, hp, hip, fun o H1 s1 ho => ?_⟩
  obtain ⟨ys, hl, hys⟩ := hR
  refine ⟨_, rfl, l, rfl, ⟨_, SqL.of (s1 _ _ hl)⟩, ?_⟩
  refine for_list (K := K) (a := l) (xs := ys) (fun i σ H2 => ∃ (v v' v'' : Option V), σ = [some (.ref l), some x, some y, some o, v, v', v''] ∧ Same H H2 ∧ TmAt N H2 (t.sat p) o ∧ stepAt R t p = stepAt (R.drop i) t p) ?_ ?_ ?_ ?_
  · exact ⟨none, none, none, rfl, s1, ho, rfl⟩
  · rintro i σ H2 _ ⟨v, v', v'', _, s2, _⟩
    exact SqL.of (s2 _ _ hl)
  · rintro i z σ H2 hi ⟨v, v', v'', rfl, s2, ho2, hst⟩
    obtain ⟨r, hri, a, xl, xr, rfl, ha, hxl, hxr⟩ := hys.get hi
    have hrm : r ∈ R := List.mem_of_getElem? hri
    obtain ⟨hb1, hb2, hb3⟩ := hB r hrm
    rw [drop_at hri, stepAt_cons] at hst
    have hsn := sat_nest hip
    refine ⟨a, _, rfl, SqT.of (s2 _ _ ha), rfl, xl, [xr], rfl, xr, [], rfl, rfl, ?_⟩
    refine ⟨_, rfl, _, rfl, r.1, t.sat p, xl, o, rfl, hxl.same s2, ho2, hb1, by omega, by omega, fun d H3 s' hd s3 em hs => ?_, fun H3 s3 em => ?_⟩
    · rw [em] at hst
      refine ⟨_, rfl, rfl, _, rfl, ?_⟩
      refine iteT ?_
      have s4 := s2.trans s3
      obtain ⟨hf1, hf2⟩ := hF r hrm s' em
      refine ⟨_, rfl, _, rfl, _, rfl, _, rfl, r.2, xr, d, s', _, rfl, hxr.same s4, hs, hb2, hf1, hf2, fun z H4 s5 hz => ?_⟩
      have s6 := s4.trans s5
      refine ⟨t, _, p, x, y, z, rfl, ht.same s6, hp.same s6, hz, hip, by have := isP_len hip; omega, fun z' H5 s7 hz' => ?_⟩
      exact qS z' _ H5 (s6.trans s7) hst hz'
    · rw [em] at hst
      refine ⟨_, rfl, rfl, _, rfl, ?_⟩
      refine iteF ?_
      exact ⟨some xl, some xr, some .non, rfl, s2.trans s3, ho2.same s3, hst⟩
  · rintro σ H2 ⟨v, v', v'', rfl, s2, ho2, hst⟩
    rw [hys.length, List.drop_length] at hst
    exact qN H2 s2 (by rw [hst]; rfl)
theorem ok_lstep (D : DF K mg "_law_step_at" s_law_step_at ["_law_rules_here", "_law_term_here", "_law_place"]) (G1 : OkD P w K mg base 1 "_law_at" ["_law_term_here", "_law_place"] (spSub N)) (G2 : OkD P w K mg base 10 "_law_match" ["_law_pattern", "_law_term_here", "_law_known"] (spLMatch N 10))
    (G3 : OkD P w K mg base 111 "_law_put" ["_law_term_here", "_law_place", "_law_new"] (spExch N 111)) (G4 : OkD P w K mg base 10 "_law_apply" ["_law_sub", "_law_term_here"] (spRep N 10)) : OkD P w K mg base 112 "_law_step_at" ["_law_rules_here", "_law_term_here", "_law_place"] (spStep N false) := by
  refine D.ok (k := 111) sc_law_step_at (fun vs H Q E h => ?_) (fun f cdv A outer s H vs Q E hr h => ?_)
  · obtain ⟨R, t, p, l, x, y, rfl, _⟩ := h
    rfl
  obtain ⟨R, t, p, l, x, y, rfl, hR, ht, hp, hip, hB, hn, _, qS, qN⟩ := h
  obtain ⟨f1, fd1, m1, k1, b1, F1, _⟩ := G1
  obtain ⟨f2, fd2, m2, k2, b2, F2, _⟩ := G2
  obtain ⟨f3, fd3, m3, k3, b3, F3, _⟩ := G3
  obtain ⟨f4, fd4, m4, k4, b4, F4, _⟩ := G4
  have nd := sc_law_step_at.nd
  refine ⟨_, pss_cons (ps_set (i := 3) nd rfl (Or.inl rfl) (pe_call F1 (hr.mono (by decide)) rfl m1 k1 b1 .nil pass0 (pa_cons (pv 1) (pa_cons (pv 2) pa_nil))))
    (pss_cons (ps_for PassesOwn.never rfl (pi_list (pv 0)) (pg_name (i := 4) nd rfl (.inl rfl))
      (pss_cons (ps_set (i := 5) nd rfl (Or.inl rfl) (pe_call F2 (hr.mono (by decide)) rfl m2 k2 b2 .nil pass0 (pa_cons (pe_ix ix_tup (pv 4) pe_int (fun _ _ => rfl)) (pa_cons (pv 3) (pa_cons pe_dnewK pa_nil)))))
      (pss_one (ps_if (pt_cmpR op_notN (pv 5) pe_non (nomark _)) (pss_one (ps_ret (pe_call F3 hr rfl m3 k3 b3 .nil pass0 (pa_cons (pv 1) (pa_cons (pv 2) (pa_cons (pe_call F4 (hr.mono (by decide)) rfl m4 k4 b4 .nil pass0 (pa_cons (pv 5) (pa_cons (pe_ix ix_tup (pv 4) pe_int (fun _ _ => rfl)) pa_nil))) pa_nil)))))) pss_nil))))
    (pss_one (ps_ret pe_non))), ?_⟩
  refine ⟨_, rfl, _, rfl, t, p, x, y, rfl, ht, hp, hip, fun o H1 s1 ho => ?_⟩
  obtain ⟨ys, hl, hys⟩ := hR
  refine ⟨_, rfl, l, rfl, ⟨_, SqL.of (s1 _ _ hl)⟩, ?_⟩
  refine for_list (K := K) (a := l) (xs := ys) (fun i σ H2 => ∃ (v v' : Option V), σ = [some (.ref l), some x, some y, some o, v, v'] ∧ Same H H2 ∧ TmAt N H2 (t.sat p) o ∧ stepAt R t p = stepAt (R.drop i) t p) ?_ ?_ ?_ ?_
  · exact ⟨none, none, rfl, s1, ho, rfl⟩
  · rintro i σ H2 _ ⟨v, v', _, s2, _⟩
    exact SqL.of (s2 _ _ hl)
  · rintro i z σ H2 hi ⟨v, v', rfl, s2, ho2, hst⟩
    obtain ⟨r, hri, a, xl, xr, rfl, ha, hxl, hxr⟩ := hys.get hi
    have hrm : r ∈ R := List.mem_of_getElem? hri
    obtain ⟨hb1, hb2, hb3⟩ := hB r hrm
    rw [drop_at hri, stepAt_cons] at hst
    have hsn := sat_nest hip
    refine ⟨_, rfl, a, _, 0, xl, rfl, rfl, SqT.of (s2 _ _ ha), atI_nat (j := 0) rfl, _, rfl, fun e he => ?_⟩
    have se : Same H2 (upd H2 e (.dK [])) := same_new he _
    have s3 := s2.trans se
    refine ⟨r.1, t.sat p, xl, o, e, PSub.nil, 0, rfl, hxl.same s3, ho2.same se, ⟨[], upd_same, Nat.le_refl _, SubK.nil⟩, hb1, by omega, by omega, fun d H3 s' s4 em hs => ?_, fun H3 s4 em => ?_⟩
    · rw [em] at hst
      refine ⟨_, rfl, rfl, _, rfl, ?_⟩
      refine iteT ?_
      have s5 := s3.trans s4
      refine ⟨_, rfl, _, rfl, _, rfl, _, rfl, a, _, 1, xr, rfl, rfl, SqT.of (s5 _ _ ha), atI_nat (j := 1) rfl, r.2, xr, d, s', _, rfl, hxr.same s5, hs, hb2, fun z H4 s6 hz => ?_⟩
      have s7 := s5.trans s6
      refine ⟨t, _, p, x, y, z, rfl, ht.same s7, hp.same s7, hz, hip, by have := isP_len hip; omega, fun z' H5 s8 hz' => ?_⟩
      exact qS z' _ H5 (s7.trans s8) hst hz'
    · rw [em] at hst
      refine ⟨_, rfl, rfl, _, rfl, ?_⟩
      refine iteF ?_
      exact ⟨some (.ref a), some .non, rfl, s3.trans s4, ho2.same (se.trans s4), hst⟩
  · rintro σ H2 ⟨v, v', rfl, s2, ho2, hst⟩
    rw [hys.length, List.drop_length] at hst
    exact qN H2 s2 (by rw [hst]; rfl)
/-! ### rewrite, _law_once -/
def spOnce (N : List Str) (fit : Bool) : Sp := fun vs H Q _ => ∃ (R : List Rule) (t : Tm) (l : Addr) (x : V), vs = [.ref l, x] ∧ RulesAt N H l R ∧ TmAt N H t x ∧ RB R ∧ t.nest ≤ 110 ∧ t.size ≤ 90000 ∧ (fit = true → ∀ p, p ∈ t.plc → FitAt R t p) ∧
  (∀ z u H', Same H H' → once R t = some u → TmAt N H' u z → Q z H') ∧ (∀ H', Same H H' → once R t = none → Q .non H')
theorem ok_rewrite (D : DF K mg "rewrite" s_rewrite ["rules", "term"]) (G1 : OkK P w K mg base 111 "positions" ["term", "with_variables"] 1 ["with_variables"] (spPos N 110)) (G2 : OkD P w K mg base 115 "rewrite_at_position" ["rules", "term", "position"] (spStep N true)) : OkD P w K mg base 116 "rewrite" ["rules", "term"] (spOnce N true) := by
  refine D.ok (k := 115) sc_rewrite (fun vs H Q E h => ?_) (fun f cdv A outer s H vs Q E hr h => ?_)
  · obtain ⟨R, t, l, x, rfl, _⟩ := h
    rfl
  obtain ⟨R, t, l, x, rfl, hR, ht, hB, hn, hz, hF, qS, qN⟩ := h
  have hF := hF rfl
  obtain ⟨f1, fd1, m1, k1, b1, F1, _⟩ := G1
  obtain ⟨f2, fd2, m2, k2, b2, F2, _⟩ := G2
  have nd := sc_rewrite.nd
  refine ⟨_, pss_cons (ps_for PassesOwn.never rfl (pi_list (pe_callN F1 (hr.mono (by decide)) rfl m1 k1 b1 pass0 (pa_cons (pv 1) pa_nil) (pk_cons pe_bl pk_nil))) (pg_name (i := 2) nd rfl (.inl rfl))
      (pss_cons (ps_set (i := 3) nd rfl (Or.inl rfl) (pe_call F2 hr rfl m2 k2 b2 .nil pass0 (pa_cons (pv 0) (pa_cons (pv 1) (pa_cons (pv 2) pa_nil)))))
      (pss_one (ps_if (pt_cmpR op_notN (pv 3) pe_non (nomark _)) (pss_one (ps_ret (pv 3))) pss_nil))))
    (pss_one (ps_ret pe_non)), ?_⟩
  refine ⟨_, rfl, rfl, rfl, t, x, rfl, ht, hn, hz, fun p ys H1 hp0 s1 hP hp1 => ?_⟩
  refine ⟨p, rfl, ⟨_, SqL.of hp1⟩, ?_⟩
  refine for_list (K := K) (a := p) (xs := ys) (fun i σ H2 => ∃ (v v' : Option V), σ = [some (.ref l), some x, v, v'] ∧ Same H1 H2 ∧ once R t = (t.plc.drop i).findSome? fun p => stepAt R t p) ?_ ?_ ?_ ?_
  · exact ⟨none, none, rfl, Same.refl _, rfl⟩
  · rintro i σ H2 _ ⟨v, v', _, s2, _⟩
    exact SqL.of (s2 _ _ hp1)
  · rintro i z σ H2 hi ⟨v, v', rfl, s2, hst⟩
    obtain ⟨q, hqi, hq⟩ := hP.get hi
    have hqm := List.mem_of_getElem? hqi
    obtain ⟨hi1, hi2⟩ := isP_plc hqm
    rw [drop_at hqi, List.findSome?_cons] at hst
    have s3 := s1.trans s2
    refine ⟨_, rfl, _, rfl, _, rfl, R, t, q, l, x, z, rfl, hR.same s3, ht.same s3, hq.same s2, hi1, hB, hn, fun _ => hF q hqm, fun z' u H3 s4 em hz' => ?_, fun H3 s4 em => ?_⟩
    · have hnn : z' ≠ .non := by
        rintro rfl
        cases u with
        | v _ => cases hz'
        | c _ => obtain ⟨a, h, _⟩ := hz'; cases h
        | f _ => obtain ⟨a, _, h, _⟩ := hz'; cases h
        | g _ _ => obtain ⟨a, _, _, h, _⟩ := hz'; cases h
      rw [em] at hst
      refine ⟨_, rfl, rfl, _, rfl, ?_⟩
      rw [decide_eq_false hnn]
      refine iteT ?_
      exact ⟨_, rfl, qS z' u H3 (s3.trans s4) hst hz'⟩
    · rw [em] at hst
      refine ⟨_, rfl, rfl, _, rfl, ?_⟩
      refine iteF ?_
      exact ⟨some z, some .non, rfl, s2.trans s4, hst⟩
  · rintro σ H2 ⟨v, v', rfl, s2, hst⟩
    rw [hP.length, List.drop_length] at hst
    exact qN H2 (s1.trans s2) hst
theorem tm_ne_none {H : Hp} {u : Tm} {z : V} (h : TmAt N H u z) : z ≠ .non := by
  rintro rfl
  cases u with
  | v _ => cases h
  | c _ => obtain ⟨a, h, _⟩ := h; cases h
  | f _ => obtain ⟨a, _, h, _⟩ := h; cases h
  | g _ _ => obtain ⟨a, _, _, h, _⟩ := h; cases h
theorem ok_lonce (D : DF K mg "_law_once" s_law_once ["_law_rules_here", "_law_term_here"]) (G1 : OkD P w K mg base 110 "_law_places" ["_law_term_here"] (spLPos N 110)) (G2 : OkD P w K mg base 112 "_law_step_at" ["_law_rules_here", "_law_term_here", "_law_place"] (spStep N false)) : OkD P w K mg base 113 "_law_once" ["_law_rules_here", "_law_term_here"] (spOnce N false) := by
  refine D.ok (k := 112) sc_law_once (fun vs H Q E h => ?_) (fun f cdv A outer s H vs Q E hr h => ?_)
  · obtain ⟨R, t, l, x, rfl, _⟩ := h
    rfl
  obtain ⟨R, t, l, x, rfl, hR, ht, hB, hn, hz, _, qS, qN⟩ := h
  obtain ⟨f1, fd1, m1, k1, b1, F1, _⟩ := G1
  obtain ⟨f2, fd2, m2, k2, b2, F2, _⟩ := G2
  have nd := sc_law_once.nd
  refine ⟨_, pss_cons (ps_for PassesOwn.never rfl (pi_list (pe_call F1 (hr.mono (by decide)) rfl m1 k1 b1 .nil pass0 (pa_cons (pv 1) pa_nil))) (pg_name (i := 2) nd rfl (.inl rfl))
      (pss_cons (ps_set (i := 3) nd rfl (Or.inl rfl) (pe_call F2 hr rfl m2 k2 b2 .nil pass0 (pa_cons (pv 0) (pa_cons (pv 1) (pa_cons (pv 2) pa_nil)))))
      (pss_one (ps_if (pt_cmpR op_notN (pv 3) pe_non (nomark _)) (pss_one (ps_ret (pv 3))) pss_nil))))
    (pss_one (ps_ret pe_non)), ?_⟩
  refine ⟨_, rfl, t, x, rfl, ht, hn, hz, fun p ys H1 hp0 s1 hP hp1 => ?_⟩
  refine ⟨p, rfl, ⟨_, SqL.of hp1⟩, ?_⟩
  refine for_list (K := K) (a := p) (xs := ys) (fun i σ H2 => ∃ (v v' : Option V), σ = [some (.ref l), some x, v, v'] ∧ Same H1 H2 ∧ once R t = (t.plc.drop i).findSome? fun p => stepAt R t p) ?_ ?_ ?_ ?_
  · exact ⟨none, none, rfl, Same.refl _, rfl⟩
  · rintro i σ H2 _ ⟨v, v', _, s2, _⟩
    exact SqL.of (s2 _ _ hp1)
  · rintro i z σ H2 hi ⟨v, v', rfl, s2, hst⟩
    obtain ⟨q, hqi, hq⟩ := hP.get hi
    have hqm := List.mem_of_getElem? hqi
    obtain ⟨hi1, hi2⟩ := isP_plc hqm
    rw [drop_at hqi, List.findSome?_cons] at hst
    have s3 := s1.trans s2
    refine ⟨_, rfl, _, rfl, _, rfl, R, t, q, l, x, z, rfl, hR.same s3, ht.same s3, hq.same s2, hi1, hB, hn, fun h => (by cases h), fun z' u H3 s4 em hz' => ?_, fun H3 s4 em => ?_⟩
    · rw [em] at hst
      refine ⟨_, rfl, rfl, _, rfl, ?_⟩
      rw [decide_eq_false (tm_ne_none hz')]
      refine iteT ?_
      exact ⟨_, rfl, qS z' u H3 (s3.trans s4) hst hz'⟩
    · rw [em] at hst
      refine ⟨_, rfl, rfl, _, rfl, ?_⟩
      refine iteF ?_
      exact ⟨some z, some .non, rfl, s2.trans s4, hst⟩
  · rintro σ H2 ⟨v, v', rfl, s2, hst⟩
    rw [hP.length, List.drop_length] at hst
    exact qN H2 (s1.trans s2) hst
/-! ### normalize, joined, _law_normal_form -/
/-- a set of terms that rewriting does not leave, within the bounds; fit: what is put in fits -/
structure Safe (R : List Rule) (fit : Bool) (G : Tm → Prop) : Prop where
  nest : ∀ t, G t → t.nest ≤ 110
  size : ∀ t, G t → t.size ≤ 90000
  fits : fit = true → ∀ t, G t → ∀ p, p ∈ t.plc → FitAt R t p
  next : ∀ t u, G t → once R t = some u → G u
def spNorm (N : List Str) : Sp := fun vs H Q _ => ∃ (R : List Rule) (t u : Tm) (l : Addr) (x : V) (G : Tm → Prop) (k : Nat), vs = [.ref l, x] ∧ RulesAt N H l R ∧ TmAt N H t x ∧ RB R ∧ Safe R true G ∧ G t ∧ nf R k t = some u ∧ ∀ z H', Same H H' → TmAt N H' u z → Q z H'
theorem ok_normalize (D : DF K mg "normalize" s_normalize ["rules", "term"]) (G1 : OkD P w K mg base 116 "rewrite" ["rules", "term"] (spOnce N true)) : OkD P w K mg base 117 "normalize" ["rules", "term"] (spNorm N) := by
  refine D.ok (k := 116) sc_normalize (fun vs H Q E h => ?_) (fun f cdv A outer s H vs Q E hr h => ?_)
  · obtain ⟨R, t, u, l, x, G, k, rfl, _⟩ := h
    rfl
  obtain ⟨R, t, u, l, x, G, k, rfl, hR, ht, hB, hS, hG, hk, q⟩ := h
  obtain ⟨f1, fd1, m1, k1, b1, F1, _⟩ := G1
  have nd := sc_normalize.nd
  refine ⟨_, pss_cons (ps_set (i := 2) nd rfl (Or.inl rfl) (pe_call F1 hr rfl m1 k1 b1 .nil pass0 (pa_cons (pv 0) (pa_cons (pv 1) pa_nil))))
    (pss_cons (ps_while PassesOwn.never (pt_cmpR op_notN (pv 2) pe_non (nomark _))
      (pss_cons (ps_set (i := 1) nd rfl (Or.inl rfl) (pv 2)) (pss_one (ps_set (i := 2) nd rfl (Or.inl rfl) (pe_call F1 hr rfl m1 k1 b1 .nil pass0 (pa_cons (pv 0) (pa_cons (pv 1) pa_nil)))))))
    (pss_one (ps_ret (pv 1)))), ?_⟩
  -- the while, from any state: the term and what one rewriting makes of it
  have start : ∀ (t' : Tm) (x' : V) (H1 : Hp) (m : Nat) (Q' : VK), Same H H1 → TmAt N H1 t' x' → G t' → nf R m t' = some u → (∀ y' H2, Same H1 H2 → (match once R t' with | some t2 => TmAt N H2 t2 y' | none => y' = .non) → Q' y' H2) → spOnce N true [.ref l, x'] H1 Q' E0 := by
    intro t' x' H1 m Q' s1 ht' hG' hk' q'
    refine ⟨R, t', l, x', rfl, hR.same s1, ht', hB, hS.nest _ hG', hS.size _ hG', fun _ => hS.fits rfl _ hG', fun z u' H2 s2 em hz => q' z H2 s2 ?_, fun H2 s2 em => q' .non H2 s2 ?_⟩
    · rw [em]; exact hz
    · rw [em]
  refine ⟨_, rfl, _, rfl, ?_⟩
  refine start t x H k _ (Same.refl H) ht hG hk fun y' H1 s1 hy => ?_
  refine ⟨fun m σ H1 => ∃ (t' : Tm) (x' y' : V), σ = [some (.ref l), some x', some y'] ∧ Same H H1 ∧ TmAt N H1 t' x' ∧ G t' ∧ nf R m t' = some u ∧ (match once R t' with | some t2 => TmAt N H1 t2 y' | none => y' = .non), ⟨k, t, x, y', rfl, s1, ht.same s1, hG, hk, hy⟩, ?_⟩
  rintro m σ H2 ⟨t', x', y'', rfl, s2, ht', hG', hk', hy'⟩
  cases m with
  | zero => cases hk'
  | succ m =>
    simp only [nf] at hk'
    cases em : once R t' with
    | none =>
      rw [em] at hk' hy'
      have hy2 : y'' = .non := hy'
      subst hy2
      have e1 : t' = u := Option.some.inj hk'
      subst e1
      refine ⟨_, rfl, rfl, _, rfl, ?_⟩
      refine iteF ?_
      exact ⟨_, rfl, q x' H2 s2 ht'⟩
    | some t2 =>
      rw [em] at hk' hy'
      have hy2 : TmAt N H2 t2 y'' := hy'
      refine ⟨_, rfl, rfl, _, rfl, ?_⟩
      rw [decide_eq_false (tm_ne_none hy2)]
      refine iteT ?_
      refine ⟨fun σ H3 => ∃ (t' : Tm) (x' y' : V), σ = [some (.ref l), some x', some y'] ∧ Same H H3 ∧ TmAt N H3 t' x' ∧ G t' ∧ nf R m t' = some u ∧ (match once R t' with | some t2 => TmAt N H3 t2 y' | none => y' = .non), fun σ' H' h => ⟨m, Nat.lt_succ_self m, h⟩, ?_⟩
      have hG2 := hS.next _ _ hG' em
      refine ⟨_, rfl, _, rfl, _, rfl, ?_⟩
      refine start t2 y'' H2 m _ s2 hy2 hG2 hk' fun y3 H3 s3 hy3 => ?_
      exact ⟨t2, y'', y3, rfl, s2.trans s3, hy2.same s3, hG2, hk', hy3⟩
end
end K78
end
section
set_option maxHeartbeats 4000000
namespace K78
open PySem PySem.Spec PyProof.Rows L2
theorem Safe.nf {R : List Rule} {fit : Bool} {G : Tm → Prop} (S : Safe R fit G) : ∀ {k : Nat} {t u : Tm}, G t → nf R k t = some u → G u
  | 0, _, _, _, h => by cases h
  | k + 1, t, u, g, h => by
    simp only [K78.nf] at h
    cases em : once R t with
    | none => rw [em] at h; cases h; exact g
    | some t2 => rw [em] at h; exact S.nf (S.next _ _ g em) h
section
variable {P : Program} {w : World} {K : PySem.W.Frag} {mg : Str → Option Value} {base : Heap} {N : List Str}
def spJoined (N : List Str) : Sp := fun vs H Q _ => ∃ (R : List Rule) (t1 t2 u1 u2 : Tm) (l : Addr) (x y : V) (G : Tm → Prop) (k1 k2 : Nat), vs = [.ref l, x, y] ∧ RulesAt N H l R ∧ TmAt N H t1 x ∧ TmAt N H t2 y ∧ RB R ∧ Safe R true G ∧ G t1 ∧ G t2 ∧ nf R k1 t1 = some u1 ∧ nf R k2 t2 = some u2 ∧ ∀ H', Same H H' → Q (.bl (decide (u1 = u2))) H'
theorem ok_joined (hN : NmOk N) (D : DF K mg "joined" s_joined ["rules", "first", "second"]) (G1 : OkD P w K mg base 117 "normalize" ["rules", "term"] (spNorm N)) : OkD P w K mg base 118 "joined" ["rules", "first", "second"] (spJoined N) := by
  refine D.ok (k := 117) sc_joined (fun vs H Q E h => ?_) (fun f cdv A outer s H vs Q E hr h => ?_)
  · obtain ⟨R, t1, t2, u1, u2, l, x, y, G, k1, k2, rfl, _⟩ := h
    rfl
  obtain ⟨R, t1, t2, u1, u2, l, x, y, G, n1, n2, rfl, hR, h1, h2, hB, hS, g1, g2, e1, e2, q⟩ := h
  obtain ⟨f1, fd1, m1, k1, b1, F1, _⟩ := G1
  refine ⟨_, pss_one (ps_ret (pe_cmpR (op_eqTm hN (hu2 hr)) (pe_call F1 hr rfl m1 k1 b1 .nil pass0 (pa_cons (pv 0) (pa_cons (pv 1) pa_nil))) (pe_call F1 hr rfl m1 k1 b1 .nil pass0 (pa_cons (pv 0) (pa_cons (pv 2) pa_nil))) (nomark _))), ?_⟩
  refine ⟨_, rfl, _, rfl, R, t1, u1, l, x, G, n1, rfl, hR, h1, hB, hS, g1, e1, fun z1 H1 s1 hz1 => ?_⟩
  refine ⟨_, rfl, _, rfl, R, t2, u2, l, y, G, n2, rfl, hR.same s1, h2.same s1, hB, hS, g2, e2, fun z2 H2 s2 hz2 => ?_⟩
  have := hS.nest _ (hS.nf g1 e1)
  exact ⟨u1, u2, hz1.same s2, hz2, by omega, q H2 (s1.trans s2)⟩
def spLNf (N : List Str) : Sp := fun vs H Q _ => ∃ (R : List Rule) (t : Tm) (l : Addr) (x : V) (G : Tm → Prop), vs = [.ref l, x] ∧ RulesAt N H l R ∧ TmAt N H t x ∧ RB R ∧ Safe R false G ∧ G t ∧ (∀ z u H', Same H H' → nf R 400 t = some u → TmAt N H' u z → Q z H') ∧ (∀ H', Same H H' → nf R 400 t = none → Q .non H')
theorem ok_lnf (D : DF K mg "_law_normal_form" s_law_normal_form ["_law_rules_here", "_law_term_here"]) (z1 : mg "range" = none) (G1 : OkD P w K mg base 113 "_law_once" ["_law_rules_here", "_law_term_here"] (spOnce N false)) : OkD P w K mg base 114 "_law_normal_form" ["_law_rules_here", "_law_term_here"] (spLNf N) := by
  refine D.ok (k := 113) sc_law_normal_form (fun vs H Q E h => ?_) (fun f cdv A outer s H vs Q E hr h => ?_)
  · obtain ⟨R, t, l, x, G, rfl, _⟩ := h
    rfl
  obtain ⟨R, t, l, x, G, rfl, hR, ht, hB, hS, hG, qS, qN⟩ := h
  obtain ⟨f1, fd1, m1, k1, b1, F1, _⟩ := G1
  have nd := sc_law_normal_form.nd
  refine ⟨_, pss_cons (ps_for PassesOwn.never rfl (pi_range1 (by rfl) z1 (pa_cons pe_int pa_nil)) (pg_name (i := 2) nd rfl (.inl rfl))
      (pss_cons (ps_set (i := 3) nd rfl (Or.inl rfl) (pe_call F1 hr rfl m1 k1 b1 .nil pass0 (pa_cons (pv 0) (pa_cons (pv 1) pa_nil))))
      (pss_cons (ps_if (pt_cmpR op_isN (pv 3) pe_non (nomark _)) (pss_one (ps_ret (pv 1))) pss_nil)
      (pss_one (ps_set (i := 1) nd rfl (Or.inl rfl) (pv 3))))))
    (pss_one (ps_ret pe_non)), ?_⟩
  refine ⟨400, rfl, by decide, by decide, ?_⟩
  refine for_range (lo := 0) (n := 400) (fun i σ H1 => ∃ (t' : Tm) (x' : V) (v v' : Option V), σ = [some (.ref l), some x', v, v'] ∧ Same H H1 ∧ TmAt N H1 t' x' ∧ G t' ∧ nf R 400 t = nf R (400 - i) t') ?_ ?_ ?_
  · exact ⟨t, x, none, none, rfl, Same.refl H, ht, hG, rfl⟩
  · rintro i σ H1 hi ⟨t', x', v, v', rfl, s1, ht', hG', hk⟩
    obtain ⟨m, hm⟩ : ∃ m, 400 - i = m + 1 := ⟨399 - i, by omega⟩
    have hm2 : 400 - (i + 1) = m := by omega
    rw [hm] at hk
    simp only [nf] at hk
    refine ⟨_, rfl, _, rfl, R, t', l, x', rfl, hR.same s1, ht', hB, hS.nest _ hG', hS.size _ hG', fun h => (by cases h), fun z u H2 s2 em hz => ?_, fun H2 s2 em => ?_⟩
    · rw [em] at hk
      refine ⟨_, rfl, rfl, _, rfl, ?_⟩
      rw [decide_eq_false (tm_ne_none hz)]
      refine iteF ?_
      exact ⟨_, rfl, u, z, some (.int (0 + (i : Int))), some z, rfl, s1.trans s2, hz, hS.next _ _ hG' em, by rw [hm2]; exact hk⟩
    · rw [em] at hk
      refine ⟨_, rfl, rfl, _, rfl, ?_⟩
      refine iteT ?_
      exact ⟨_, rfl, qS x' t' H2 (s1.trans s2) hk (ht'.same s2)⟩
  · rintro σ H1 ⟨t', x', v, v', rfl, s1, ht', hG', hk⟩
    exact qN H1 s1 (by rw [hk]; rfl)
end
end K78
end
section
set_option maxHeartbeats 4000000
namespace K78
open PySem PySem.Spec PyProof.Rows L2
open Classical
/-! ### dicts of counts -/
theorem keys_put {kvs : List (Key × V)} {k : Key} {v : V} : (putK kvs k v).map (·.1) = if k ∈ kvs.map (·.1) then kvs.map (·.1) else kvs.map (·.1) ++ [k] := by
  unfold putK
  have e : (kvs.any fun kv => decide (kv.1 = k)) = decide (k ∈ kvs.map (·.1)) := by
    rw [Bool.eq_iff_iff, List.any_eq_true, decide_eq_true_eq, List.mem_map]
    constructor
    · rintro ⟨p, h1, h2⟩; exact ⟨p, h1, of_decide_eq_true h2⟩
    · rintro ⟨p, h1, h2⟩; exact ⟨p, h1, decide_eq_true h2⟩
  rw [e]
  by_cases h : k ∈ kvs.map (·.1)
  · rw [decide_eq_true h, if_pos rfl, if_pos h, List.map_map]
    apply List.map_congr_left
    intro p _
    show (if p.1 = k then (p.1, v) else p).1 = p.1
    split <;> rfl
  · rw [decide_eq_false h, if_neg (by decide), if_neg h, List.map_append]; rfl
/-- a dict that counts: of every number what c says, its keys numbers, none twice -/
structure KCnt (kvs : List (Key × V)) (c : Nat → Nat) : Prop where
  val : ∀ m : Nat, (valV kvs (Sum.inl (m : Int) : Key)).getD (.int 0) = natV (c m)
  num : ∀ k, k ∈ kvs.map (·.1) → ∃ m : Nat, k = Sum.inl (m : Int)
  nd : (kvs.map (·.1)).Nodup
theorem KCnt.nil : KCnt [] (fun _ => 0) := ⟨fun _ => rfl, fun _ h => (by cases h), List.nodup_nil⟩
theorem inl_inj {m n : Nat} : ((Sum.inl (m : Int) : Key) = Sum.inl (n : Int)) ↔ m = n := ⟨fun h => by have := Sum.inl.inj h; omega, fun h => by rw [h]⟩
theorem KCnt.put {kvs : List (Key × V)} {c : Nat → Nat} (h : KCnt kvs c) (m n : Nat) : KCnt (putK kvs (Sum.inl (m : Int)) (natV n)) (fun j => if j = m then n else c j) where
  val := fun j => by
    rw [valV_put]
    by_cases e : j = m
    · subst e; rw [if_pos rfl, if_pos rfl]; rfl
    · rw [if_neg (fun q => e (inl_inj.mp q)), if_neg e]; exact h.val j
  num := fun k hk => by
    rw [keys_put] at hk
    split at hk
    · exact h.num k hk
    · rcases List.mem_append.mp hk with hk | hk
      · exact h.num k hk
      · rw [List.mem_singleton] at hk; exact ⟨m, hk⟩
  nd := by
    rw [keys_put]
    split
    · exact h.nd
    · rename_i hn
      rw [List.nodup_append]
      refine ⟨h.nd, by simp, fun a ha b hb e => ?_⟩
      rw [List.mem_singleton] at hb
      subst hb; subst e
      exact hn ha
theorem KCnt.congr {kvs : List (Key × V)} {c c' : Nat → Nat} (h : KCnt kvs c) (e : ∀ m, c m = c' m) : KCnt kvs c' := ⟨fun m => by rw [h.val, e], h.num, h.nd⟩
theorem valV_mem {kvs : List (Key × V)} {k : Key} : k ∈ kvs.map (·.1) ↔ ∃ v, valV kvs k = some v := by
  have h := valV_any k kvs
  have e : (kvs.any fun kv => decide (kv.1 = k)) = decide (k ∈ kvs.map (·.1)) := by
    rw [Bool.eq_iff_iff, List.any_eq_true, decide_eq_true_eq, List.mem_map]
    constructor
    · rintro ⟨p, h1, h2⟩; exact ⟨p, h1, of_decide_eq_true h2⟩
    · rintro ⟨p, h1, h2⟩; exact ⟨p, h1, decide_eq_true h2⟩
  rw [e] at h
  constructor
  · intro hk
    rw [decide_eq_true hk] at h
    cases q : valV kvs k with
    | none => rw [q] at h; cases h
    | some v => exact ⟨v, rfl⟩
  · rintro ⟨v, q⟩
    rw [q] at h
    exact of_decide_eq_true h
theorem KCnt.at {kvs : List (Key × V)} {c : Nat → Nat} (h : KCnt kvs c) {m : Nat} (hm : (Sum.inl (m : Int) : Key) ∈ kvs.map (·.1)) : valV kvs (Sum.inl (m : Int) : Key) = some (natV (c m)) := by
  obtain ⟨v, hv⟩ := valV_mem.mp hm
  have := h.val m
  rw [hv] at this
  rw [hv]
  exact congrArg some this
theorem KCnt.out {kvs : List (Key × V)} {c : Nat → Nat} (h : KCnt kvs c) {m : Nat} (hm : ¬ (Sum.inl (m : Int) : Key) ∈ kvs.map (·.1)) : c m = 0 := by
  have := h.val m
  cases q : valV kvs (Sum.inl (m : Int) : Key) with
  | none => rw [q] at this; injection this with e; omega
  | some v => exact absurd (valV_mem.mpr ⟨v, q⟩) hm
def CntAt (H : Hp) (d : Addr) (c : Nat → Nat) (k : Nat) : Prop := ∃ kvs, H d = some (.dK kvs) ∧ KCnt kvs c ∧ kvs.length ≤ k
theorem CntAt.same {H H' : Hp} {d : Addr} {c : Nat → Nat} {k : Nat} (h : CntAt H d c k) (e : Same H H') : CntAt H' d c k := by
  obtain ⟨kvs, h1, h2⟩ := h
  exact ⟨kvs, e _ _ h1, h2⟩
theorem cnt_take1 {t u : Tm} {i m : Nat} (h : t.kids[i]? = some u) : ((t.kids.take (i + 1)).map (Tm.cnt m)).sum = ((t.kids.take i).map (Tm.cnt m)).sum + u.cnt m := sum_take1 h
section
variable {P : Program} {w : World} {K : PySem.W.Frag} {mg : Str → Option Value} {base : Heap} {N : List Str}
/-! ### variable_counts -/
def spVC (N : List Str) (n : Nat) : Sp := fun vs H Q _ => ∃ (t : Tm) (x : V), vs = [x] ∧ TmAt N H t x ∧ t.nest ≤ n ∧ t.size ≤ 90000 ∧ ∀ d H', H d = none → Same H H' → CntAt H' d (fun m => t.cnt m) t.size → Q (.ref d) H'
theorem ok_vc1 {n : Nat} (D : DF K mg "variable_counts" s_variable_counts ["term"]) (G1 : OkD P w K mg base 1 "is_variable" ["term"] (spIsVar N)) (G : OkD P w K mg base (n + 1) "variable_counts" ["term"] (spVC N n)) : OkD P w K mg base (n + 2) "variable_counts" ["term"] (spVC N (n + 1)) := by
  refine D.ok sc_variable_counts (fun vs H Q E h => ?_) (fun f cdv A outer s H vs Q E hr h => ?_)
  · obtain ⟨t, x, rfl, _⟩ := h
    rfl
  obtain ⟨t, x, rfl, ht, hn, hz, q⟩ := h
  obtain ⟨f1, fd1, m1, k1, b1, F1, _⟩ := G1
  obtain ⟨f2, fd2, m2, k2, b2, F2, _⟩ := G
  have hr1 : Room 1 _ := hr.mono (by omega)
  have hu := hu_of hr
  have nd := sc_variable_counts.nd
  refine ⟨_, pss_cons (ps_if (pt_val (pe_call F1 hr1 rfl m1 k1 b1 .nil pass0 (pa_cons (pv 0) pa_nil))) (pss_one (ps_ret (pe_disp (pps_cons (pv 0) pe_int pps_nil) (by rfl) (by rfl) (fun z => by cases z) (by decide)))) pss_nil)
    (pss_cons (ps_set (i := 1) nd rfl (Or.inl rfl) pe_dnewK)
    (pss_cons (ps_for PassesOwn.never rfl (pi_tup (pe_slice sl_1 (pv 0) (po_some pe_int) po_none)) (pg_name (i := 2) nd rfl (Or.inl rfl))
      (pss_cons (ps_set (i := 3) nd rfl (Or.inl rfl) (pe_call F2 hr rfl m2 k2 b2 .nil pass0 (pa_cons (pv 2) pa_nil)))
      (pss_one (ps_lock (ps_for PassesOwn.never rfl (pi_keys (pv 3)) (pg_name (i := 4) nd rfl (Or.inl rfl))
        (pss_one (ps_dput hu (pv 1) (pv 4) (pe_op op_add (pe_dget2 hu (pv 1) (pv 4) pe_int ⟨rfl, rfl, rfl, rfl⟩) (pe_dget hu (pv 3) (pv 4) (fun _ _ => rfl))) rfl)))))))
    (pss_one (ps_ret (pv 1))))), ?_⟩
  refine ⟨x, rfl, t, x, rfl, ht, _, rfl, ?_⟩
  cases e : t.isV with
  | true =>
    refine iteT ?_
    obtain ⟨k, rfl, rfl⟩ := ht.isV_int e
    intro p hp
    refine ⟨_, rfl, upd_same, [(Sum.inl (k : Int), .int 1)], rfl, (by simp), ?_⟩
    rw [upd_upd]
    refine q p _ hp (same_new hp _) ⟨_, upd_same, ?_, Nat.le_refl _⟩
    have := KCnt.nil.put k 1
    refine KCnt.congr this fun m => ?_
    simp only [Tm.cnt]
    by_cases em : m = k
    · rw [if_pos em, if_pos em.symm]
    · rw [if_neg em, if_neg (fun e => em e.symm)]
  | false =>
    refine iteF ?_
    obtain ⟨a, ys, rfl, h2, hk⟩ := ht.app e
    intro c hc
    have sc : Same H (upd H c (.dK [])) := same_new hc _
    refine ⟨_, rfl, _, rfl, a, _, ys, rfl, rfl, rfl, SqT.of (sc _ _ h2), fun p hp => ?_⟩
    have sp := sc.trans (same_new hp (.tup ys))
    refine ⟨p, rfl, ⟨_, SqT.of upd_same⟩, for_tup (K := K) (a := p) (xs := ys) (fun i σ H1 => ∃ (v v' v'' : Option V), σ = [some (.ref a), some (.ref c), v, v', v''] ∧ Same H H1 ∧ H1 p = some (.tup ys) ∧ CntAt H1 c (fun m => ((t.kids.take i).map (Tm.cnt m)).sum) ((t.kids.take i).map Tm.size).sum) ?_ ?_ ?_ ?_⟩
    · exact ⟨none, none, none, rfl, sp, upd_same, [], same_new hp (.tup ys) _ _ upd_same, KCnt.nil, Nat.le_refl _⟩
    · rintro i σ H1 _ ⟨v, v', v'', _, _, h, _⟩
      exact SqT.of h
    · rintro i y σ H1 hi ⟨v, v', v'', rfl, s1, hp1, hC⟩
      obtain ⟨u, hu', hy⟩ := hk.get hi
      have hzu := size_take_le hu'
      refine ⟨_, rfl, u, y, rfl, hy.same s1, kid_nest hu' hn, by omega, fun d H2 hd0 s2 hD => ?_⟩
      obtain ⟨ck, hck, hcc, hcl⟩ := hC
      obtain ⟨pk, hpk, hpc, hpl⟩ := hD
      have ncd : c ≠ d := ne_of_none hck hd0
      refine ⟨d, _, hpk, trivial, fun od => ?_⟩
      refine ⟨_, rfl, d, od, rfl, .inl ⟨pk, upd_same, ?_⟩⟩
      have b2 : But d H2 (upd H2 d (.frz od (.dK pk))) := but_upd
      have s12 := s1.trans s2
      refine for_it (walk_keys (d := d) (o := od) (kvs := pk)) (fun j σ H3 => ∃ (v : Option V), σ = [some (.ref a), some (.ref c), some y, some (.ref d), v] ∧ H3 d = some (.frz od (.dK pk)) ∧ (∀ b o, H b = some o → H3 b = some o) ∧ H3 p = some (.tup ys) ∧
        ∃ ck, H3 c = some (.dK ck) ∧ KCnt ck (fun m => ((t.kids.take i).map (Tm.cnt m)).sum + if (Sum.inl (m : Int) : Key) ∈ (pk.take j).map (·.1) then u.cnt m else 0) ∧ ck.length ≤ ((t.kids.take i).map Tm.size).sum + j) ?_ ?_ ?_ ?_
      · refine ⟨_, rfl, upd_same, fun b o h => ?_, ?_, ck, ?_, ?_, by omega⟩
        · rw [upd_ne (ne_of_none (s1 _ _ h) hd0)]; exact s12 _ _ h
        · rw [upd_ne (ne_of_none hp1 hd0)]; exact s2 _ _ hp1
        · rw [upd_ne ncd]; exact s2 _ _ hck
        · refine hcc.congr fun m => ?_
          simp
      · rintro j σ H3 _ ⟨v, _, h, _⟩
        exact h
      · rintro j z σ H3 H4 hj ⟨v, rfl, hd3, hb3, hp3, ck3, hck3, hcc3, hcl3⟩ ⟨rfl, k0, v0, hkj, rfl⟩
        have hkm : k0 ∈ pk.map (·.1) := List.mem_map.mpr ⟨(k0, v0), List.mem_of_getElem? hkj, rfl⟩
        obtain ⟨m0, rfl⟩ := hpc.num k0 hkm
        have hval := hpc.at hkm
        have hjl : j < pk.length := hj
        have hnot : ¬ (Sum.inl (m0 : Int) : Key) ∈ (pk.take j).map (·.1) := by
          intro hin
          have hnd := hpc.nd
          rw [← List.take_append_drop j pk, drop_at hkj, List.map_append, List.map_cons] at hnd
          rw [List.nodup_append] at hnd
          exact hnd.2.2 _ hin _ (List.mem_cons_self ..) rfl
        refine ⟨_, rfl, c, rfl, .inl ⟨ck3, .inl hck3⟩, _, rfl, _, DGet.k (k := Sum.inl (m0 : Int)) hck3, ?_⟩
        rw [hcc3.val m0]
        refine ⟨_, rfl, _, rfl, d, natV (u.cnt m0), rfl, .inl ⟨pk, Sum.inl (m0 : Int), .inr ⟨od, hd3⟩, rfl, hval.symm⟩, _, _, rfl, rfl, ?_⟩
        refine ⟨_, rfl, _, rfl, c, _, rfl, DPut.k (k := Sum.inl (m0 : Int)) hck3 (sz16 (by omega)), ?_⟩
        refine ⟨some (natV m0), rfl, ?_, fun b o h => ?_, ?_, _, upd_same, ?_, ?_⟩
        · rw [upd_ne ncd.symm]; exact hd3
        · rw [upd_ne (ne_of_none h hc)]; exact hb3 _ _ h
        · rw [upd_ne (ne_of hp3 hck3 (by intro q; cases q))]; exact hp3
        · have e1 : V.int (((((t.kids.take i).map (Tm.cnt m0)).sum + if (Sum.inl (m0 : Int) : Key) ∈ (pk.take j).map (·.1) then u.cnt m0 else 0 : Nat) : Int) + (u.cnt m0 : Int)) = natV (((t.kids.take i).map (Tm.cnt m0)).sum + u.cnt m0) := by
            rw [if_neg hnot]; show V.int _ = V.int _; congr 1
          show KCnt (putK ck3 _ (V.int _)) _
          rw [e1]
          refine (hcc3.put m0 _).congr fun m => ?_
          show (if m = m0 then _ else _) = _
          rw [take_get hkj, List.map_append]
          by_cases em : m = m0
          · subst em
            rw [if_pos rfl, if_pos (List.mem_append.mpr (.inr (by simp)))]
          · rw [if_neg em]
            have : ((Sum.inl (m : Int) : Key) ∈ (pk.take j).map (·.1) ++ [(Sum.inl (m0 : Int), v0)].map (·.1)) ↔ (Sum.inl (m : Int) : Key) ∈ (pk.take j).map (·.1) := by
              rw [List.mem_append]
              constructor
              · rintro (h | h)
                · exact h
                · simp only [List.map_cons, List.map_nil, List.mem_singleton] at h
                  exact absurd (inl_inj.mp h) em
              · exact .inl
            simp only [this]
        · have := length_putK ck3 (Sum.inl (m0 : Int) : Key) (V.int (((((t.kids.take i).map (Tm.cnt m0)).sum + if (Sum.inl (m0 : Int) : Key) ∈ (pk.take j).map (·.1) then u.cnt m0 else 0 : Nat) : Int) + (u.cnt m0 : Int)))
          show (putK ck3 _ (V.int _)).length ≤ _
          omega
      · rintro σ H3 ⟨v, rfl, hd3, hb3, hp3, ck3, hck3, hcc3, hcl3⟩
        refine ⟨hd3, some y, some (.ref d), v, rfl, fun b o h => ?_, ?_, ck3, ?_, ?_, ?_⟩
        · rw [upd_ne (ne_of_none (s1 _ _ h) hd0)]; exact hb3 _ _ h
        · rw [upd_ne (ne_of_none hp1 hd0)]; exact hp3
        · rw [upd_ne ncd]; exact hck3
        · refine hcc3.congr fun m => ?_
          rw [cnt_take1 hu', List.take_length]
          by_cases hm : (Sum.inl (m : Int) : Key) ∈ pk.map (·.1)
          · rw [if_pos hm]
          · rw [if_neg hm, hpc.out hm]
        · rw [sum_take1 hu']; omega
    · rintro σ H1 ⟨v, v', v'', rfl, s1, hp1, ck, hck, hcc, hcl⟩
      refine ⟨_, rfl, q c H1 hc s1 ⟨ck, hck, hcc.congr fun m => ?_, ?_⟩⟩
      · rw [hk.length, List.take_length, cnt_kids e]
      · rw [hk.length, List.take_length] at hcl
        rw [size_kids]; omega
theorem ok_vc (D : DF K mg "variable_counts" s_variable_counts ["term"]) (G1 : OkD P w K mg base 1 "is_variable" ["term"] (spIsVar N)) : ∀ n, OkD P w K mg base (n + 1) "variable_counts" ["term"] (spVC N n)
  | 0 => (D.ok0 fun vs H Q E ⟨t, x, _, _, hn, _⟩ => absurd hn (by have := nest_pos t; omega)).mono (Nat.zero_le _)
  | n + 1 => ok_vc1 D G1 (ok_vc D G1 n)
/-! ### has_all_variables -/
def spHAV (N : List Str) (n : Nat) : Sp := fun vs H Q _ => ∃ (t u : Tm) (x y : V), vs = [x, y] ∧ TmAt N H t x ∧ TmAt N H u y ∧ t.nest ≤ n ∧ u.nest ≤ n ∧ t.size ≤ 90000 ∧ u.size ≤ 90000 ∧ ∀ b H', Same H H' → (b = true ↔ hasAll t u) → Q (.bl b) H'
theorem ok_hav {n : Nat} (D : DF K mg "has_all_variables" s_has_all_variables ["first", "second"]) (G : OkD P w K mg base (n + 1) "variable_counts" ["term"] (spVC N n)) : OkD P w K mg base (n + 2) "has_all_variables" ["first", "second"] (spHAV N n) := by
  refine D.ok sc_has_all_variables (fun vs H Q E h => ?_) (fun f cdv A outer s H vs Q E hr h => ?_)
  · obtain ⟨t, u, x, y, rfl, _⟩ := h
    rfl
  obtain ⟨t, u, x, y, rfl, ht, hu', hn, hn', hz, hz', q⟩ := h
  obtain ⟨f2, fd2, m2, k2, b2, F2, _⟩ := G
  have hu := hu_of hr
  have nd := sc_has_all_variables.nd
  refine ⟨_, pss_cons (ps_set (i := 2) nd rfl (Or.inl rfl) (pe_call F2 hr rfl m2 k2 b2 .nil pass0 (pa_cons (pv 0) pa_nil)))
    (pss_cons (ps_set (i := 3) nd rfl (Or.inl rfl) (pe_call F2 hr rfl m2 k2 b2 .nil pass0 (pa_cons (pv 1) pa_nil)))
    (pss_cons (ps_lock (ps_for PassesOwn.never rfl (pi_keys (pv 3)) (pg_name (i := 4) nd rfl (Or.inl rfl))
      (pss_one (ps_if (pt_cmpR op_lt (pe_dget2 hu (pv 2) (pv 4) pe_int ⟨rfl, rfl, rfl, rfl⟩) (pe_dget hu (pv 3) (pv 4) (fun _ _ => rfl)) (nomark _)) (pss_one (ps_ret pe_bl)) pss_nil))))
    (pss_one (ps_ret pe_bl)))), ?_⟩
  refine ⟨_, rfl, t, x, rfl, ht, hn, hz, fun d1 H1 hd1 s1 hC1 => ?_⟩
  refine ⟨_, rfl, u, y, rfl, hu'.same s1, hn', hz', fun d2 H2 hd2 s2 hC2 => ?_⟩
  obtain ⟨k1', hk1, hc1, _⟩ := hC1
  obtain ⟨k2', hk2, hc2, _⟩ := hC2
  have ne12 : d1 ≠ d2 := ne_of_none hk1 hd2
  refine ⟨d2, _, hk2, trivial, fun od => ?_⟩
  refine ⟨_, rfl, d2, od, rfl, .inl ⟨k2', upd_same, ?_⟩⟩
  have hH : ∀ (b : Addr) (o : HO), H b = some o → (upd (upd H2 d2 (.frz od (.dK k2'))) d2 (.dK k2')) b = some o := fun b o h => by
    rw [upd_upd, upd_ne (ne_of_none (s1 _ _ h) hd2)]; exact s2 _ _ (s1 _ _ h)
  refine for_it (walk_keys (d := d2) (o := od) (kvs := k2')) (fun j σ H3 => ∃ (v : Option V), σ = [some x, some y, some (.ref d1), some (.ref d2), v] ∧ H3 = upd H2 d2 (.frz od (.dK k2')) ∧ ∀ m : Nat, (Sum.inl (m : Int) : Key) ∈ (k2'.take j).map (·.1) → u.cnt m ≤ t.cnt m) ?_ ?_ ?_ ?_
  · exact ⟨none, rfl, rfl, fun m h => by simp at h⟩
  · rintro j σ H3 _ ⟨v, _, rfl, _⟩
    exact upd_same
  · rintro j z σ H3 H4 hj ⟨v, rfl, rfl, hm⟩ ⟨rfl, k0, v0, hkj, rfl⟩
    have hkm : k0 ∈ k2'.map (·.1) := List.mem_map.mpr ⟨(k0, v0), List.mem_of_getElem? hkj, rfl⟩
    obtain ⟨m0, rfl⟩ := hc2.num k0 hkm
    have hval := hc2.at hkm
    have hg1 : (upd H2 d2 (.frz od (.dK k2'))) d1 = some (.dK k1') := by rw [upd_ne ne12]; exact s2 _ _ hk1
    refine ⟨_, rfl, d1, rfl, .inl ⟨k1', .inl hg1⟩, _, rfl, _, DGet.k (k := Sum.inl (m0 : Int)) hg1, ?_⟩
    rw [hc1.val m0]
    refine ⟨_, rfl, _, rfl, d2, natV (u.cnt m0), rfl, .inl ⟨k2', Sum.inl (m0 : Int), .inr ⟨od, upd_same⟩, rfl, hval.symm⟩, _, _, rfl, rfl, _, rfl, ?_⟩
    refine ite2 (fun c => ?_) (fun c => ?_)
    · have c' := of_decide_eq_true c
      refine ⟨upd_same, q false _ hH ?_⟩
      constructor
      · intro h; cases h
      · intro h; have := h m0; omega
    · have c' : ¬ ((t.cnt m0 : Nat) : Int) < (u.cnt m0 : Nat) := of_decide_eq_false (Bool.eq_false_iff.mpr c)
      refine ⟨some (natV m0), rfl, rfl, fun m h => ?_⟩
      rw [take_get hkj, List.map_append, List.mem_append] at h
      rcases h with h | h
      · exact hm m h
      · simp only [List.map_cons, List.map_nil, List.mem_singleton] at h
        have := inl_inj.mp h
        subst this
        omega
  · rintro σ H3 ⟨v, rfl, rfl, hm⟩
    refine ⟨upd_same, ?_⟩
    refine q true _ hH ⟨fun _ m => ?_, fun _ => rfl⟩
    rw [List.take_length] at hm
    by_cases hin : (Sum.inl (m : Int) : Key) ∈ k2'.map (·.1)
    · exact hm m hin
    · rw [hc2.out hin]; exact Nat.zero_le _
end
end K78
end
section
set_option maxHeartbeats 4000000
namespace K78
open PySem PySem.Spec PyProof.Rows L2
open Classical
/-! ### methods by their class and name -/
structure DM (K : PySem.W.Frag) (C : Addr) (m qual : Str) (st : Stmt) (ps : List Str) : Prop where
  ex : ∃ (f : Addr) (fd : FuncData), Meth K C m f ∧ Fun K m qual st f fd ∧ Binds K fd ps []
def OkM (P : Program) (w : World) (K : PySem.W.Frag) (mg : Str → Option Value) (base : Heap) (k : Nat) (C : Addr) (m : Str) (ps : List Str) (sp : Sp) : Prop :=
  ∃ (f : Addr) (fd : FuncData), Meth K C m f ∧ Binds K fd ps [] ∧ FnOk P w K mg base CX0 k f fd ps sp
section
variable {P : Program} {w : World} {K : PySem.W.Frag} {mg : Str → Option Value} {base : Heap} {C : Addr}
theorem OkM.mono {j k : Nat} {x : Str} {ps : List Str} {sp : Sp} (G : OkM P w K mg base j C x ps sp) (h : j ≤ k) : OkM P w K mg base k C x ps sp := by
  obtain ⟨f, fd, a, c, d⟩ := G
  exact ⟨f, fd, a, c, d.mono h⟩
theorem DM.ok {x qual : Str} {st : Stmt} {N ps : List Str} {k : Nat} {sp : Sp} (D : DM K C x qual st ps) (S : FnScope N ps (defScope st)) (len : ∀ vs H Q E, sp vs H Q E → vs.length = ps.length)
    (hbody : ∀ (f : Addr) (cdv : Value) (A : Around) (outer : List Env) (s : Shared) (H : Hp) (vs : List V) (Q : VK) (E : XK), Room k (A.deeper (envOfC qual (defScope st) s.heap.objs.size f cdv)) → sp vs H Q E →
      ∃ t, PSs (cxOf CX0 P w K mg base N qual (defScope st) f cdv A outer s H E).nox (defBody st) t ∧ t { nx := fun _ H' => Q .non H', rt := Q } (start N vs) H) : OkM P w K mg base (k + 1) C x ps sp := by
  obtain ⟨f, fd, hm, F, hb⟩ := D.ex
  exact ⟨f, fd, hm, hb, F.ok S len fun cdv A outer s H vs Q E hr h => hbody f cdv A outer s H vs Q E hr h⟩
theorem DM.ok0 {x qual : Str} {st : Stmt} {ps : List Str} {sp : Sp} (D : DM K C x qual st ps) (no : ∀ vs H Q E, ¬ sp vs H Q E) : OkM P w K mg base 0 C x ps sp := by
  obtain ⟨f, fd, hm, F, hb⟩ := D.ex
  exact ⟨f, fd, hm, hb, ⟨fun vs H Q E h => absurd h (no vs H Q E), fun A outer s H args us vs Q E _ _ _ _ h => absurd h (no vs H Q E)⟩⟩
end
/-! ### texts in lists -/
theorem strV_flat (pr : List Str) : (pr.map V.str).all flatV = true := by
  rw [List.all_map, List.all_eq_true]; intro x _; rfl
theorem eqV_str (a b : Str) : eqV (.str a) (.str b) = decide (a = b) := by
  show (a == b) = decide (a = b)
  rw [Bool.eq_iff_iff, beq_iff_eq, decide_eq_true_eq]
theorem inV_str (a : Str) : ∀ pr : List Str, inV (.str a) (pr.map V.str) = decide (a ∈ pr)
  | [] => by simp [inV]
  | b :: pr => by
    have ih := inV_str a pr
    unfold inV at ih ⊢
    rw [List.map_cons, List.any_cons, ih, eqV_str, Bool.eq_iff_iff, Bool.or_eq_true, decide_eq_true_eq, decide_eq_true_eq, decide_eq_true_eq, List.mem_cons]
    constructor
    · rintro (h | h)
      · exact .inl h.symm
      · exact .inr h
    · rintro (h | h)
      · exact .inl h.symm
      · exact .inr h
/-- the first place of a text -/
def ix (pr : List Str) (a : Str) : Nat := match pr with
  | [] => 0
  | b :: r => if b = a then 0 else ix r a + 1
theorem ix_get : ∀ {pr : List Str} {a : Str}, a ∈ pr → pr[ix pr a]? = some a ∧ ∀ (m : Nat) (z : Str), m < ix pr a → pr[m]? = some z → z ≠ a
  | [], a, h => by cases h
  | b :: r, a, h => by
    unfold ix
    by_cases e : b = a
    · rw [if_pos e]; exact ⟨by rw [e]; rfl, fun m z hm => absurd hm (Nat.not_lt_zero m)⟩
    · rw [if_neg e]
      have hr : a ∈ r := (List.mem_cons.mp h).resolve_left fun q => e q.symm
      obtain ⟨h1, h2⟩ := ix_get hr
      refine ⟨by rw [List.getElem?_cons_succ]; exact h1, fun m z hm hz => ?_⟩
      cases m with
      | zero => simp at hz; subst hz; exact e
      | succ m => rw [List.getElem?_cons_succ] at hz; exact h2 m z (by omega) hz
section
variable {X : Cx}
/-- pr.index(a), a in pr -/
def rIxS1 (K : PySem.W.Frag) : V → List V → Hp → VK → Prop := fun x xs H Q => ∃ (l : Addr) (pr : List Str) (a : Str), x = .ref l ∧ xs = [.str a] ∧ H l = some (.lst (pr.map V.str)) ∧ a ∈ pr ∧ Q (natV (ix pr a)) H
theorem mt_ixS : MtR X "list.index" (rIxS1 X.K) := by
  intro pins s σ H x xs v us Q I rx rxs h
  obtain ⟨l, pr, a, rfl, rfl, hl, hm, q⟩ := h
  obtain ⟨h1, h2⟩ := ix_get hm
  refine mt_index pins s σ H _ _ v us Q I rx rxs ⟨l, pr.map V.str, .str a, ix pr a, .str a, rfl, rfl, SqL.of hl, rfl, strV_flat pr, by rw [List.getElem?_map, h1]; rfl, by rw [eqV_str]; exact decide_eq_true rfl, fun m z' hm' hz => ?_, q⟩
  rw [List.getElem?_map, Option.map_eq_some_iff] at hz
  obtain ⟨z, hz, rfl⟩ := hz
  rw [eqV_str]
  exact decide_eq_false (h2 m z hm' hz)
/-- t > u of two tuples (int, int, text) -/
def gt3 (c1 i1 : Int) (s1 : Str) (c2 i2 : Int) (s2 : Str) : Bool := if c1 = c2 then (if i1 = i2 then (if s1 = s2 then false else decide (s2.cps.toList < s1.cps.toList)) else decide (i2 < i1)) else decide (c2 < c1)
def rGtR : R2 := fun x y H Q => ∃ (a b : Addr) (c1 i1 : Int) (s1 : Str) (c2 i2 : Int) (s2 : Str), x = .ref a ∧ y = .ref b ∧ H a = some (.tup [.int c1, .int i1, .str s1]) ∧ H b = some (.tup [.int c2, .int i2, .str s2]) ∧ Q (.bl (gt3 c1 i1 s1 c2 i2 s2)) H
theorem vals3 {x y z : V} {us : List Value} (r : Vals [x, y, z] us) : ∃ u v w', us = [u, v, w'] ∧ RelV x u ∧ RelV y v ∧ RelV z w' := by
  cases r with
  | cons r1 t =>
    cases t with
    | cons r2 t =>
      cases t with
      | cons r3 t => cases t; exact ⟨_, _, _, rfl, r1, r2, r3⟩
theorem op_gtR (hu : X.A.units < cLine) : OpR X (compareOp .Gt) rGtR := by
  intro pins s σ H x y v u Q I rx ry h
  obtain ⟨a, b, c1, i1, s1, c2, i2, s2, rfl, rfl, ha, hb, q⟩ := h
  cases rx
  cases ry
  obtain ⟨its, r1, p1, _⟩ := I.tuple (SqT.of ha)
  obtain ⟨its2, r2, p2, _⟩ := I.tuple (SqT.of hb)
  obtain ⟨u1, u2, u3, rfl, q1, q2, q3⟩ := vals3 r1
  obtain ⟨w1, w2, w3, rfl, k1, k2, k3⟩ := vals3 r2
  have E1 := eqAt_V (A := X.A.in1) (s := s) q1 k1 rfl rfl
  have E2 := eqAt_V (A := X.A.in1) (s := s) q2 k2 rfl rfl
  have E3 := eqAt_V (A := X.A.in1) (s := s) q3 k3 rfl rfl
  obtain ⟨t1, rfl⟩ := q1
  obtain ⟨t2, rfl⟩ := q2
  obtain ⟨t3, rfl⟩ := q3
  obtain ⟨o1, rfl⟩ := k1
  obtain ⟨o2, rfl⟩ := k2
  obtain ⟨o3, rfl⟩ := k3
  have R := Ob.RcOp.tuples_gt (A := X.A) (s := s) (l := a) (b := b) (e := fun j => match j with | 0 => (c1 == c2) | 1 => (i1 == i2) | _ => (s1 == s2)) (r := fun j => match j with | 0 => decide (c2 < c1) | 1 => decide (i2 < i1) | _ => decide (s2.cps.toList < s1.cps.toList)) p1 p2 hu (fun j h1 h2 => by
      match j, h1, h2 with
      | 0, _, _ => exact E1
      | 1, _, _ => exact E2
      | 2, _, _ => exact E3
      | j + 3, h1, _ => exact absurd h1 (by simp)) (fun j h1 h2 _ => by
      match j, h1, h2 with
      | 0, _, _ => exact Ob.RcOp.gt_int _ _ _ _
      | 1, _, _ => exact Ob.RcOp.gt_int _ _ _ _
      | 2, _, _ => exact fun _ _ _ _ h => PySem.P.gt_str h
      | j + 3, h1, _ => exact absurd h1 (by simp))
  have z : wpAny (model X.prog X.w) X.A (compareOp .Gt (.ref a) (.ref b)) (EP X pins σ Q) X.xe s := by
    refine R X.prog X.w X.xe (EP X pins σ Q) ⟨.bl _, H, I, rfl, ?_⟩
    have e : Ob.lexAt (fun j => match j with | 0 => (c1 == c2) | 1 => (i1 == i2) | _ => (s1 == s2)) (fun j => match j with | 0 => decide (c2 < c1) | 1 => decide (i2 < i1) | _ => decide (s2.cps.toList < s1.cps.toList)) (decide (3 > 3)) 0 3 = gt3 c1 i1 s1 c2 i2 s2 := by
      simp only [Ob.lexAt, gt3, beq_iff_eq]
      by_cases e1 : c1 = c2
      · rw [if_pos e1, if_pos e1]
        by_cases e2 : i1 = i2
        · rw [if_pos e2, if_pos e2]
          by_cases e3 : s1 = s2
          · rw [if_pos e3, if_pos e3]; rfl
          · rw [if_neg e3, if_neg e3]
        · rw [if_neg e2, if_neg e2]
      · rw [if_neg e1, if_neg e1]
    have e' : Ob.lexAt (fun j => match j with | 0 => (c1 == c2) | 1 => (i1 == i2) | _ => (s1 == s2)) (fun j => match j with | 0 => decide (c2 < c1) | 1 => decide (i2 < i1) | _ => decide (s2.cps.toList < s1.cps.toList)) (decide ((#[Value.int c1 t1, Value.int i1 t2, Value.str s1 t3] : Array Value).size > (#[Value.int c2 o1, Value.int i2 o2, Value.str s2 o3] : Array Value).size)) 0 (min (#[Value.int c1 t1, Value.int i1 t2, Value.str s1 t3] : Array Value).size (#[Value.int c2 o1, Value.int i2 o2, Value.str s2 o3] : Array Value).size) = gt3 c1 i1 s1 c2 i2 s2 := e
    show Q (.bl (Ob.lexAt _ _ _ 0 _)) H
    rw [← e'] at q
    exact q
  exact z
end
/-! ### which symbol ranks higher -/
noncomputable def hiS (pr : List Str) (a b : Str) : Bool := if a = b then false else if a ∈ pr ∧ b ∈ pr then decide (ix pr b < ix pr a) else if a ∈ pr ∨ b ∈ pr then decide (b ∈ pr) else decide (b.cps.toList < a.cps.toList)
theorem gt3_hi (pr : List Str) (a b : Str) (h : a ≠ b) : gt3 (if a ∈ pr then 1 else 2) (if a ∈ pr then (ix pr a : Int) else 0) (if a ∈ pr then "" else a) (if b ∈ pr then 1 else 2) (if b ∈ pr then (ix pr b : Int) else 0) (if b ∈ pr then "" else b) = hiS pr a b := by
  unfold gt3 hiS
  rw [if_neg h]
  by_cases ha : a ∈ pr
  · by_cases hb : b ∈ pr
    · have hne : ix pr a ≠ ix pr b := fun e => by
        have h1 := (ix_get ha).1
        rw [e, (ix_get hb).1] at h1
        exact h (Option.some.inj h1).symm
      rw [if_pos (⟨ha, hb⟩ : a ∈ pr ∧ b ∈ pr)]
      simp only [if_pos ha, if_pos hb]
      rw [if_pos trivial, if_neg (by omega), Bool.eq_iff_iff, decide_eq_true_eq, decide_eq_true_eq]
      omega
    · rw [if_neg (fun q : a ∈ pr ∧ b ∈ pr => hb q.2), if_pos (.inl ha : a ∈ pr ∨ b ∈ pr)]
      simp only [if_pos ha, if_neg hb]
      rw [if_neg (by decide), decide_eq_false hb]; rfl
  · by_cases hb : b ∈ pr
    · rw [if_neg (fun q : a ∈ pr ∧ b ∈ pr => ha q.1), if_pos (.inr hb : a ∈ pr ∨ b ∈ pr)]
      simp only [if_neg ha, if_pos hb]
      rw [if_neg (by decide), decide_eq_true hb]; rfl
    · rw [if_neg (fun q : a ∈ pr ∧ b ∈ pr => ha q.1), if_neg (fun q : a ∈ pr ∨ b ∈ pr => q.elim ha hb)]
      simp only [if_neg ha, if_neg hb]
      rw [if_pos trivial, if_pos trivial, if_neg h]
end K78
end
section
set_option maxHeartbeats 4000000
namespace K78
open PySem PySem.Spec PyProof.Rows L2
open Classical
/-- the symbols' ranks by the names and a precedence -/
def hiN (N : List Str) (pr : List Str) (i j : Nat) : Prop := hiS pr (N.getD i "") (N.getD j "") = true
/-! ### the ordering as an object -/
def ordFs (td ad : Addr) : List (Str × V) := [("table", V.ref td), ("ascending", V.ref ad)]
def OrdAt (N : List Str) (C : Addr) (H : Hp) (o : Addr) (ww : Nat → Nat) (pr : List Str) : Prop := ∃ dx td ad, H o = some (.ins C dx (ordFs td ad)) ∧ WtAt N H td ww ∧ H ad = some (.lst (pr.map V.str))
theorem OrdAt.same {N : List Str} {C : Addr} {H H' : Hp} {o : Addr} {ww : Nat → Nat} {pr : List Str} (h : OrdAt N C H o ww pr) (e : Same H H') : OrdAt N C H' o ww pr := by
  obtain ⟨dx, td, ad, h1, h2, h3⟩ := h
  exact ⟨dx, td, ad, e _ _ h1, h2.same e, e _ _ h3⟩
theorem ord_table (td ad : Addr) : (ordFs td ad).lookup ("table" : Str) = some (.ref td) := by
  unfold ordFs; rw [List.lookup_cons]; simp
theorem ord_asc (td ad : Addr) : (ordFs td ad).lookup ("ascending" : Str) = some (.ref ad) := by
  have h : (("ascending" : Str) == ("table" : Str)) = false := by decide +kernel
  unfold ordFs; rw [List.lookup_cons, h]; simp
theorem ord_no (td ad : Addr) {m : Str} (h1 : (m == ("table" : Str)) = false) (h2 : (m == ("ascending" : Str)) = false) : (ordFs td ad).lookup m = none := by
  unfold ordFs; rw [List.lookup_cons, h1, List.lookup_cons, h2]; rfl
/-- what is known of the class -/
structure OrdC (K : PySem.W.Frag) (C : Addr) : Prop where
  cl : Cls K C
  nT : NoAttr K C "table"
  nA : NoAttr K C "ascending"
section
variable {P : Program} {w : World} {K : PySem.W.Frag} {mg : Str → Option Value} {base : Heap} {N : List Str} {C : Addr}
/-! ### symbol_weight, weight -/
def spSW (N : List Str) (C : Addr) : Sp := fun vs H Q _ => ∃ (o : Addr) (ww : Nat → Nat) (pr : List Str) (i : Nat), vs = [.ref o, .str (N.getD i "")] ∧ i < 5 ∧ OrdAt N C H o ww pr ∧ Q (natV (ww i)) H
theorem ok_sw (T : OrdC K C) (D : DM K C "symbol_weight" "Ordering.symbol_weight" s_O_symbol_weight ["self", "symbol"]) : OkM P w K mg base 1 C "symbol_weight" ["self", "symbol"] (spSW N C) := by
  refine D.ok sc_O_symbol_weight (fun vs H Q E h => ?_) (fun f cdv A outer s H vs Q E hr h => ?_)
  · obtain ⟨o, ww, pr, i, rfl, _⟩ := h
    rfl
  obtain ⟨o, ww, pr, i, rfl, hi, ⟨dx, td, ad, h1, ⟨kvs, h2, h3⟩, h4⟩, q⟩ := h
  have hu := hu_of hr
  refine ⟨_, pss_one (ps_ret (pe_dget2 hu (pe_fld (pv 0) rfl) (pv 1) pe_int ⟨rfl, rfl, rfl, rfl⟩)), ?_⟩
  refine ⟨_, rfl, o, C, dx, _, _, rfl, h1, T.cl, T.nT, ord_table _ _, td, rfl, .inl ⟨kvs, .inl h2⟩, _, rfl, _, DGet.k (k := Sum.inr (N.getD i "")) h2, ?_⟩
  rw [h3 i hi]
  exact q
def spOW (N : List Str) (C : Addr) (n : Nat) : Sp := fun vs H Q _ => ∃ (o : Addr) (ww : Nat → Nat) (pr : List Str) (t : Tm) (x : V), vs = [.ref o, x] ∧ OrdAt N C H o ww pr ∧ TmAt N H t x ∧ t.nest ≤ n ∧ ∀ H', Same H H' → Q (natV (t.wt ww)) H'
theorem ok_ow1 {n : Nat} (T : OrdC K C) (D : DM K C "weight" "Ordering.weight" s_O_weight ["self", "term"]) (G1 : OkD P w K mg base 1 "is_variable" ["term"] (spIsVar N)) (G2 : OkM P w K mg base 1 C "symbol_weight" ["self", "symbol"] (spSW N C))
    (G : OkM P w K mg base (n + 1) C "weight" ["self", "term"] (spOW N C n)) : OkM P w K mg base (n + 2) C "weight" ["self", "term"] (spOW N C (n + 1)) := by
  refine D.ok sc_O_weight (fun vs H Q E h => ?_) (fun f cdv A outer s H vs Q E hr h => ?_)
  · obtain ⟨o, ww, pr, t, x, rfl, _⟩ := h
    rfl
  obtain ⟨o, ww, pr, t, x, rfl, hO, ht, hn, q⟩ := h
  obtain ⟨f1, fd1, m1, k1, b1, F1, _⟩ := G1
  obtain ⟨f2, fd2, m2, b2, F2⟩ := G2
  obtain ⟨f3, fd3, m3, b3, F3⟩ := G
  have hr1 : Room 1 _ := hr.mono (by omega)
  have nd := sc_O_weight.nd
  refine ⟨_, pss_cons (ps_if (pt_val (pe_call F1 hr1 rfl m1 k1 b1 .nil pass0 (pa_cons (pv 1) pa_nil))) (pss_one (ps_ret pe_int)) pss_nil)
    (pss_cons (ps_set (i := 2) nd rfl (Or.inl rfl) (pe_meth (pv 0) T.cl m2 F2 hr1 b2 .nil pass0 (pa_cons (pe_ix ix_tup (pv 1) pe_int (fun _ _ => rfl)) pa_nil)))
    (pss_cons (ps_for PassesOwn.never rfl (pi_tup (pe_slice sl_1 (pv 1) (po_some pe_int) po_none)) (pg_name (i := 3) nd rfl (Or.inl rfl))
      (pss_one (ps_set (i := 2) nd rfl (Or.inl rfl) (pe_op op_add (pv 2) (pe_meth (pv 0) T.cl m3 F3 hr b3 .nil pass0 (pa_cons (pv 3) pa_nil))))))
    (pss_one (ps_ret (pv 2))))), ?_⟩
  refine ⟨x, rfl, t, x, rfl, ht, _, rfl, ?_⟩
  obtain ⟨dx, td, ad, ho, _⟩ := id hO
  cases e : t.isV with
  | true =>
    refine iteT ?_
    obtain ⟨k, rfl, rfl⟩ := ht.isV_int e
    exact q H (Same.refl H)
  | false =>
    refine iteF ?_
    obtain ⟨a, ys, rfl, h2, hk⟩ := ht.app e
    refine ⟨_, rfl, o, dx, _, rfl, ho, ord_no _ _ (by decide +kernel) (by decide +kernel), _, rfl, a, _, 0, _, rfl, rfl, SqT.of h2, atI_nat (j := 0) rfl, o, ww, pr, t.hd, rfl, hd_lt t, hO, ?_⟩
    refine ⟨_, rfl, _, rfl, a, _, ys, rfl, rfl, rfl, SqT.of h2, fun p hp => ?_⟩
    refine ⟨p, rfl, ⟨_, SqT.of upd_same⟩, for_tup (K := K) (a := p) (xs := ys) (fun i σ H1 => ∃ v, σ = [some (.ref o), some (.ref a), some (natV (ww t.hd + ((t.kids.take i).map (Tm.wt ww)).sum)), v] ∧ Same (upd H p (.tup ys)) H1)
      ⟨none, rfl, Same.refl _⟩ (fun i σ H1 _ ⟨_, _, s1⟩ => SqT.of (s1 _ _ upd_same)) ?_ ?_⟩
    · rintro i y σ H1 hi ⟨v, rfl, s1⟩
      obtain ⟨u, hu, hy⟩ := hk.get hi
      have s2 : Same H H1 := (same_new hp _).trans s1
      refine ⟨_, rfl, _, rfl, o, dx, _, rfl, s2 _ _ ho, ord_no _ _ (by decide +kernel) (by decide +kernel), y, rfl, o, ww, pr, u, y, rfl, hO.same s2, hy.same s2, kid_nest hu hn, fun H2 s3 => ?_⟩
      refine ⟨_, _, rfl, rfl, some y, ?_, s1.trans s3⟩
      show [some (V.ref o), some (V.ref a), some (V.int _), some y] = [some (V.ref o), some (V.ref a), some (V.int _), some y]
      rw [sum_take1 hu]
      simp only [List.cons.injEq, Option.some.injEq, V.int.injEq, and_true, true_and]
      omega
    · rintro σ H1 ⟨v, rfl, s1⟩
      refine ⟨_, rfl, ?_⟩
      rw [hk.length, List.take_length, ← wt_kids e]
      exact q H1 ((same_new hp _).trans s1)
theorem ok_ow (T : OrdC K C) (D : DM K C "weight" "Ordering.weight" s_O_weight ["self", "term"]) (G1 : OkD P w K mg base 1 "is_variable" ["term"] (spIsVar N)) (G2 : OkM P w K mg base 1 C "symbol_weight" ["self", "symbol"] (spSW N C)) : ∀ n, OkM P w K mg base (n + 1) C "weight" ["self", "term"] (spOW N C n)
  | 0 => (D.ok0 fun vs H Q E ⟨o, ww, pr, t, x, _, _, _, hn, _⟩ => absurd hn (by have := nest_pos t; omega)).mono (Nat.zero_le _)
  | n + 1 => ok_ow1 T D G1 G2 (ok_ow T D G1 G2 n)
/-! ### rank, ranks_higher -/
def spRank (N : List Str) (C : Addr) : Sp := fun vs H Q _ => ∃ (o : Addr) (ww : Nat → Nat) (pr : List Str) (a : Str), vs = [.ref o, .str a] ∧ a ≠ "true" ∧ OrdAt N C H o ww pr ∧
  ∀ p H', Same H H' → H' p = some (.tup [.int (if a ∈ pr then 1 else 2), .int (if a ∈ pr then (ix pr a : Int) else 0), .str (if a ∈ pr then "" else a)]) → Q (.ref p) H'
theorem ok_rank {tk : Tok} (T : OrdC K C) (c1 : mg "TRUE_SYMBOL" = some (.str "true" tk)) (D : DM K C "rank" "Ordering.rank" s_O_rank ["self", "symbol"]) : OkM P w K mg base 1 C "rank" ["self", "symbol"] (spRank N C) := by
  refine D.ok sc_O_rank (fun vs H Q E h => ?_) (fun f cdv A outer s H vs Q E hr h => ?_)
  · obtain ⟨o, ww, pr, i, rfl, _⟩ := h
    rfl
  obtain ⟨o, ww, pr, a, rfl, hne, ⟨dx, td, ad, h1, _, h4⟩, q⟩ := h
  refine ⟨_, pss_cons (ps_if (pt_cmpR op_eq (pv 1) (pe_glob (v := .str "true") rfl c1 ⟨_, rfl⟩) (nomark _)) (pss_one (ps_ret (pe_tup (pa_cons pe_int (pa_cons pe_int (pa_cons pe_str pa_nil)))))) pss_nil)
    (pss_cons (ps_if (pt_cmpR op_in_seq (pv 1) (pe_fld (pv 0) rfl) (by rfl)) (pss_one (ps_ret (pe_tup (pa_cons pe_int (pa_cons (pe_bm PySem.F.plainAttrs_list PySem.F.slot_list_index PySem.F.type_list_index mt_ixS (pe_fld (pv 0) rfl) (pa_cons (pv 1) pa_nil)) (pa_cons pe_str pa_nil)))))) pss_nil)
    (pss_one (ps_ret (pe_tup (pa_cons pe_int (pa_cons pe_int (pa_cons (pv 1) pa_nil))))))), ?_⟩
  refine ⟨_, rfl, rfl, _, rfl, ?_⟩
  rw [decide_eq_false (fun e => hne (V.str.inj e))]
  refine iteF ?_
  refine ⟨_, rfl, _, rfl, o, C, dx, _, _, rfl, h1, T.cl, T.nA, ord_asc _ _, ad, _, rfl, .inl (SqL.of h4), rfl, strV_flat pr, _, rfl, ?_⟩
  rw [if_neg (by decide), inV_str]
  by_cases ha : a ∈ pr
  · simp only [if_pos ha] at q
    rw [decide_eq_true ha]
    refine iteT ?_
    refine ⟨_, rfl, o, C, dx, _, _, rfl, h1, T.cl, T.nA, ord_asc _ _, .inl ⟨rfl, _, SqL.of h4⟩, _, rfl, ad, pr, a, rfl, rfl, h4, ha, ?_⟩
    refine ⟨(by simp [sizeLine_eq] : 3 ≤ sizeLine), fun p hp => ?_⟩
    exact q p _ (same_new hp _) upd_same
  · simp only [if_neg ha] at q
    rw [decide_eq_false ha]
    refine iteF ?_
    refine ⟨_, rfl, (by simp [sizeLine_eq] : 3 ≤ sizeLine), fun p hp => ?_⟩
    exact q p _ (same_new hp _) upd_same
def spRH (N : List Str) (C : Addr) : Sp := fun vs H Q _ => ∃ (o : Addr) (ww : Nat → Nat) (pr : List Str) (a b : Str), vs = [.ref o, .str a, .str b] ∧ a ≠ "true" ∧ b ≠ "true" ∧ a ≠ b ∧ OrdAt N C H o ww pr ∧ ∀ H', Same H H' → Q (.bl (hiS pr a b)) H'
theorem ok_rh (T : OrdC K C) (D : DM K C "ranks_higher" "Ordering.ranks_higher" s_O_ranks_higher ["self", "first", "second"]) (G : OkM P w K mg base 1 C "rank" ["self", "symbol"] (spRank N C)) : OkM P w K mg base 2 C "ranks_higher" ["self", "first", "second"] (spRH N C) := by
  refine D.ok sc_O_ranks_higher (fun vs H Q E h => ?_) (fun f cdv A outer s H vs Q E hr h => ?_)
  · obtain ⟨o, ww, pr, a, b, rfl, _⟩ := h
    rfl
  obtain ⟨o, ww, pr, a, b, rfl, ha, hb, hab, hO, q⟩ := h
  obtain ⟨f1, fd1, m1, b1, F1⟩ := G
  obtain ⟨dx, td, ad, ho, _⟩ := id hO
  refine ⟨_, pss_one (ps_ret (pe_cmpR (op_gtR hr.units0) (pe_meth (pv 0) T.cl m1 F1 hr b1 .nil pass0 (pa_cons (pv 1) pa_nil)) (pe_meth (pv 0) T.cl m1 F1 hr b1 .nil pass0 (pa_cons (pv 2) pa_nil)) (nomark _))), ?_⟩
  refine ⟨_, rfl, o, dx, _, rfl, ho, ord_no _ _ (by decide +kernel) (by decide +kernel), _, rfl, o, ww, pr, a, rfl, ha, hO, fun p H1 s1 h1 => ?_⟩
  refine ⟨_, rfl, o, dx, _, rfl, s1 _ _ ho, ord_no _ _ (by decide +kernel) (by decide +kernel), _, rfl, o, ww, pr, b, rfl, hb, hO.same s1, fun p2 H2 s2 h2 => ?_⟩
  refine ⟨p, p2, _, _, _, _, _, _, rfl, rfl, s2 _ _ h1, h2, ?_⟩
  rw [gt3_hi pr a b hab]
  exact q H2 (s1.trans s2)
end
end K78
end
section
set_option maxHeartbeats 4000000
namespace K78
open PySem PySem.Spec PyProof.Rows L2
open Classical
theorem GtK_cons {ww : Nat → Nat} {hi : Nat → Nat → Prop} {a b : Tm} {as bs : List Tm} : GtK ww hi (a :: as) (b :: bs) ↔ (a ≠ b ∧ Gt ww hi a b) ∨ (a = b ∧ GtK ww hi as bs) := Iff.rfl
theorem GtK_nil {ww : Nat → Nat} {hi : Nat → Nat → Prop} {bs : List Tm} : ¬ GtK ww hi [] bs := fun h => by cases bs <;> exact h
/-- names that are not the reserved one -/
def NoTrue (N : List Str) : Prop := ∀ i, i < 5 → N.getD i "" ≠ ("true" : Str)
theorem kids_len_hd {t u : Tm} (nt : t.isV = false) (nu : u.isV = false) (h : t.hd = u.hd) : t.kids.length = u.kids.length := (mt_kids (s := PSub.nil) nt nu h).2
section
variable {P : Program} {w : World} {K : PySem.W.Frag} {mg : Str → Option Value} {base : Heap} {N : List Str} {C : Addr}
/-! ### exceeds -/
def spExc (N : List Str) (C : Addr) (n : Nat) : Sp := fun vs H Q _ => ∃ (o : Addr) (ww : Nat → Nat) (pr : List Str) (t u : Tm) (x y : V), vs = [.ref o, x, y] ∧ OrdAt N C H o ww pr ∧ TmAt N H t x ∧ TmAt N H u y ∧ t.nest ≤ n ∧ u.nest ≤ n ∧ t.size ≤ 90000 ∧ u.size ≤ 90000 ∧
  ∀ b H', Same H H' → (b = true ↔ Gt ww (hiN N pr) t u) → Q (.bl b) H'
theorem ok_exc1 {n : Nat} (hN : NmOk N) (hT : NoTrue N) (h190 : n ≤ 180) (T : OrdC K C) (z1 : mg "range" = none) (z2 : mg "len" = none) (D : DM K C "exceeds" "Ordering.exceeds" s_O_exceeds ["self", "first", "second"]) (G1 : OkD P w K mg base 1 "is_variable" ["term"] (spIsVar N))
    (G2 : OkD P w K mg base (n + 3) "has_all_variables" ["first", "second"] (spHAV N (n + 1))) (G3 : OkM P w K mg base (n + 2) C "weight" ["self", "term"] (spOW N C (n + 1))) (G4 : OkM P w K mg base 2 C "ranks_higher" ["self", "first", "second"] (spRH N C))
    (G : OkM P w K mg base (n + 3) C "exceeds" ["self", "first", "second"] (spExc N C n)) : OkM P w K mg base (n + 4) C "exceeds" ["self", "first", "second"] (spExc N C (n + 1)) := by
  refine D.ok (k := n + 3) sc_O_exceeds (fun vs H Q E h => ?_) (fun f cdv A outer s H vs Q E hr h => ?_)
  · obtain ⟨o, ww, pr, t, u, x, y, rfl, _⟩ := h
    rfl
  obtain ⟨o, ww, pr, t, u, x, y, rfl, hO, ht, hu, hn, hm, hz, hz', q⟩ := h
  obtain ⟨f1, fd1, m1, k1, b1, F1, _⟩ := G1
  obtain ⟨f2, fd2, m2, k2, b2, F2, _⟩ := G2
  obtain ⟨f3, fd3, m3, b3, F3⟩ := G3
  obtain ⟨f4, fd4, m4, b4, F4⟩ := G4
  obtain ⟨f5, fd5, m5, b5, F5⟩ := G
  have hr1 : Room 1 _ := hr.mono (by omega)
  have hr2 : Room 2 _ := hr.mono (by omega)
  have hr3 : Room (n + 2) _ := hr.mono (by omega)
  have nd := sc_O_exceeds.nd
  refine ⟨_, pss_cons (ps_if (pt_not (pt_val (pe_call F2 hr rfl m2 k2 b2 .nil pass0 (pa_cons (pv 1) (pa_cons (pv 2) pa_nil))))) (pss_one (ps_ret pe_bl)) pss_nil)
    (pss_cons (ps_set (i := 3) nd rfl (Or.inl rfl) (pe_meth (pv 0) T.cl m3 F3 hr3 b3 .nil pass0 (pa_cons (pv 1) pa_nil)))
    (pss_cons (ps_set (i := 4) nd rfl (Or.inl rfl) (pe_meth (pv 0) T.cl m3 F3 hr3 b3 .nil pass0 (pa_cons (pv 2) pa_nil)))
    (pss_cons (ps_if (pt_cmpR op_ne (pv 3) (pv 4) (nomark _)) (pss_one (ps_ret (pe_cmpR op_gt (pv 3) (pv 4) (nomark _)))) pss_nil)
    (pss_cons (ps_if (PW.pt (pw_or (pt_val (pe_call F1 hr1 rfl m1 k1 b1 .nil pass0 (pa_cons (pv 1) pa_nil))) (pw_or1 (pt_val (pe_call F1 hr1 rfl m1 k1 b1 .nil pass0 (pa_cons (pv 2) pa_nil)))))) (pss_one (ps_ret pe_bl)) pss_nil)
    (pss_cons (ps_if (pt_cmpR op_ne (pe_ix ix_tup (pv 1) pe_int (fun _ _ => rfl)) (pe_ix ix_tup (pv 2) pe_int (fun _ _ => rfl)) (nomark _)) (pss_one (ps_ret (pe_meth (pv 0) T.cl m4 F4 hr2 b4 .nil pass0 (pa_cons (pe_ix ix_tup (pv 1) pe_int (fun _ _ => rfl)) (pa_cons (pe_ix ix_tup (pv 2) pe_int (fun _ _ => rfl)) pa_nil))))) pss_nil)
    (pss_cons (ps_for PassesOwn.never rfl (pi_range2 (by rfl) z1 (pa_cons pe_int (pa_cons (pe_callB call_len_seq (by rfl) z2 PySem.boot_len (pa_cons (pv 1) pa_nil)) pa_nil))) (pg_name (i := 5) nd rfl (Or.inl rfl))
      (pss_one (ps_if (pt_cmpR (op_neTm hN (hu2 hr)) (pe_ix ix_tup (pv 1) (pv 5) (fun _ _ => rfl)) (pe_ix ix_tup (pv 2) (pv 5) (fun _ _ => rfl)) (nomark _)) (pss_one (ps_ret (pe_meth (pv 0) T.cl m5 F5 hr b5 .nil pass0 (pa_cons (pe_ix ix_tup (pv 1) (pv 5) (fun _ _ => rfl)) (pa_cons (pe_ix ix_tup (pv 2) (pv 5) (fun _ _ => rfl)) pa_nil))))) pss_nil)))
    (pss_one (ps_ret pe_bl)))))))), ?_⟩
  obtain ⟨dx, td, ad, ho, _⟩ := id hO
  refine ⟨_, rfl, _, rfl, t, u, x, y, rfl, ht, hu, hn, hm, hz, hz', fun b H1 s1 hb => ⟨_, rfl, ?_⟩⟩
  cases b with
  | false =>
    refine iteT ?_
    refine q false H1 s1 ⟨fun h => (by cases h), fun h => ?_⟩
    have := hb.mpr ((Gt_iff t u).mp h).1
    cases this
  | true =>
    refine iteF ?_
    have hall : hasAll t u := hb.mp rfl
    refine ⟨_, rfl, o, dx, _, rfl, s1 _ _ ho, ord_no _ _ (by decide +kernel) (by decide +kernel), _, rfl, o, ww, pr, t, x, rfl, hO.same s1, ht.same s1, hn, fun H2 s2 => ?_⟩
    have s12 := s1.trans s2
    refine ⟨_, rfl, o, dx, _, rfl, s12 _ _ ho, ord_no _ _ (by decide +kernel) (by decide +kernel), _, rfl, o, ww, pr, u, y, rfl, hO.same s12, hu.same s12, hm, fun H3 s3 => ?_⟩
    have s13 := s12.trans s3
    refine ⟨_, rfl, _, rfl, rfl, _, rfl, ?_⟩
    by_cases ew : t.wt ww = u.wt ww
    · have e1 : (!decide (natV (t.wt ww) = natV (u.wt ww))) = false := by rw [decide_eq_true (by rw [ew])]; rfl
      rw [e1]
      refine iteF ?_
      refine ⟨_, rfl, t, x, rfl, ht.same s13, _, rfl, ?_⟩
      cases et : t.isV with
      | true =>
        refine iteT ?_
        refine iteT ?_
        refine q false H3 s13 ⟨fun h => (by cases h), fun h => ?_⟩
        obtain ⟨_, h | ⟨_, h, _⟩⟩ := (Gt_iff t u).mp h
        · omega
        · rw [et] at h; cases h
      | false =>
        refine iteF ?_
        refine ⟨_, rfl, u, y, rfl, hu.same s13, _, rfl, ?_⟩
        cases eu : u.isV with
        | true =>
          refine iteT ?_
          refine q false H3 s13 ⟨fun h => (by cases h), fun h => ?_⟩
          obtain ⟨_, h | ⟨_, _, h, _⟩⟩ := (Gt_iff t u).mp h
          · omega
          · rw [eu] at h; cases h
        | false =>
          refine iteF ?_
          obtain ⟨a, ys, rfl, h2, hk2⟩ := (ht.same s13).app et
          obtain ⟨b, zs, rfl, h3, hk3⟩ := (hu.same s13).app eu
          refine ⟨_, rfl, a, _, 0, _, rfl, rfl, SqT.of h2, atI_nat (j := 0) rfl, _, rfl, b, _, 0, _, rfl, rfl, SqT.of h3, atI_nat (j := 0) rfl, rfl, _, rfl, ?_⟩
          rw [sy_eq hN]
          by_cases eh : t.hd = u.hd
          · rw [decide_eq_true eh]
            refine iteF ?_
            have el := kids_len_hd et eu eh
            have ell : ys.length = zs.length := by rw [hk2.length, hk3.length, el]
            have hl2 : ys.length ≤ 2 := by rw [hk2.length]; exact kids_le t
            refine ⟨_, rfl, a, _, rfl, .inr (SqT.of h2), 1, _, rfl, ?_, ?_⟩
            · rw [List.length_cons]; omega
            have en : (((V.str (sy N t) :: ys).length : Int) - 1).toNat = ys.length := by rw [List.length_cons]; omega
            rw [en]
            have hgt : Gt ww (hiN N pr) t u ↔ GtK ww (hiN N pr) t.kids u.kids := by
              rw [Gt_iff]
              constructor
              · rintro ⟨_, h | ⟨_, _, _, ⟨h, _⟩ | ⟨_, h⟩⟩⟩
                · omega
                · exact absurd eh h
                · exact h
              · intro h
                exact ⟨hall, .inr ⟨ew, et, eu, .inr ⟨eh, h⟩⟩⟩
            refine for_range (lo := 1) (n := ys.length) (fun i σ H4 => ∃ (v : Option V), σ = [some (.ref o), some (.ref a), some (.ref b), some (natV (t.wt ww)), some (natV (u.wt ww)), v] ∧ H4 = H3 ∧ (Gt ww (hiN N pr) t u ↔ GtK ww (hiN N pr) (t.kids.drop i) (u.kids.drop i))) ?_ ?_ ?_
            · exact ⟨none, rfl, rfl, hgt⟩
            · rintro i σ H4 hi ⟨v, rfl, rfl, hg⟩
              have hy : ys[i]? = some ys[i] := List.getElem?_eq_getElem hi
              have hz2 : zs[i]? = some (zs[i]'(by omega)) := List.getElem?_eq_getElem _
              obtain ⟨tu, htu, hyu⟩ := hk2.get hy
              obtain ⟨uu, huu, hzu⟩ := hk3.get hz2
              rw [drop_at htu, drop_at huu, GtK_cons] at hg
              have hnt := kid_nest htu hn
              have hnu := kid_nest huu hm
              refine ⟨_, rfl, _, rfl, a, _, _, _, rfl, rfl, SqT.of h2, at_of (j := i + 1) (by omega) (by rw [List.getElem?_cons_succ]; exact hy), _, rfl, _, rfl, b, _, _, _, rfl, rfl, SqT.of h3, at_of (j := i + 1) (by omega) (by rw [List.getElem?_cons_succ]; exact hz2), tu, uu, hyu, hzu, by omega, _, rfl, ?_⟩
              by_cases eq : tu = uu
              · rw [decide_eq_true eq]
                refine iteF ?_
                refine ⟨some (.int (1 + (i : Int))), rfl, rfl, ?_⟩
                rw [hg]
                constructor
                · rintro (⟨h, _⟩ | ⟨_, h⟩)
                  · exact absurd eq h
                  · exact h
                · exact fun h => .inr ⟨eq, h⟩
              · rw [decide_eq_false eq]
                refine iteT ?_
                have hz3 := size_take_le htu
                have hz4 := size_take_le huu
                refine ⟨_, rfl, o, dx, _, rfl, s13 _ _ ho, ord_no _ _ (by decide +kernel) (by decide +kernel), _, rfl, _, rfl, a, _, _, _, rfl, rfl, SqT.of h2, at_of (j := i + 1) (by omega) (by rw [List.getElem?_cons_succ]; exact hy), _, rfl, _, rfl, b, _, _, _, rfl, rfl, SqT.of h3, at_of (j := i + 1) (by omega) (by rw [List.getElem?_cons_succ]; exact hz2), ?_⟩
                refine ⟨o, ww, pr, tu, uu, _, _, rfl, hO.same s13, hyu, hzu, hnt, hnu, by omega, by omega, fun b H5 s5 hb => ?_⟩
                refine q b H5 (s13.trans s5) ?_
                rw [hb, hg]
                constructor
                · exact fun h => .inl ⟨eq, h⟩
                · rintro (⟨_, h⟩ | ⟨h, _⟩)
                  · exact h
                  · exact absurd h eq
            · rintro σ H4 ⟨v, rfl, rfl, hg⟩
              refine q false H4 s13 ⟨fun h => (by cases h), fun h => ?_⟩
              rw [hg, hk2.length, List.drop_length] at h
              exact absurd h GtK_nil
          · rw [decide_eq_false eh]
            refine iteT ?_
            refine ⟨_, rfl, o, dx, _, rfl, s13 _ _ ho, ord_no _ _ (by decide +kernel) (by decide +kernel), _, rfl, a, _, 0, _, rfl, rfl, SqT.of h2, atI_nat (j := 0) rfl, _, rfl, b, _, 0, _, rfl, rfl, SqT.of h3, atI_nat (j := 0) rfl, ?_⟩
            refine ⟨o, ww, pr, sy N t, sy N u, rfl, hT _ (hd_lt t), hT _ (hd_lt u), fun e => eh (hN.inj _ _ (hd_lt t) (hd_lt u) e), hO.same s13, fun H5 s5 => ?_⟩
            refine q _ H5 (s13.trans s5) ?_
            rw [Gt_iff]
            constructor
            · exact fun h => ⟨hall, .inr ⟨ew, et, eu, .inl ⟨eh, h⟩⟩⟩
            · rintro ⟨_, h | ⟨_, _, _, ⟨_, h⟩ | ⟨h, _⟩⟩⟩
              · omega
              · exact h
              · exact absurd h eh
    · have e1 : (!decide (natV (t.wt ww) = natV (u.wt ww))) = true := by rw [decide_eq_false (fun h => by injection h with h; omega)]; rfl
      rw [e1]
      refine iteT ?_
      refine ⟨_, rfl, _, rfl, _, _, rfl, rfl, ?_⟩
      refine q _ H3 s13 ?_
      rw [decide_eq_true_eq, Gt_iff]
      constructor
      · exact fun h => ⟨hall, .inl (by omega)⟩
      · rintro ⟨_, h | ⟨h, _⟩⟩
        · omega
        · exact absurd h ew
end
end K78
end
section
set_option maxHeartbeats 4000000
namespace K78
open PySem PySem.Spec PyProof.Rows L2
open Classical
/-- what a comparison says -/
def CmpR (G : Tm → Tm → Prop) (t u : Tm) (s : Str) : Prop := (s = "equal" ∧ t = u) ∨ (s = "greater" ∧ t ≠ u ∧ G t u) ∨ (s = "less" ∧ t ≠ u ∧ ¬ G t u ∧ G u t) ∨ (s = "incomparable" ∧ t ≠ u ∧ ¬ G t u ∧ ¬ G u t)
section
variable {P : Program} {w : World} {K : PySem.W.Frag} {mg : Str → Option Value} {base : Heap} {N : List Str} {C : Addr}
theorem ok_exc (hN : NmOk N) (hT : NoTrue N) (T : OrdC K C) (z1 : mg "range" = none) (z2 : mg "len" = none) (D : DM K C "exceeds" "Ordering.exceeds" s_O_exceeds ["self", "first", "second"]) (G1 : OkD P w K mg base 1 "is_variable" ["term"] (spIsVar N))
    (G2 : ∀ n, OkD P w K mg base (n + 2) "has_all_variables" ["first", "second"] (spHAV N n)) (G3 : ∀ n, OkM P w K mg base (n + 1) C "weight" ["self", "term"] (spOW N C n)) (G4 : OkM P w K mg base 2 C "ranks_higher" ["self", "first", "second"] (spRH N C)) :
    ∀ n, n ≤ 180 → OkM P w K mg base (n + 3) C "exceeds" ["self", "first", "second"] (spExc N C n)
  | 0, _ => (D.ok0 fun vs H Q E ⟨o, ww, pr, t, u, x, y, _, _, _, _, hn, _⟩ => absurd hn (by have := nest_pos t; omega)).mono (Nat.zero_le _)
  | n + 1, h => ok_exc1 hN hT (by omega) T z1 z2 D G1 (G2 (n + 1)) (G3 (n + 1)) G4 (ok_exc hN hT T z1 z2 D G1 G2 G3 G4 n (by omega))
def spCmp (N : List Str) (C : Addr) (n : Nat) : Sp := fun vs H Q _ => ∃ (o : Addr) (ww : Nat → Nat) (pr : List Str) (t u : Tm) (x y : V), vs = [.ref o, x, y] ∧ OrdAt N C H o ww pr ∧ TmAt N H t x ∧ TmAt N H u y ∧ t.nest ≤ n ∧ u.nest ≤ n ∧ t.size ≤ 90000 ∧ u.size ≤ 90000 ∧
  ∀ s H', Same H H' → CmpR (Gt ww (hiN N pr)) t u s → Q (.str s) H'
theorem ok_ocmp {n : Nat} (hN : NmOk N) (hn180 : n ≤ 180) (T : OrdC K C) (D : DM K C "compare" "Ordering.compare" s_O_compare ["self", "first", "second"]) (G : OkM P w K mg base (n + 3) C "exceeds" ["self", "first", "second"] (spExc N C n)) : OkM P w K mg base (n + 4) C "compare" ["self", "first", "second"] (spCmp N C n) := by
  refine D.ok (k := n + 3) sc_O_compare (fun vs H Q E h => ?_) (fun f cdv A outer s H vs Q E hr h => ?_)
  · obtain ⟨o, ww, pr, t, u, x, y, rfl, _⟩ := h
    rfl
  obtain ⟨o, ww, pr, t, u, x, y, rfl, hO, ht, hu, hn, hm, hz, hz', q⟩ := h
  obtain ⟨f5, fd5, m5, b5, F5⟩ := G
  obtain ⟨dx, td, ad, ho, _⟩ := id hO
  refine ⟨_, pss_cons (ps_if (pt_cmpR (op_eqTm hN (hu2 hr)) (pv 1) (pv 2) (nomark _)) (pss_one (ps_ret pe_str)) pss_nil)
    (pss_cons (ps_if (pt_val (pe_meth (pv 0) T.cl m5 F5 hr b5 .nil pass0 (pa_cons (pv 1) (pa_cons (pv 2) pa_nil)))) (pss_one (ps_ret pe_str)) pss_nil)
    (pss_cons (ps_if (pt_val (pe_meth (pv 0) T.cl m5 F5 hr b5 .nil pass0 (pa_cons (pv 2) (pa_cons (pv 1) pa_nil)))) (pss_one (ps_ret pe_str)) pss_nil)
    (pss_one (ps_ret pe_str)))), ?_⟩
  refine ⟨_, rfl, _, rfl, t, u, ht, hu, by omega, _, rfl, ?_⟩
  by_cases e : t = u
  · rw [decide_eq_true e]
    exact iteT (q _ H (Same.refl H) (.inl ⟨rfl, e⟩))
  · rw [decide_eq_false e]
    refine iteF ?_
    refine ⟨_, rfl, o, dx, _, rfl, ho, ord_no _ _ (by decide +kernel) (by decide +kernel), _, rfl, _, rfl, o, ww, pr, t, u, x, y, rfl, hO, ht, hu, hn, hm, hz, hz', fun b H1 s1 hb => ⟨_, rfl, ?_⟩⟩
    cases b with
    | true => exact iteT (q _ H1 s1 (.inr (.inl ⟨rfl, e, hb.mp rfl⟩)))
    | false =>
      refine iteF ?_
      have ng : ¬ Gt ww (hiN N pr) t u := fun h => by have := hb.mpr h; cases this
      refine ⟨_, rfl, o, dx, _, rfl, s1 _ _ ho, ord_no _ _ (by decide +kernel) (by decide +kernel), _, rfl, _, rfl, o, ww, pr, u, t, y, x, rfl, hO.same s1, hu.same s1, ht.same s1, hm, hn, hz', hz, fun b H2 s2 hb2 => ⟨_, rfl, ?_⟩⟩
      cases b with
      | true => exact iteT (q _ H2 (s1.trans s2) (.inr (.inr (.inl ⟨rfl, e, ng, hb2.mp rfl⟩))))
      | false =>
        refine iteF ?_
        exact q _ H2 (s1.trans s2) (.inr (.inr (.inr ⟨rfl, e, ng, fun h => by have := hb2.mpr h; cases this⟩)))
/-! ### _law_higher, _law_greater, _law_compare -/
def spLHi : Sp := fun vs H Q _ => ∃ (a b : Str) (pd : Addr) (pr : List Str), vs = [.str a, .str b, .ref pd] ∧ a ≠ "true" ∧ b ≠ "true" ∧ H pd = some (.lst (pr.map V.str)) ∧ Q (.bl (hiS pr a b)) H
theorem ok_lhi (D : DF K mg "_law_higher" s_law_higher ["_law_first", "_law_second", "_law_precedence_here"]) : OkD P w K mg base 1 "_law_higher" ["_law_first", "_law_second", "_law_precedence_here"] spLHi := by
  refine D.ok sc_law_higher (fun vs H Q E h => ?_) (fun f cdv A outer s H vs Q E hr h => ?_)
  · obtain ⟨a, b, pd, pr, rfl, _⟩ := h
    rfl
  obtain ⟨a, b, pd, pr, rfl, ha, hb, hp, q⟩ := h
  refine ⟨_, pss_cons (ps_if (pt_cmpR op_eq (pv 0) (pv 1) (nomark _)) (pss_one (ps_ret pe_bl)) pss_nil)
    (pss_cons (ps_if (PW.pt (pw_or (pt_cmpR op_eq (pv 0) pe_str (nomark _)) (pw_or1 (pt_cmpR op_eq (pv 1) pe_str (nomark _))))) (pss_one (ps_ret (pe_cmpR op_eq (pv 1) pe_str (nomark _)))) pss_nil)
    (pss_cons (ps_if (PW.pt (pw_and (pt_cmpR op_in_seq (pv 0) (pv 2) (by rfl)) (pw_and1 (pt_cmpR op_in_seq (pv 1) (pv 2) (by rfl))))) (pss_one (ps_ret (pe_cmpR op_gt
        (pe_bm PySem.F.plainAttrs_list PySem.F.slot_list_index PySem.F.type_list_index mt_ixS (pv 2) (pa_cons (pv 0) pa_nil)) (pe_bm PySem.F.plainAttrs_list PySem.F.slot_list_index PySem.F.type_list_index mt_ixS (pv 2) (pa_cons (pv 1) pa_nil)) (nomark _)))) pss_nil)
    (pss_cons (ps_if (PW.pt (pw_or (pt_cmpR op_in_seq (pv 0) (pv 2) (by rfl)) (pw_or1 (pt_cmpR op_in_seq (pv 1) (pv 2) (by rfl))))) (pss_one (ps_ret (pe_cmpR op_in_seq (pv 1) (pv 2) (by rfl)))) pss_nil)
    (pss_one (ps_ret (pe_cmpR op_gt_str (pv 0) (pv 1) (nomark _))))))), ?_⟩
  unfold hiS at q
  refine ⟨_, rfl, _, rfl, rfl, _, rfl, ?_⟩
  by_cases e : a = b
  · rw [decide_eq_true (by rw [e])]
    rw [if_pos e] at q
    exact iteT q
  · rw [decide_eq_false (fun h => e (V.str.inj h))]
    rw [if_neg e] at q
    refine iteF ?_
    refine ⟨_, rfl, rfl, _, rfl, ?_⟩
    rw [decide_eq_false (fun h => ha (V.str.inj h))]
    refine iteF ?_
    refine ⟨_, rfl, rfl, _, rfl, ?_⟩
    rw [decide_eq_false (fun h => hb (V.str.inj h))]
    refine iteF ?_
    refine ⟨_, rfl, _, rfl, pd, _, rfl, .inl (SqL.of hp), rfl, strV_flat pr, _, rfl, ?_⟩
    rw [if_neg (by decide), inV_str]
    by_cases h1 : a ∈ pr
    · rw [decide_eq_true h1]
      refine iteT ?_
      refine ⟨_, rfl, _, rfl, pd, _, rfl, .inl (SqL.of hp), rfl, strV_flat pr, _, rfl, ?_⟩
      rw [if_neg (by decide), inV_str]
      by_cases h2 : b ∈ pr
      · rw [decide_eq_true h2]
        rw [if_pos (⟨h1, h2⟩ : a ∈ pr ∧ b ∈ pr)] at q
        refine iteT ?_
        refine ⟨_, rfl, .inl ⟨rfl, _, SqL.of hp⟩, _, rfl, pd, pr, a, rfl, rfl, hp, h1, _, rfl, .inl ⟨rfl, _, SqL.of hp⟩, _, rfl, pd, pr, b, rfl, rfl, hp, h2, _, _, rfl, rfl, ?_⟩
        have e1 : decide ((ix pr b : Int) < (ix pr a : Int)) = decide (ix pr b < ix pr a) := by rw [Bool.eq_iff_iff, decide_eq_true_eq, decide_eq_true_eq]; omega
        show Q (.bl (decide ((ix pr b : Int) < (ix pr a : Int)))) H
        rw [e1]
        exact q
      · rw [decide_eq_false h2]
        rw [if_neg (fun h => h2 h.2 : ¬ (a ∈ pr ∧ b ∈ pr)), if_pos (.inl h1 : a ∈ pr ∨ b ∈ pr), decide_eq_false h2] at q
        refine iteF ?_
        refine ⟨_, rfl, _, rfl, pd, _, rfl, .inl (SqL.of hp), rfl, strV_flat pr, _, rfl, ?_⟩
        rw [if_neg (by decide), inV_str, decide_eq_true h1]
        refine iteT ?_
        refine iteT ?_
        refine ⟨_, rfl, _, rfl, pd, _, rfl, .inl (SqL.of hp), rfl, strV_flat pr, ?_⟩
        rw [if_neg (by decide), inV_str, decide_eq_false h2]
        exact q
    · rw [decide_eq_false h1]
      refine iteF ?_
      refine iteF ?_
      rw [if_neg (fun h => h1 h.1 : ¬ (a ∈ pr ∧ b ∈ pr))] at q
      refine ⟨_, rfl, _, rfl, pd, _, rfl, .inl (SqL.of hp), rfl, strV_flat pr, _, rfl, ?_⟩
      rw [if_neg (by decide), inV_str, decide_eq_false h1]
      refine iteF ?_
      refine ⟨_, rfl, _, rfl, pd, _, rfl, .inl (SqL.of hp), rfl, strV_flat pr, _, rfl, ?_⟩
      rw [if_neg (by decide), inV_str]
      by_cases h2 : b ∈ pr
      · rw [if_pos (.inr h2 : a ∈ pr ∨ b ∈ pr), decide_eq_true h2] at q
        rw [decide_eq_true h2]
        refine iteT ?_
        refine ⟨_, rfl, _, rfl, pd, _, rfl, .inl (SqL.of hp), rfl, strV_flat pr, ?_⟩
        rw [if_neg (by decide), inV_str, decide_eq_true h2]
        exact q
      · rw [if_neg (fun h => h.elim h1 h2 : ¬ (a ∈ pr ∨ b ∈ pr))] at q
        rw [decide_eq_false h2]
        refine iteF ?_
        exact ⟨_, rfl, _, rfl, _, _, rfl, rfl, q⟩
def spLGt (N : List Str) (n : Nat) : Sp := fun vs H Q _ => ∃ (wd pd : Addr) (ww : Nat → Nat) (pr : List Str) (t u : Tm) (x y : V), vs = [x, y, .ref wd, .ref pd] ∧ WtAt N H wd ww ∧ H pd = some (.lst (pr.map V.str)) ∧ TmAt N H t x ∧ TmAt N H u y ∧ t.nest ≤ n ∧ u.nest ≤ n ∧ t.size ≤ 90000 ∧ u.size ≤ 90000 ∧
  ∀ b H', Same H H' → (b = true ↔ Gt ww (hiN N pr) t u) → Q (.bl b) H'
theorem ok_lgt1 {n : Nat} (hN : NmOk N) (hT : NoTrue N) (h190 : n ≤ 180) (z0 : mg "isinstance" = none) (zt : mg "tuple" = none) (z1 : mg "range" = none) (z2 : mg "len" = none) (D : DF K mg "_law_greater" s_law_greater ["_law_first", "_law_second", "_law_weights_here", "_law_precedence_here"])
    (G1 : OkD P w K mg base (n + 1) "_law_vars" ["_law_term_here"] (spLVarsT N (n + 1))) (G2 : OkD P w K mg base (n + 1) "_law_count" ["_law_term_here", "_law_name"] (spLCount N (n + 1))) (G3 : OkD P w K mg base (n + 1) "_law_weight" ["_law_term_here", "_law_weights_here"] (spLWeight N (n + 1))) (G4 : OkD P w K mg base 1 "_law_higher" ["_law_first", "_law_second", "_law_precedence_here"] spLHi)
    (G : OkD P w K mg base (n + 1) "_law_greater" ["_law_first", "_law_second", "_law_weights_here", "_law_precedence_here"] (spLGt N n)) : OkD P w K mg base (n + 2) "_law_greater" ["_law_first", "_law_second", "_law_weights_here", "_law_precedence_here"] (spLGt N (n + 1)) := by
  refine D.ok (k := n + 1) sc_law_greater (fun vs H Q E h => ?_) (fun f cdv A outer s H vs Q E hr h => ?_)
  · obtain ⟨wd, pd, ww, pr, t, u, x, y, rfl, _⟩ := h
    rfl
  obtain ⟨wd, pd, ww, pr, t, u, x, y, rfl, hW, hP, ht, hu, hn, hm, hz, hz', q⟩ := h
  obtain ⟨f1, fd1, m1, k1, b1, F1, _⟩ := G1
  obtain ⟨f2, fd2, m2, k2, b2, F2, _⟩ := G2
  obtain ⟨f3, fd3, m3, k3, b3, F3, _⟩ := G3
  obtain ⟨f4, fd4, m4, k4, b4, F4, _⟩ := G4
  obtain ⟨f5, fd5, m5, k5, b5, F5, _⟩ := G
  have hr1 : Room 1 _ := hr.mono (by omega)
  have nd := sc_law_greater.nd
  refine ⟨_, pss_cons (ps_for PassesOwn.never rfl (pi_list (pe_call F1 hr rfl m1 k1 b1 .nil pass0 (pa_cons (pv 1) pa_nil))) (pg_name (i := 4) nd rfl (Or.inl rfl))
      (pss_one (ps_if (pt_cmpR op_lt (pe_call F2 hr rfl m2 k2 b2 .nil pass0 (pa_cons (pv 0) (pa_cons (pv 4) pa_nil))) (pe_call F2 hr rfl m2 k2 b2 .nil pass0 (pa_cons (pv 1) (pa_cons (pv 4) pa_nil))) (nomark _)) (pss_one (ps_ret pe_bl)) pss_nil)))
    (pss_cons (ps_set (i := 5) nd rfl (Or.inl rfl) (pe_op op_sub (pe_call F3 hr rfl m3 k3 b3 .nil pass0 (pa_cons (pv 0) (pa_cons (pv 2) pa_nil))) (pe_call F3 hr rfl m3 k3 b3 .nil pass0 (pa_cons (pv 1) (pa_cons (pv 2) pa_nil)))))
    (pss_cons (ps_if (pt_cmpR op_ne (pv 5) pe_int (nomark _)) (pss_one (ps_ret (pe_cmpR op_gt (pv 5) pe_int (nomark _)))) pss_nil)
    (pss_cons (ps_if (PW.pt (pw_or (pt_not (pt_val (pe_callB (call_isTm (N := N)) (by rfl) z0 (by decide +kernel) (pa_cons (pv 0) (pa_cons (pe_bltn (v := .ty "tuple") (by rfl) zt (by decide +kernel) rfl) pa_nil))))) (pw_or1 (pt_not (pt_val (pe_callB (call_isTm (N := N)) (by rfl) z0 (by decide +kernel) (pa_cons (pv 1) (pa_cons (pe_bltn (v := .ty "tuple") (by rfl) zt (by decide +kernel) rfl) pa_nil)))))))) (pss_one (ps_ret pe_bl)) pss_nil)
    (pss_cons (ps_if (pt_cmpR op_ne (pe_ix ix_tup (pv 0) pe_int (fun _ _ => rfl)) (pe_ix ix_tup (pv 1) pe_int (fun _ _ => rfl)) (nomark _)) (pss_one (ps_ret (pe_call F4 hr1 rfl m4 k4 b4 .nil pass0 (pa_cons (pe_ix ix_tup (pv 0) pe_int (fun _ _ => rfl)) (pa_cons (pe_ix ix_tup (pv 1) pe_int (fun _ _ => rfl)) (pa_cons (pv 3) pa_nil)))))) pss_nil)
    (pss_cons (ps_for PassesOwn.never rfl (pi_range2 (by rfl) z1 (pa_cons pe_int (pa_cons (pe_callB call_len_seq (by rfl) z2 PySem.boot_len (pa_cons (pv 0) pa_nil)) pa_nil))) (pg_name (i := 6) nd rfl (Or.inl rfl))
      (pss_one (ps_if (pt_cmpR (op_neTm hN (hu2 hr)) (pe_ix ix_tup (pv 0) (pv 6) (fun _ _ => rfl)) (pe_ix ix_tup (pv 1) (pv 6) (fun _ _ => rfl)) (nomark _)) (pss_one (ps_ret (pe_call F5 hr rfl m5 k5 b5 .nil pass0 (pa_cons (pe_ix ix_tup (pv 0) (pv 6) (fun _ _ => rfl)) (pa_cons (pe_ix ix_tup (pv 1) (pv 6) (fun _ _ => rfl)) (pa_cons (pv 2) (pa_cons (pv 3) pa_nil))))))) pss_nil)))
    (pss_one (ps_ret pe_bl))))))), ?_⟩
  refine ⟨_, rfl, u, y, rfl, hu, hm, few_size hz', fun p ns H1 hp0 s1 hV hp1 => ?_⟩
  refine ⟨p, rfl, ⟨_, SqL.of hp1⟩, ?_⟩
  refine for_list (K := K) (a := p) (xs := ns.map natV) (fun i σ H2 => ∃ v, σ = [some x, some y, some (.ref wd), some (.ref pd), v, none, none] ∧ Same H1 H2 ∧ ∀ m, m ∈ ns.take i → u.cnt m ≤ t.cnt m) ?_ ?_ ?_ ?_
  · exact ⟨none, rfl, Same.refl _, fun m h => by simp at h⟩
  · rintro i σ H2 _ ⟨v, _, s2, _⟩
    exact SqL.of (s2 _ _ hp1)
  · rintro i z σ H2 hi ⟨v, rfl, s2, hc⟩
    obtain ⟨m, hmi, rfl⟩ : ∃ m, ns[i]? = some m ∧ natV m = z := by
      rw [List.getElem?_map, Option.map_eq_some_iff] at hi; exact hi
    have s12 := s1.trans s2
    refine ⟨_, rfl, _, rfl, t, x, m, rfl, ht.same s12, hn, fun H3 s3 => ?_⟩
    refine ⟨_, rfl, _, rfl, u, y, m, rfl, hu.same (s12.trans s3), hm, fun H4 s4 => ?_⟩
    refine ⟨_, _, rfl, rfl, _, rfl, ?_⟩
    refine ite2 (fun c => ?_) (fun c => ?_)
    · have c' := of_decide_eq_true c
      refine q false H4 (s12.trans (s3.trans s4)) ⟨fun h => (by cases h), fun h => ?_⟩
      have := ((Gt_iff t u).mp h).1 m
      omega
    · have c' : ¬ ((t.cnt m : Nat) : Int) < (u.cnt m : Nat) := of_decide_eq_false (Bool.eq_false_iff.mpr c)
      refine ⟨some (natV m), rfl, s2.trans (s3.trans s4), fun m' h => ?_⟩
      rcases (mem_take1 hmi).mp h with h | rfl
      · exact hc m' h
      · omega
  · rintro σ H2 ⟨v, rfl, s2, hc⟩
    have s12 := s1.trans s2
    have hall : hasAll t u := fun m => by
      rw [List.length_map, List.take_length] at hc
      by_cases hm : m ∈ ns
      · exact hc m hm
      · have hno : ¬ u.has m := fun h => hm ((hV.1 m).mpr h)
        have h0 : ∀ u : Tm, ¬ u.has m → u.cnt m = 0 := by
          intro u
          induction u with
          | v n => intro h; simp only [Tm.has] at h; simp only [Tm.cnt]; rw [if_neg h]
          | c _ => intro _; rfl
          | f u ih => intro h; exact ih h
          | g a b iha ihb => intro h; simp only [Tm.has] at h; simp only [Tm.cnt]; rw [iha (fun q => h (.inl q)), ihb (fun q => h (.inr q))]
        rw [h0 u hno]; exact Nat.zero_le _
    refine ⟨_, rfl, _, rfl, t, x, wd, ww, rfl, ht.same s12, hW.same s12, hn, fun H3 s3 => ?_⟩
    have s13 := s12.trans s3
    refine ⟨_, rfl, _, rfl, u, y, wd, ww, rfl, hu.same s13, hW.same s13, hm, fun H4 s4 => ?_⟩
    have s14 := s13.trans s4
    refine ⟨_, _, rfl, rfl, ?_⟩
    refine ⟨_, rfl, rfl, _, rfl, ?_⟩
    by_cases ew : t.wt ww = u.wt ww
    · have e1 : (!decide (V.int ((t.wt ww : Int) - (u.wt ww : Int)) = V.int 0)) = false := by rw [decide_eq_true (by congr 1; omega)]; rfl
      rw [e1]
      refine iteF ?_
      refine ⟨_, rfl, t, x, rfl, ht.same s14, _, rfl, ?_⟩
      cases et : t.isV with
      | true =>
        refine iteT ?_
        refine iteT ?_
        refine q false H4 s14 ⟨fun h => (by cases h), fun h => ?_⟩
        obtain ⟨_, h | ⟨_, h, _⟩⟩ := (Gt_iff t u).mp h
        · omega
        · rw [et] at h; cases h
      | false =>
        refine iteF ?_
        refine ⟨_, rfl, u, y, rfl, hu.same s14, _, rfl, ?_⟩
        cases eu : u.isV with
        | true =>
          refine iteT ?_
          refine q false H4 s14 ⟨fun h => (by cases h), fun h => ?_⟩
          obtain ⟨_, h | ⟨_, _, h, _⟩⟩ := (Gt_iff t u).mp h
          · omega
          · rw [eu] at h; cases h
        | false =>
          refine iteF ?_
          obtain ⟨a, ys, rfl, h2, hk2⟩ := (ht.same s14).app et
          obtain ⟨b, zs, rfl, h3, hk3⟩ := (hu.same s14).app eu
          refine ⟨_, rfl, a, _, 0, _, rfl, rfl, SqT.of h2, atI_nat (j := 0) rfl, _, rfl, b, _, 0, _, rfl, rfl, SqT.of h3, atI_nat (j := 0) rfl, rfl, _, rfl, ?_⟩
          rw [sy_eq hN]
          by_cases eh : t.hd = u.hd
          · rw [decide_eq_true eh]
            refine iteF ?_
            have el := kids_len_hd et eu eh
            have ell : ys.length = zs.length := by rw [hk2.length, hk3.length, el]
            have hl2 : ys.length ≤ 2 := by rw [hk2.length]; exact kids_le t
            refine ⟨_, rfl, a, _, rfl, .inr (SqT.of h2), 1, _, rfl, ?_, ?_⟩
            · rw [List.length_cons]; omega
            have en : (((V.str (sy N t) :: ys).length : Int) - 1).toNat = ys.length := by rw [List.length_cons]; omega
            rw [en]
            have hgt : Gt ww (hiN N pr) t u ↔ GtK ww (hiN N pr) t.kids u.kids := by
              rw [Gt_iff]
              constructor
              · rintro ⟨_, h | ⟨_, _, _, ⟨h, _⟩ | ⟨_, h⟩⟩⟩
                · omega
                · exact absurd eh h
                · exact h
              · intro h
                exact ⟨hall, .inr ⟨ew, et, eu, .inr ⟨eh, h⟩⟩⟩
            refine for_range (lo := 1) (n := ys.length) (fun i σ H5 => ∃ (v v' v'' : Option V), σ = [some (.ref a), some (.ref b), some (.ref wd), some (.ref pd), v, v', v''] ∧ H5 = H4 ∧ (Gt ww (hiN N pr) t u ↔ GtK ww (hiN N pr) (t.kids.drop i) (u.kids.drop i))) ?_ ?_ ?_
            · exact ⟨_, _, _, rfl, rfl, hgt⟩
            · rintro i σ H5 hi ⟨v, v', v'', rfl, rfl, hg⟩
              have hy : ys[i]? = some ys[i] := List.getElem?_eq_getElem hi
              have hz2 : zs[i]? = some (zs[i]'(by omega)) := List.getElem?_eq_getElem _
              obtain ⟨tu, htu, hyu⟩ := hk2.get hy
              obtain ⟨uu, huu, hzu⟩ := hk3.get hz2
              rw [drop_at htu, drop_at huu, GtK_cons] at hg
              have hnt := kid_nest htu hn
              have hnu := kid_nest huu hm
              refine ⟨_, rfl, _, rfl, a, _, _, _, rfl, rfl, SqT.of h2, at_of (j := i + 1) (by omega) (by rw [List.getElem?_cons_succ]; exact hy), _, rfl, _, rfl, b, _, _, _, rfl, rfl, SqT.of h3, at_of (j := i + 1) (by omega) (by rw [List.getElem?_cons_succ]; exact hz2), tu, uu, hyu, hzu, by omega, _, rfl, ?_⟩
              by_cases eq : tu = uu
              · rw [decide_eq_true eq]
                refine iteF ?_
                refine ⟨v, v', some (.int (1 + (i : Int))), rfl, rfl, ?_⟩
                rw [hg]
                constructor
                · rintro (⟨h, _⟩ | ⟨_, h⟩)
                  · exact absurd eq h
                  · exact h
                · exact fun h => .inr ⟨eq, h⟩
              · rw [decide_eq_false eq]
                refine iteT ?_
                have hz3 := size_take_le htu
                have hz4 := size_take_le huu
                refine ⟨_, rfl, _, rfl, a, _, _, _, rfl, rfl, SqT.of h2, at_of (j := i + 1) (by omega) (by rw [List.getElem?_cons_succ]; exact hy), _, rfl, _, rfl, b, _, _, _, rfl, rfl, SqT.of h3, at_of (j := i + 1) (by omega) (by rw [List.getElem?_cons_succ]; exact hz2), _, rfl, _, rfl, ?_⟩
                refine ⟨wd, pd, ww, pr, tu, uu, _, _, rfl, hW.same s14, s14 _ _ hP, hyu, hzu, hnt, hnu, by omega, by omega, fun b H6 s6 hb => ?_⟩
                refine q b H6 (s14.trans s6) ?_
                rw [hb, hg]
                constructor
                · exact fun h => .inl ⟨eq, h⟩
                · rintro (⟨_, h⟩ | ⟨h, _⟩)
                  · exact h
                  · exact absurd h eq
            · rintro σ H5 ⟨v, v', v'', rfl, rfl, hg⟩
              refine q false H5 s14 ⟨fun h => (by cases h), fun h => ?_⟩
              rw [hg, hk2.length, List.drop_length] at h
              exact absurd h GtK_nil
          · rw [decide_eq_false eh]
            refine iteT ?_
            refine ⟨_, rfl, a, _, 0, _, rfl, rfl, SqT.of h2, atI_nat (j := 0) rfl, _, rfl, b, _, 0, _, rfl, rfl, SqT.of h3, atI_nat (j := 0) rfl, _, rfl, ?_⟩
            refine ⟨sy N t, sy N u, pd, pr, rfl, hT _ (hd_lt t), hT _ (hd_lt u), s14 _ _ hP, ?_⟩
            refine q _ H4 s14 ?_
            rw [Gt_iff]
            constructor
            · exact fun h => ⟨hall, .inr ⟨ew, et, eu, .inl ⟨eh, h⟩⟩⟩
            · rintro ⟨_, h | ⟨_, _, _, ⟨_, h⟩ | ⟨h, _⟩⟩⟩
              · omega
              · exact h
              · exact absurd h eh
    · have e1 : (!decide (V.int ((t.wt ww : Int) - (u.wt ww : Int)) = V.int 0)) = true := by rw [decide_eq_false (fun h => by injection h with h; omega)]; rfl
      rw [e1]
      refine iteT ?_
      refine ⟨_, rfl, _, _, rfl, rfl, ?_⟩
      refine q _ H4 s14 ?_
      rw [decide_eq_true_eq, Gt_iff]
      constructor
      · exact fun h => ⟨hall, .inl (by omega)⟩
      · rintro ⟨_, h | ⟨h, _⟩⟩
        · omega
        · exact absurd h ew
theorem ok_lgt (hN : NmOk N) (hT : NoTrue N) (z0 : mg "isinstance" = none) (zt : mg "tuple" = none) (z1 : mg "range" = none) (z2 : mg "len" = none) (D : DF K mg "_law_greater" s_law_greater ["_law_first", "_law_second", "_law_weights_here", "_law_precedence_here"])
    (G1 : ∀ n, OkD P w K mg base n "_law_vars" ["_law_term_here"] (spLVarsT N n)) (G2 : ∀ n, OkD P w K mg base n "_law_count" ["_law_term_here", "_law_name"] (spLCount N n)) (G3 : ∀ n, OkD P w K mg base n "_law_weight" ["_law_term_here", "_law_weights_here"] (spLWeight N n)) (G4 : OkD P w K mg base 1 "_law_higher" ["_law_first", "_law_second", "_law_precedence_here"] spLHi) :
    ∀ n, n ≤ 180 → OkD P w K mg base (n + 1) "_law_greater" ["_law_first", "_law_second", "_law_weights_here", "_law_precedence_here"] (spLGt N n)
  | 0, _ => (D.ok0 fun vs H Q E ⟨wd, pd, ww, pr, t, u, x, y, _, _, _, _, _, hn, _⟩ => absurd hn (by have := nest_pos t; omega)).mono (Nat.zero_le _)
  | n + 1, h => ok_lgt1 hN hT (by omega) z0 zt z1 z2 D (G1 (n + 1)) (G2 (n + 1)) (G3 (n + 1)) G4 (ok_lgt hN hT z0 zt z1 z2 D G1 G2 G3 G4 n (by omega))
def spLCmp (N : List Str) (n : Nat) : Sp := fun vs H Q _ => ∃ (wd pd : Addr) (ww : Nat → Nat) (pr : List Str) (t u : Tm) (x y : V), vs = [x, y, .ref wd, .ref pd] ∧ WtAt N H wd ww ∧ H pd = some (.lst (pr.map V.str)) ∧ TmAt N H t x ∧ TmAt N H u y ∧ t.nest ≤ n ∧ u.nest ≤ n ∧ t.size ≤ 90000 ∧ u.size ≤ 90000 ∧
  ∀ s H', Same H H' → CmpR (Gt ww (hiN N pr)) t u s → Q (.str s) H'
theorem ok_lcmp {n : Nat} (hN : NmOk N) (hn180 : n ≤ 180) (D : DF K mg "_law_compare" s_law_compare ["_law_first", "_law_second", "_law_weights_here", "_law_precedence_here"]) (G : OkD P w K mg base (n + 1) "_law_greater" ["_law_first", "_law_second", "_law_weights_here", "_law_precedence_here"] (spLGt N n)) : OkD P w K mg base (n + 2) "_law_compare" ["_law_first", "_law_second", "_law_weights_here", "_law_precedence_here"] (spLCmp N n) := by
  refine D.ok (k := n + 1) sc_law_compare (fun vs H Q E h => ?_) (fun f cdv A outer s H vs Q E hr h => ?_)
  · obtain ⟨wd, pd, ww, pr, t, u, x, y, rfl, _⟩ := h
    rfl
  obtain ⟨wd, pd, ww, pr, t, u, x, y, rfl, hW, hP, ht, hu, hn, hm, hz, hz', q⟩ := h
  obtain ⟨f5, fd5, m5, k5, b5, F5, _⟩ := G
  refine ⟨_, pss_cons (ps_if (pt_cmpR (op_eqTm hN (hu2 hr)) (pv 0) (pv 1) (nomark _)) (pss_one (ps_ret pe_str)) pss_nil)
    (pss_cons (ps_if (pt_val (pe_call F5 hr rfl m5 k5 b5 .nil pass0 (pa_cons (pv 0) (pa_cons (pv 1) (pa_cons (pv 2) (pa_cons (pv 3) pa_nil)))))) (pss_one (ps_ret pe_str)) pss_nil)
    (pss_cons (ps_if (pt_val (pe_call F5 hr rfl m5 k5 b5 .nil pass0 (pa_cons (pv 1) (pa_cons (pv 0) (pa_cons (pv 2) (pa_cons (pv 3) pa_nil)))))) (pss_one (ps_ret pe_str)) pss_nil)
    (pss_one (ps_ret pe_str)))), ?_⟩
  refine ⟨_, rfl, _, rfl, t, u, ht, hu, by omega, _, rfl, ?_⟩
  by_cases e : t = u
  · rw [decide_eq_true e]
    exact iteT (q _ H (Same.refl H) (.inl ⟨rfl, e⟩))
  · rw [decide_eq_false e]
    refine iteF ?_
    refine ⟨_, rfl, _, rfl, _, rfl, _, rfl, wd, pd, ww, pr, t, u, x, y, rfl, hW, hP, ht, hu, hn, hm, hz, hz', fun b H1 s1 hb => ⟨_, rfl, ?_⟩⟩
    cases b with
    | true => exact iteT (q _ H1 s1 (.inr (.inl ⟨rfl, e, hb.mp rfl⟩)))
    | false =>
      refine iteF ?_
      have ng : ¬ Gt ww (hiN N pr) t u := fun h => by have := hb.mpr h; cases this
      refine ⟨_, rfl, _, rfl, _, rfl, _, rfl, wd, pd, ww, pr, u, t, y, x, rfl, hW.same s1, s1 _ _ hP, hu.same s1, ht.same s1, hm, hn, hz', hz, fun b H2 s2 hb2 => ⟨_, rfl, ?_⟩⟩
      cases b with
      | true => exact iteT (q _ H2 (s1.trans s2) (.inr (.inr (.inl ⟨rfl, e, ng, hb2.mp rfl⟩))))
      | false =>
        refine iteF ?_
        exact q _ H2 (s1.trans s2) (.inr (.inr (.inr ⟨rfl, e, ng, fun h => by have := hb2.mpr h; cases this⟩)))
end
end K78
end
section
set_option maxHeartbeats 4000000
namespace K78
open PySem PySem.Spec PyProof.Rows L2
/-! ### [e for j in range(..)] -/
section
variable {α : Type} {R : Hp → α → V → Prop} {te : TE} {σ : L2.St} {H : Hp} {bs : List α} {j n : Nat} {lo : Int} {Qd : Hp → Prop}
theorem lc_map_rng (hR : ∀ H H' b z, TupSame H H' → R H b z → R H' b z) (hl : bs.length = n) (hz : n ≤ 100000)
    (step : ∀ (k : Nat) (b : α) (H1 : Hp) (Q' : VK), k < n → bs[k]? = some b → Same H H1 → (∀ z H2, Same H1 H2 → R H2 b z → Q' z H2) → te ((wipe σ [j]).set j (some (.int (lo + k)))) H1 Q')
    {D : Addr} (hD : H D = none) (q : ∀ zs H', Same H H' → H' D = some (.lst zs) → AllAt (R H') bs zs → Qd H') :
    ∃ W : Nat → Nat → Hp → Prop, (∃ m, W 0 m (upd H D (.lst []))) ∧ ∀ i m H, W i m H →
      ((Itr lo n).stop i H ∧ Qd H) ∨ ((Itr lo n).go i H ∧ ∃ Nx : Hp → Prop, (∀ H', Nx H' → ∃ m', m' < m ∧ W (i + 1) m' H') ∧ ∀ x H', (Itr lo n).yld i H x H' → gName j x (wipe σ [j]) H' fun σ2 H2 => wipe σ2 [j] = wipe σ [j] ∧ tYes σ2 H2 fun b H3 =>
        if b = true then te σ2 H3 fun y H4 => ∃ acc, H4 D = some (.lst acc) ∧ acc.length < sizeLine ∧ Nx (upd H4 D (.lst (acc ++ [y]))) else Nx H3) := by
  refine lc_range (fun i H1 => ∃ zs, Same H H1 ∧ H1 D = some (.lst zs) ∧ AllAt (R H1) (bs.take i) zs) ⟨[], same_new hD _, upd_same, rfl⟩ ?_ ?_
  · rintro i H1 hi ⟨zs, s1, hd1, ha1⟩
    have hb : bs[i]? = some (bs[i]'(by omega)) := List.getElem?_eq_getElem _
    refine ⟨wipe_one _, ?_⟩
    refine step i _ H1 _ hi hb s1 fun z H2 s2 hr => ?_
    have hd2 := s2 _ _ hd1
    have hzl : zs.length = i := by rw [ha1.length, List.length_take]; omega
    refine ⟨zs, hd2, Nat.lt_of_lt_of_le (show zs.length < 100001 by omega) (by decide), zs ++ [z], fun b o h => ?_, upd_same, ?_⟩
    · rw [upd_ne (ne_of_none h hD)]; exact s2 _ _ (s1 _ _ h)
    · rw [List.take_add_one, hb]
      exact AllAt.snoc (AllAt.mono (fun b x h => hR _ _ _ _ ((TupSame.of s2).trans (tup_upd hd2)) h) ha1) (hR _ _ _ _ (tup_upd hd2) hr)
  · rintro H1 ⟨zs, s1, hd1, ha1⟩
    rw [List.take_of_length_le (by omega)] at ha1
    exact q zs H1 s1 hd1 ha1
end
/-! ### a list of pairs of terms against [] -/
def pairD (N : List Str) (e : Tm × Tm) : PyData := .tuple [tmD N e.1, tmD N e.2]
section
variable {K : PySem.W.Frag} {N : List Str} {H : Hp}
theorem dp_pair {e : Tm × Tm} {x : V} (h : RuleAt N H e x) : Dp K H x (pairD N e) := by
  obtain ⟨a, x, z, rfl, h2, h3, h4⟩ := h
  exact .tup (SqT.of h2) (.cons (dp_tm h3) (.cons (dp_tm h4) .nil))
theorem pairD_lay (hN : NmOk N) (e : Tm × Tm) : (pairD N e).canLay0 = true := by
  simp only [pairD, PyData.canLay0, PyData.canLayAll0, tmD_lay hN, Bool.and_self]
theorem dp_all {α : Type} {R : α → V → Prop} {f : α → PyData} (h : ∀ a y, R a y → Dp K H y (f a)) : ∀ {as : List α} {ys : List V}, AllAt R as ys → DpAll K H ys (as.map f)
  | [], _, e => by cases e; exact .nil
  | a :: as, _, ⟨z, zs, h1, h2, h3⟩ => by subst h1; exact .cons (h _ _ h2) (dp_all h h3)
theorem lay_all {α : Type} {f : α → PyData} (h : ∀ a, (f a).canLay0 = true) : ∀ as : List α, PyData.canLayAll0 (as.map f) = true
  | [] => by simp [PyData.canLayAll0]
  | a :: as => by simp only [List.map_cons, PyData.canLayAll0, h, lay_all h as, Bool.and_self]
end
section
variable {X : Cx} {N : List Str}
/-- xs == [], the items by a reading of data -/
def rEqNil {α : Type} (R : Hp → α → V → Prop) : R2 := fun x y H Q => ∃ (a b : Addr) (as : List α) (ys : List V), x = .ref a ∧ y = .ref b ∧ H a = some (.lst ys) ∧ AllAt (R H) as ys ∧ H b = some (.lst []) ∧ Q (.bl as.isEmpty) H
theorem op_eqNil {α : Type} {R : Hp → α → V → Prop} {f : α → PyData} (hf : ∀ H a y, R H a y → Dp X.K H y (f a)) (hl : ∀ a, (f a).canLay0 = true) (hu : X.A.units + 200 < cLine) : OpR X (compareOp .Eq) (rEqNil R) := by
  intro pins s σ H x y v u Q I rx ry ⟨a, b, as, ys, e1, e2, ha, hA, hb, q⟩
  subst e1; subst e2
  refine op_eqX hu pins s σ H _ _ v u Q I rx ry ⟨.list (as.map f), .list [], .lst (SqL.of ha) (dp_all (hf H) hA), .lst (SqL.of hb) .nil, by simp only [PyData.canLay0]; exact lay_all hl as, by simp [PyData.canLay0, PyData.canLayAll0], ?_, ?_⟩
  · have : (PyData.list []).depth = 1 := by simp [PyData.depth, PyData.depthAll]
    omega
  · have : PyData.eqv (.list (as.map f)) (.list []) = as.isEmpty := by
      cases as <;> simp [PyData.eqv, PyData.eqvAll]
    rw [this]; exact q
end
/-! ### a dict that stands for what was bound -/
def SubD (N : List Str) (H : Hp) (d : Addr) (σ : Nat → Tm) (ks : List Nat) : Prop := ∃ kvs, H d = some (.dK kvs) ∧ kvs.map (·.1) = ks.map (fun (m : Nat) => (Sum.inl (m : Int) : Key)) ∧ ks.Nodup ∧
  (∀ m, m ∈ ks → ∃ x, valV kvs (Sum.inl (m : Int) : Key) = some x ∧ TmAt N H (σ m) x) ∧ ∀ m, ¬ m ∈ ks → σ m = .v m
def pOf (σ : Nat → Tm) (ks : List Nat) : PSub := fun m => if m ∈ ks then some (σ m) else none
theorem pOf_tot {σ : Nat → Tm} {ks : List Nat} (h : ∀ m, ¬ m ∈ ks → σ m = .v m) : (pOf σ ks).tot = σ := by
  funext m
  unfold PSub.tot pOf
  by_cases q : m ∈ ks
  · rw [if_pos q]; rfl
  · rw [if_neg q, h m q]; rfl
section
variable {N : List Str} {H H' : Hp} {d : Addr} {σ : Nat → Tm} {ks : List Nat}
open Classical in
theorem mem_keys {m : Nat} : (Sum.inl (m : Int) : Key) ∈ ks.map (fun (m : Nat) => (Sum.inl (m : Int) : Key)) ↔ m ∈ ks := by
  rw [List.mem_map]
  constructor
  · rintro ⟨j, hj, e⟩; rw [← inl_inj.mp e]; exact hj
  · intro h; exact ⟨m, h, rfl⟩
theorem SubD.at (h : SubD N H d σ ks) : SubAt N H d (pOf σ ks) ks.length := by
  obtain ⟨kvs, h1, h2, h3, h4, h5⟩ := h
  have hl : kvs.length = ks.length := by
    have := congrArg List.length h2
    simpa using this
  refine ⟨kvs, h1, by omega, fun n => ?_⟩
  unfold pOf
  by_cases q : n ∈ ks
  · rw [if_pos q]; exact h4 n q
  · rw [if_neg q]
    cases e : valV kvs (Sum.inl (n : Int) : Key) with
    | none => rfl
    | some v =>
      have := valV_mem.mpr ⟨v, e⟩
      rw [h2] at this
      exact absurd (mem_keys.mp this) q
theorem SubD.tot (h : SubD N H d σ ks) : (pOf σ ks).tot = σ := by
  obtain ⟨kvs, h1, h2, h3, h4, h5⟩ := h
  exact pOf_tot h5
theorem SubD.same (h : SubD N H d σ ks) (e : Same H H') : SubD N H' d σ ks := by
  obtain ⟨kvs, h1, h2, h3, h4, h5⟩ := h
  exact ⟨kvs, e _ _ h1, h2, h3, fun m hm => by obtain ⟨x, a, b⟩ := h4 m hm; exact ⟨x, a, b.same e⟩, h5⟩
end
section
variable {P : Program} {w : World} {K : PySem.W.Frag} {mg : Str → Option Value} {base : Heap} {N : List Str}
/-! ### _law_unify -/
/-- the promise of both unify's: a dict of a most general unifier, or None where there is no unifier -/
def UnQ (N : List Str) (s t : Tm) (H : Hp) (Q : VK) : Prop :=
  (∀ d H' (p : PSub) k, Same H H' → IsMgu s t p.tot → SubAt N H' d p k → Q (.ref d) H') ∧ (∀ H', Same H H' → (¬ ∃ θ, Unif s t θ) → Q .non H')
def spLUnify (N : List Str) : Sp := fun vs H Q _ => ∃ (s t : Tm) (x y : V), vs = [x, y] ∧ TmAt N H s x ∧ TmAt N H t y ∧ s.nest ≤ 4 ∧ t.nest ≤ 4 ∧ (∀ m, s.has m → m < 4) ∧ (∀ m, t.has m → m < 4) ∧
  (∀ θ, Unif s t θ → ∃ θ', Unif s t θ' ∧ (s.ap θ').size ≤ 2900) ∧ UnQ N s t H Q
open Classical in
/-- the reading of what binds a variable: the occurs check, the old images, the new one -/
theorem lu_bind {De : Ends} {H : Hp} {d : Addr} {v0 v1 v3 v4 v7 v8 v9 : Option V} {n : Nat} {u : Tm} {xu : V} {σs : Nat → Tm} {ks : List Nat}
    (hu : TmAt N H u xu) (hnu : u.nest ≤ 64) (few : ∀ m, u.has m → m < 4) (hS : SubD N H d σs ks) (hks : ∀ m, m ∈ ks → σs m ≠ .v m) (hn : σs n = .v n) (hkl : ks.length ≤ 4) (hnest : ∀ m, (σs m).nest ≤ 64)
    (hOcc : u.has n → ∀ H', Same H H' → De.rt .non H')
    (hNx : ∀ H' v8', ¬ u.has n → (∀ b o, b ≠ d → H b = some o → H' b = some o) → SubD N H' d (fun m => (σs m).ap (single n u)) (ks ++ [n]) → De.nx [v0, v1, some (.ref d), v3, v4, some (natV n), some xu, v7, v8', v9] H') :
    (tSeq (tIfS (tTest (tOp (rIn K false) (tVar 5) (tCall (spLVarsT N 64) [] E0 (tCons (tVar 6) tNil)))) (tRet (tC .non)) tNext) (tSeq (tFor (iList K (tCB rListD (tCons (tVar 2) tNil))) (gName 8)
      (sDPut (tVar 2) (tVar 8) (tCall (spRep N 64) [] E0 (tCons (tDisp [(tVar 5, tVar 6)]) (tCons (tDGet (tVar 2) (tVar 8)) tNil))))) (sDPut (tVar 2) (tVar 5) (tVar 6)))) De [v0, v1, some (.ref d), v3, v4, some (natV n), some xu, v7, v8, v9] H := by
  refine ⟨_, rfl, _, rfl, u, xu, rfl, hu, hnu, few_lt (n := 4) (fun u' hu' m hm => by rw [List.mem_singleton] at hu'; subst hu'; exact few m hm) (by decide), fun p ns H1 hp0 s1 hV hp1 => ⟨p, _, rfl, .inl (SqL.of hp1), rfl, natV_flat ns, _, rfl, ?_⟩⟩
  rw [if_neg (by decide), inV_nat]
  by_cases ho : u.has n
  · rw [decide_eq_true ((hV.1 n).mpr ho)]
    exact iteT (hOcc ho H1 s1)
  · rw [decide_eq_false (fun q => ho ((hV.1 n).mp q))]
    refine iteF ?_
    have nk : ¬ n ∈ ks := fun q => hks n q hn
    obtain ⟨kvs, g1, g2, g3, g4, g5⟩ := hS.same s1
    refine ⟨_, rfl, d, kvs, rfl, g1, fun l hl => ?_⟩
    have ek : kvs.map (fun kv => kV kv.1) = ks.map natV := by
      have : kvs.map (fun kv => kV kv.1) = (kvs.map (·.1)).map kV := by rw [List.map_map]; rfl
      rw [this, g2, List.map_map]; rfl
    rw [ek]
    have s2 : Same H1 (upd H1 l (.lst (ks.map natV))) := same_new hl _
    have nld : l ≠ d := fun e => by subst e; rw [hl] at g1; cases g1
    refine ⟨l, rfl, ⟨_, SqL.of upd_same⟩, for_list (K := K) (a := l) (xs := ks.map natV) (fun j σ H3 => ∃ v8', σ = [v0, v1, some (.ref d), v3, v4, some (natV n), some xu, v7, v8', v9] ∧ (∀ b o, b ≠ d → H b = some o → H3 b = some o) ∧ H3 l = some (.lst (ks.map natV)) ∧ TmAt N H3 u xu ∧
      ∃ kvs3, H3 d = some (.dK kvs3) ∧ kvs3.map (·.1) = ks.map (fun (m : Nat) => (Sum.inl (m : Int) : Key)) ∧ ∀ m, m ∈ ks → ∃ z, valV kvs3 (Sum.inl (m : Int) : Key) = some z ∧ TmAt N H3 (if m ∈ ks.take j then (σs m).ap (single n u) else σs m) z) ?_ ?_ ?_ ?_⟩
    · refine ⟨v8, rfl, fun b o _ h => s2 _ _ (s1 _ _ h), upd_same, (hu.same s1).same s2, kvs, s2 _ _ g1, g2, fun m hm => ?_⟩
      obtain ⟨z, hz1, hz2⟩ := g4 m hm
      exact ⟨z, hz1, by simpa using hz2.same s2⟩
    · rintro j σ H3 _ ⟨v8', _, _, h, _⟩
      exact SqL.of h
    · rintro j z0 σ H3 hj ⟨v8', rfl, hb3, hl3, hu3, kvs3, k1, k2, k3⟩
      obtain ⟨m, hmj, rfl⟩ : ∃ m, ks[j]? = some m ∧ natV m = z0 := by
        rw [List.getElem?_map, Option.map_eq_some_iff] at hj; exact hj
      have hmk : m ∈ ks := List.mem_of_getElem? hmj
      obtain ⟨z, hz1, hz2⟩ := k3 m hmk
      have hnot : ¬ m ∈ ks.take j := by
        intro hin
        have hnd := g3
        rw [← List.take_append_drop j ks, drop_at hmj, List.nodup_append] at hnd
        exact hnd.2.2 _ hin _ (List.mem_cons_self ..) rfl
      rw [if_neg hnot] at hz2
      intro dd hdd
      refine ⟨_, rfl, _, rfl, upd_same, [(Sum.inl (n : Int), xu)], rfl, by simp, ?_⟩
      rw [upd_upd]
      have em : mergeK [] [((Sum.inl (n : Int) : Key), xu)] = putK [] (Sum.inl (n : Int)) xu := rfl
      rw [em]
      have s4 : Same H3 (upd H3 dd (.dK (putK [] (Sum.inl (n : Int)) xu))) := same_new hdd _
      have hg : DGet (upd H3 dd (.dK (putK [] (Sum.inl (n : Int)) xu))) d (natV m) (some z) := by rw [← hz1]; exact DGet.k (k := Sum.inl (m : Int)) (s4 _ _ k1)
      refine ⟨_, rfl, _, rfl, d, z, rfl, hg, σs m, z, dd, PSub.nil.set n u, 1, rfl, hz2.same s4, ⟨_, upd_same, by rw [show putK [] (Sum.inl (n : Int) : Key) xu = [(Sum.inl (n : Int), xu)] from rfl]; simp, SubK.put SubK.nil (hu3.same s4)⟩, hnest m, fun z2 H4 s5 hz3 => ?_⟩
      have s6 := s4.trans s5
      have etot : (PSub.nil.set n u).tot = single n u := by
        funext k; unfold PSub.tot PSub.set PSub.nil single; by_cases q : k = n
        · rw [if_pos q, if_pos q]; rfl
        · rw [if_neg q, if_neg q]; rfl
      rw [etot] at hz3
      have hd4 := s6 _ _ k1
      refine ⟨_, rfl, _, rfl, d, _, rfl, DPut.k (k := Sum.inl (m : Int)) hd4 (sz16 (by have := congrArg List.length k2; simp at this; omega)), ?_⟩
      have ts : TupSame H4 (upd H4 d (.dK (putK kvs3 (Sum.inl (m : Int)) z2))) := tup_updD hd4
      refine ⟨some (natV m), rfl, fun b o hb h => ?_, ?_, (hu3.same s6).tupS ts, _, upd_same, ?_, fun m' hm' => ?_⟩
      · rw [upd_ne hb]; exact s6 _ _ (hb3 _ _ hb h)
      · rw [upd_ne nld]; exact s6 _ _ hl3
      · rw [keys_put, if_pos (by rw [k2]; exact mem_keys.mpr hmk)]; exact k2
      · obtain ⟨z', hz1', hz2'⟩ := k3 m' hm'
        by_cases e : m' = m
        · subst e
          refine ⟨z2, by rw [valV_put, if_pos rfl], ?_⟩
          rw [if_pos ((mem_take1 hmj).mpr (.inr rfl))]
          exact hz3.tupS ts
        · refine ⟨z', by rw [valV_put, if_neg (fun q => e (inl_inj.mp q))]; exact hz1', ?_⟩
          have : (m' ∈ ks.take (j + 1)) ↔ m' ∈ ks.take j := by
            rw [mem_take1 hmj]; exact ⟨fun h => h.resolve_right e, .inl⟩
          simp only [this]
          exact (hz2'.same s6).tupS ts
    · rintro σ H3 ⟨v8', rfl, hb3, hl3, hu3, kvs3, k1, k2, k3⟩
      refine ⟨_, rfl, _, rfl, _, rfl, d, _, rfl, DPut.k (k := Sum.inl (n : Int)) k1 (sz16 (by have := congrArg List.length k2; simp at this; omega)), ?_⟩
      have ts : TupSame H3 (upd H3 d (.dK (putK kvs3 (Sum.inl (n : Int)) xu))) := tup_updD k1
      refine hNx _ v8' ho (fun b o hb h => by rw [upd_ne hb]; exact hb3 b o hb h) ⟨_, upd_same, ?_, ?_, fun m hm => ?_, fun m hm => ?_⟩
      · rw [keys_put, if_neg (by rw [k2]; exact fun q => nk (mem_keys.mp q)), k2, List.map_append]; rfl
      · rw [List.nodup_append]
        exact ⟨g3, by simp, fun a ha b hb e => by rw [List.mem_singleton] at hb; subst hb; subst e; exact nk ha⟩
      · by_cases e : m = n
        · subst e
          refine ⟨xu, by rw [valV_put, if_pos rfl], ?_⟩
          show TmAt N _ ((σs m).ap (single m u)) xu
          rw [hn]
          show TmAt N _ (single m u m) xu
          rw [single_self]
          exact hu3.tupS ts
        · have hmk : m ∈ ks := (List.mem_append.mp hm).resolve_right fun q => e (List.mem_singleton.mp q)
          obtain ⟨z, hz1, hz2⟩ := k3 m hmk
          rw [List.length_map, List.take_length, if_pos hmk] at hz2
          exact ⟨z, by rw [valV_put, if_neg (fun q => e (inl_inj.mp q))]; exact hz1, hz2.tupS ts⟩
      · have h1 : ¬ m ∈ ks := fun q => hm (List.mem_append.mpr (.inl q))
        have h2 : m ≠ n := fun q => hm (List.mem_append.mpr (.inr (by rw [q]; simp)))
        show (σs m).ap (single n u) = .v m
        rw [g5 m h1]
        exact single_ne h2
theorem rule_same {N : List Str} {H H' : Hp} {e : Tm × Tm} {x : V} (h : RuleAt N H e x) (s : Same H H') : RuleAt N H' e x := by
  obtain ⟨a, y, z, rfl, h2, h3, h4⟩ := h
  exact ⟨a, y, z, rfl, s _ _ h2, h3.same s, h4.same s⟩
theorem rule_tupS {N : List Str} {H H' : Hp} {e : Tm × Tm} {x : V} (h : RuleAt N H e x) (s : TupSame H H') : RuleAt N H' e x := by
  obtain ⟨a, y, z, rfl, h2, h3, h4⟩ := h
  exact ⟨a, y, z, rfl, s _ _ h2, h3.tupS s, h4.tupS s⟩
theorem tup_but {N : List Str} {H H' : Hp} {d : Addr} {σ : Nat → Tm} {ks : List Nat} (h : SubD N H d σ ks) (k : ∀ b o, b ≠ d → H b = some o → H' b = some o) : TupSame H H' := by
  obtain ⟨kvs, h1, _⟩ := h
  intro b xs hb
  exact k _ _ (fun e => by subst e; rw [h1] at hb; cases hb) hb
/-- what holds before each turn -/
structure LU (N : List Str) (s t : Tm) (H1 : Hp) (d : Addr) (σs : Nat → Tm) (ks : List Nat) (W : Eqs) (i : Nat) : Prop where
  dict : SubD N H1 d σs ks
  inv : UInv s t σs W
  nb : NBd σs W (4 * 2 ^ ks.length)
  k4 : ∀ m, m ∈ ks → m < 4
  kn : ∀ m, m ∈ ks → σs m ≠ .v m
  im : ∀ m k, m < 4 → (σs m).has k → k < 4
  wv : ∀ e, e ∈ W → (∀ k, e.1.has k → k < 4) ∧ ∀ k, e.2.has k → k < 4
  lf : ∀ θ, Unif s t θ → left θ W + i ≤ (s.ap θ).size
  ln : W.length ≤ i + 1
section
variable {s t a b : Tm} {H1 H2 : Hp} {d : Addr} {σs : Nat → Tm} {ks : List Nat} {W : Eqs} {i : Nat}
theorem nodup_len {ks : List Nat} (nd : ks.Nodup) (h : ∀ m, m ∈ ks → m < 4) : ks.length ≤ 4 := nodup_lt 4 ks nd h
theorem LU.klen (h : LU N s t H1 d σs ks W i) : ks.length ≤ 4 := by
  obtain ⟨_, _, _, h3, _⟩ := h.dict
  exact nodup_len h3 h.k4
theorem LU.pow (h : LU N s t H1 d σs ks W i) : 4 * 2 ^ ks.length ≤ 64 := by
  have := Nat.pow_le_pow_right (n := 2) (by decide) h.klen
  omega
theorem LU.img (h : LU N s t H1 d σs ks W i) (m : Nat) : (σs m).nest ≤ 64 := Nat.le_trans (h.nb.im m) h.pow
theorem LU.lr (h : LU N s t H1 d σs ks ((a, b) :: W) i) : (a.ap σs).nest ≤ 64 ∧ (b.ap σs).nest ≤ 64 :=
  ⟨Nat.le_trans (h.nb.eq _ (List.mem_cons_self ..)).1 h.pow, Nat.le_trans (h.nb.eq _ (List.mem_cons_self ..)).2 h.pow⟩
theorem LU.v4 (h : LU N s t H1 d σs ks ((a, b) :: W) i) : (∀ k, (a.ap σs).has k → k < 4) ∧ ∀ k, (b.ap σs).has k → k < 4 := by
  obtain ⟨h1, h2⟩ := h.wv (a, b) (List.mem_cons_self ..)
  constructor
  · intro k hk; obtain ⟨n, q1, q2⟩ := has_ap.mp hk; exact h.im n k (h1 n q1) q2
  · intro k hk; obtain ⟨n, q1, q2⟩ := has_ap.mp hk; exact h.im n k (h2 n q1) q2
theorem LU.start (h : SubD N H1 d Tm.v []) (hn : s.nest ≤ 4) (hm : t.nest ≤ 4) (hvs : ∀ m, s.has m → m < 4) (hvt : ∀ m, t.has m → m < 4) : LU N s t H1 d Tm.v [] [(s, t)] 0 where
  dict := h
  inv := UInv.start s t
  nb := ⟨fun m => by simp [Tm.nest], fun e he => by rw [List.mem_singleton] at he; subst he; simpa [ap_v] using ⟨hn, hm⟩⟩
  k4 := fun m q => by cases q
  kn := fun m q => by cases q
  im := fun m k h1 h2 => by have : m = k := h2; omega
  wv := fun e he => by rw [List.mem_singleton] at he; subst he; exact ⟨hvs, hvt⟩
  lf := fun θ h => by simp [left]
  ln := Nat.le_refl _
theorem LU.same (h : LU N s t H1 d σs ks W i) (e : Same H1 H2) : LU N s t H2 d σs ks W i := ⟨h.dict.same e, h.inv, h.nb, h.k4, h.kn, h.im, h.wv, h.lf, h.ln⟩
theorem LU.equal (h : LU N s t H1 d σs ks ((a, b) :: W) i) (e : a.ap σs = b.ap σs) : LU N s t H1 d σs ks W (i + 1) where
  dict := h.dict
  inv := h.inv.equal e
  nb := h.nb.tail
  k4 := h.k4
  kn := h.kn
  im := h.im
  wv := fun e he => h.wv e (List.mem_cons_of_mem _ he)
  lf := fun θ hu => by have h1 := h.lf θ hu; have h2 := left_tail (θ := θ) (e := (a, b)) (W := W); omega
  ln := by have := h.ln; rw [List.length_cons] at this; omega
theorem LU.split (h : LU N s t H1 d σs ks ((a, b) :: W) i) (na : (a.ap σs).isV = false) (nb : (b.ap σs).isV = false) (e : (a.ap σs).hd = (b.ap σs).hd) : LU N s t H1 d σs ks ((a.ap σs).kids.zip (b.ap σs).kids ++ W) (i + 1) where
  dict := h.dict
  inv := h.inv.split na nb e
  nb := h.nb.split h.inv
  k4 := h.k4
  kn := h.kn
  im := h.im
  wv := fun e he => by
    rcases List.mem_append.mp he with he | he
    · exact ⟨fun k hk => h.v4.1 k (kid_has (List.of_mem_zip he).1 hk), fun k hk => h.v4.2 k (kid_has (List.of_mem_zip he).2 hk)⟩
    · exact h.wv e (List.mem_cons_of_mem _ he)
  lf := fun θ hu => by have h1 := h.lf θ hu; have h2 := h.inv.left_split hu na nb e; omega
  ln := by
    have h1 := h.ln
    have h2 := kids_le (a.ap σs)
    rw [List.length_cons] at h1
    rw [List.length_append, List.length_zip]
    have := Nat.min_le_left (a.ap σs).kids.length (b.ap σs).kids.length
    omega
theorem LU.bind (h : LU N s t H1 d σs ks ((a, b) :: W) i) {n : Nat} {u : Tm} (hp : VarPair (a.ap σs) (b.ap σs) n u) (ho : ¬ u.has n) (hS : SubD N H2 d (fun m => (σs m).ap (single n u)) (ks ++ [n])) : LU N s t H2 d (fun m => (σs m).ap (single n u)) (ks ++ [n]) W (i + 1) := by
  have hun : u.nest ≤ 4 * 2 ^ ks.length := by
    have h1 := h.nb.eq _ (List.mem_cons_self ..)
    rcases hp with ⟨_, q⟩ | ⟨q, _⟩
    · rw [← q]; exact h1.2
    · rw [← q]; exact h1.1
  have hn4 : n < 4 := by
    rcases hp with ⟨q, _⟩ | ⟨_, q⟩
    · exact h.v4.1 n (by rw [q]; rfl)
    · exact h.v4.2 n (by rw [q]; rfl)
  have hu4 : ∀ k, u.has k → k < 4 := by
    rcases hp with ⟨_, q⟩ | ⟨q, _⟩
    · rw [← q]; exact h.v4.2
    · rw [← q]; exact h.v4.1
  have hn := (h.inv.pair_nv hp).1
  refine ⟨hS, h.inv.bind hp ho, ?_, fun m hm => ?_, fun m hm => ?_, fun m k hm hk => ?_, fun e he => h.wv e (List.mem_cons_of_mem _ he), fun θ hu => ?_, (by have := h.ln; rw [List.length_cons] at this; omega)⟩
  · have := h.nb.bind (n := n) (Nat.mul_pos (by decide) (Nat.pow_pos (by decide))) hun
    rw [List.length_append, List.length_singleton, Nat.pow_succ]
    rw [show 4 * (2 ^ ks.length * 2) = 2 * (4 * 2 ^ ks.length) by omega]
    exact this
  · rcases List.mem_append.mp hm with q | q
    · exact h.k4 m q
    · rw [List.mem_singleton.mp q]; exact hn4
  · show (σs m).ap (single n u) ≠ .v m
    intro e
    by_cases q : m = n
    · subst q
      rw [hn] at e
      have e2 : single m u m = .v m := e
      rw [single_self] at e2
      exact ho (by rw [e2]; rfl)
    · have hmk : m ∈ ks := (List.mem_append.mp hm).resolve_right fun q2 => q (List.mem_singleton.mp q2)
      -- the image is a variable k with single n u k = v m
      have hk := h.kn m hmk
      cases em : σs m with
      | v k =>
        rw [em] at e
        have e2 : single n u k = .v m := e
        have hmm : σs k = .v k := h.inv.nv m k (by rw [em]; rfl)
        by_cases q3 : k = n
        · subst q3
          rw [single_self] at e2
          have := (h.inv.pair_nv hp).2 m (by rw [e2]; rfl)
          exact hk this
        · rw [single_ne q3] at e2
          have ekm : k = m := Tm.v.inj e2
          subst ekm
          exact hk hmm
      | c j => rw [em] at e; cases e
      | f a => rw [em] at e; cases e
      | g a b => rw [em] at e; cases e
  · have hk' : ((σs m).ap (single n u)).has k := hk
    obtain ⟨j, h1, h2⟩ := has_ap.mp hk'
    by_cases q : j = n
    · subst q; rw [single_self] at h2; exact hu4 k h2
    · rw [single_ne q] at h2
      have : j = k := h2
      subst this
      exact h.im m j hm h1
  · have h1 := h.lf θ hu; have h2 := left_tail (θ := θ) (e := (a, b)) (W := W); omega
end
theorem ok_lunify (hN : NmOk N) (z0 : mg "isinstance" = none) (zt : mg "tuple" = none) (z1 : mg "range" = none) (z2 : mg "len" = none) (z3 : mg "list" = none) (D : DF K mg "_law_unify" s_law_unify ["_law_first", "_law_second"])
    (G1 : OkD P w K mg base 64 "_law_apply" ["_law_sub", "_law_term_here"] (spRep N 64)) (G2 : OkD P w K mg base 64 "_law_vars" ["_law_term_here"] (spLVarsT N 64)) : OkD P w K mg base 65 "_law_unify" ["_law_first", "_law_second"] (spLUnify N) := by
  refine D.ok (k := 64) sc_law_unify (fun vs H Q E h => ?_) (fun f cdv A outer s H vs Q E hr h => ?_)
  · obtain ⟨s, t, x, y, rfl, _⟩ := h
    rfl
  obtain ⟨s0, t0, x, y, rfl, hs0, ht0, hn, hm, hvs, hvt, hB, qS, qN⟩ := h
  obtain ⟨f1, fd1, m1, k1, b1, F1, _⟩ := G1
  obtain ⟨f2, fd2, m2, k2, b2, F2, _⟩ := G2
  have hu := hu_of hr
  have nd := sc_law_unify.nd
  refine ⟨_, pss_cons (ps_set (i := 2) nd rfl (Or.inl rfl) pe_dnewK)
    (pss_cons (ps_set (i := 3) nd rfl (Or.inl rfl) (pe_lst (pa_cons (pe_tup (pa_cons (pv 0) (pa_cons (pv 1) pa_nil))) pa_nil)))
    (pss_cons (ps_for PassesOwn.never rfl (pi_range1 (by rfl) z1 (pa_cons pe_int pa_nil)) (pg_name (i := 4) nd rfl (.inl rfl))
      (pss_cons (ps_if (pt_cmpR (op_eqNil (R := fun H => RuleAt N H) (fun H a y h => dp_pair h) (pairD_lay hN) (hu2 hr)) (pv 3) (pe_lst pa_nil) (nomark _)) (pss_one (ps_ret (pv 2))) pss_nil)
      (pss_cons (ps_set (i := 5) nd rfl (Or.inr rfl) (pe_call F1 hr rfl m1 k1 b1 .nil pass0 (pa_cons (pv 2) (pa_cons (pe_ix ix_tup (pe_ix ix_list (pv 3) pe_int (fun _ _ => rfl)) pe_int (fun _ _ => rfl)) pa_nil))))
      (pss_cons (ps_set (i := 6) nd rfl (Or.inr rfl) (pe_call F1 hr rfl m1 k1 b1 .nil pass0 (pa_cons (pv 2) (pa_cons (pe_ix ix_tup (pe_ix ix_list (pv 3) pe_int (fun _ _ => rfl)) pe_int (fun _ _ => rfl)) pa_nil))))
      (pss_cons (ps_set (i := 3) nd rfl (Or.inl rfl) (pe_slice sl_list (pv 3) (po_some pe_int) po_none))
      (pss_one (ps_if (pt_cmpR (op_neTm hN (hu2 hr)) (pv 5) (pv 6) (nomark _))
        (pss_one (ps_if (PW.pt (pw_and (pt_val (pe_callB (call_isTm (N := N)) (by rfl) z0 (by decide +kernel) (pa_cons (pv 5) (pa_cons (pe_bltn (v := .ty "tuple") (by rfl) zt (by decide +kernel) rfl) pa_nil)))) (pw_and1 (pt_val (pe_callB (call_isTm (N := N)) (by rfl) z0 (by decide +kernel) (pa_cons (pv 6) (pa_cons (pe_bltn (v := .ty "tuple") (by rfl) zt (by decide +kernel) rfl) pa_nil)))))))
          (pss_cons (ps_if (PW.pt (pw_or (pt_cmpR op_ne (pe_ix ix_tup (pv 5) pe_int (fun _ _ => rfl)) (pe_ix ix_tup (pv 6) pe_int (fun _ _ => rfl)) (nomark _)) (pw_or1 (pt_cmpR op_ne (pe_callB call_len_seq (by rfl) z2 PySem.boot_len (pa_cons (pv 5) pa_nil)) (pe_callB call_len_seq (by rfl) z2 PySem.boot_len (pa_cons (pv 6) pa_nil)) (nomark _))))) (pss_one (ps_ret pe_non)) pss_nil)
          (pss_one (ps_set (i := 3) nd rfl (Or.inl rfl) (pe_op op_cat
            (pe_lc (own := [("_law_j", 9)]) (g := gName 9) (tt := tYes) rfl nd (pi_range2 (by rfl) z1 (pa_cons pe_int (pa_cons (pe_callB call_len_seq (by rfl) z2 PySem.boot_len (pa_cons (pv 5) pa_nil)) pa_nil)))
              (blkOk_by (N := ["_law_first", "_law_second", "_law_sub", "_law_todo", "_law_k", "_law_left", "_law_right", "_law_other", "_law_name", "_law_j"]) (sc := defScope s_law_unify) (by decide +kernel)) (fun _ _ _ _ _ => pg_name (i := 9) nd rfl (Or.inl rfl)) (fun _ _ _ _ _ => pts_nil)
              (fun _ _ _ _ _ => pe_tup (pa_cons (pe_ix (r := rIxT K) ix_tup (pv 5) (pv 9) (fun _ _ => rfl)) (pa_cons (pe_ix (r := rIxT K) ix_tup (pv 6) (pv 9) (fun _ _ => rfl)) pa_nil)))) (pv 3)))))
          (pss_cons (ps_if (pt_val (pe_callB (call_isTm (N := N)) (by rfl) z0 (by decide +kernel) (pa_cons (pv 5) (pa_cons (pe_bltn (v := .ty "tuple") (by rfl) zt (by decide +kernel) rfl) pa_nil))))
            (pss_cons (ps_set (i := 7) nd rfl (Or.inl rfl) (pv 5)) (pss_cons (ps_set (i := 5) nd rfl (Or.inr rfl) (pv 6)) (pss_one (ps_set (i := 6) nd rfl (Or.inr rfl) (pv 7))))) pss_nil)
          (pss_cons (ps_if (pt_cmpR op_in_seq (pv 5) (pe_call F2 hr rfl m2 k2 b2 .nil pass0 (pa_cons (pv 6) pa_nil)) (by rfl)) (pss_one (ps_ret pe_non)) pss_nil)
          (pss_cons (ps_for PassesOwn.never rfl (pi_list (pe_callTy (call_list_dK rfl) (by rfl) z3 (by decide +kernel) (pa_cons (pv 2) pa_nil))) (pg_name (i := 8) nd rfl (.inl rfl))
            (pss_one (ps_dput hu (pv 2) (pv 8) (pe_call F1 hr rfl m1 k1 b1 .nil pass0 (pa_cons (pe_disp (pps_cons (pv 5) (pv 6) pps_nil) (by rfl) (by rfl) (fun z => by cases z) (by decide)) (pa_cons (pe_dget hu (pv 2) (pv 8) (fun _ _ => rfl)) pa_nil))) rfl)))
          (pss_one (ps_dput hu (pv 2) (pv 5) (pv 6) rfl)))))))
        pss_nil)))))))
    (pss_one (ps_ret pe_non)))), ?_⟩
  intro d hd
  have s1 : Same H (upd H d (.dK [])) := same_new hd _
  refine ⟨_, rfl, _, rfl, (show 2 ≤ sizeLine by decide), fun p hp => ⟨(show 1 ≤ sizeLine by decide), fun l hl => ?_⟩⟩
  have s2 := s1.trans (same_new hp (.tup [x, y]))
  have s3 := s2.trans (same_new hl (.lst [.ref p]))
  have hdl : d ≠ l := fun e => by subst e; rw [upd_ne (ne_of_none upd_same hp), upd_same] at hl; cases hl
  have hdp : d ≠ p := ne_of_none upd_same hp
  have hB0 : ∀ b o, b ≠ d → H b = some o → upd (upd (upd H d (.dK [])) p (.tup [x, y])) l (.lst [.ref p]) b = some o := fun b o _ h => s3 _ _ h
  have hpl : p ≠ l := ne_of_none upd_same hl
  refine ⟨3000, rfl, by decide, by decide, ?_⟩
  refine for_range (lo := 0) (n := 3000) (fun i σ H1 => ∃ (td : Addr) (zs : List V) (σs : Nat → Tm) (ks : List Nat) (W : Eqs) (v4 v5 v6 v7 v8 : Option V), σ = [some x, some y, some (.ref d), some (.ref td), v4, v5, v6, v7, v8, none] ∧
    (∀ b o, b ≠ d → H b = some o → H1 b = some o) ∧ td ≠ d ∧ H1 td = some (.lst zs) ∧ AllAt (RuleAt N H1) W zs ∧ LU N s0 t0 H1 d σs ks W i) ?_ ?_ ?_
  · refine ⟨l, [.ref p], Tm.v, [], [(s0, t0)], none, none, none, none, none, rfl, hB0, hdl.symm, upd_same, ?_, LU.start ?_ hn hm hvs hvt⟩
    · exact ⟨_, _, rfl, ⟨p, x, y, rfl, by rw [upd_ne hpl, upd_same], hs0.same s3, ht0.same s3⟩, rfl⟩
    · exact ⟨[], by rw [upd_ne hdl, upd_ne hdp, upd_same], rfl, List.nodup_nil, fun m h => (by cases h), fun m _ => rfl⟩
  · rintro i σ H1 hi ⟨td, zs, σs, ks, W, v4, v5, v6, v7, v8, rfl, hb1, htd, hzs, hW, hL⟩
    have hNE : ∀ (_ : Nat) (H' : Hp), (∀ b o, b ≠ d → H b = some o → H' b = some o) → Same H H' := fun _ H' h b o hb => h b o (fun e => by subst e; rw [hd] at hb; cases hb) hb
    refine ⟨_, rfl, (show 0 ≤ sizeLine by decide), fun q hq => ⟨td, q, W, zs, rfl, rfl, same_new hq _ _ _ hzs, AllAt.mono (fun e z h => rule_same h (same_new hq _)) hW, upd_same, _, rfl, ?_⟩⟩
    have sq : Same H1 (upd H1 q (.lst [])) := same_new hq _
    cases W with
    | nil =>
      refine iteT ?_
      refine ⟨_, rfl, qS d _ (pOf σs ks) ks.length ?_ ?_ ?_⟩
      · exact (hNE 0 _ hb1).trans sq
      · rw [hL.dict.tot]; exact hL.inv.done
      · exact (hL.dict.same sq).at
    | cons e W =>
    refine iteF ?_
    obtain ⟨a, b⟩ := e
    have hL1 := hL.same sq
    generalize hH2 : upd H1 q (.lst []) = H2 at sq hL1
    have hb2 : ∀ b o, b ≠ d → H b = some o → H2 b = some o := fun b o hb h => sq _ _ (hb1 b o hb h)
    obtain ⟨z, zs', rfl, ⟨pr, xa, xb, rfl, hpr, hxa, hxb⟩, hW'⟩ := hW
    have hsd : SubAt N H2 d (pOf σs ks) ks.length := hL1.dict.at
    have etot := hL1.dict.tot
    obtain ⟨hna, hnb⟩ := hL1.lr
    have hna' : a.nest ≤ 64 := Nat.le_trans (nest_le_ap σs a) hna
    have hnb' : b.nest ≤ 64 := Nat.le_trans (nest_le_ap σs b) hnb
    refine ⟨_, rfl, _, rfl, td, _, 0, _, rfl, rfl, SqL.of (sq _ _ hzs), atI_nat (j := 0) rfl, pr, _, 0, _, rfl, rfl, SqT.of (sq _ _ hpr), atI_nat (j := 0) rfl, a, xa, d, pOf σs ks, _, rfl, hxa.same sq, hsd, hna', fun za H3 s3' hza => ?_⟩
    rw [etot] at hza
    have sq3 := sq.trans s3'
    refine ⟨_, rfl, _, rfl, td, _, 0, _, rfl, rfl, SqL.of (sq3 _ _ hzs), atI_nat (j := 0) rfl, pr, _, 1, _, rfl, rfl, SqT.of (sq3 _ _ hpr), atI_nat (j := 1) rfl, b, xb, d, pOf σs ks, _, rfl, hxb.same sq3, hsd.same s3', hnb', fun zb H4 s4' hzb => ?_⟩
    rw [etot] at hzb
    have sq4 := sq3.trans s4'
    refine ⟨_, rfl, _, rfl, td, _, rfl, SqL.of (sq4 _ _ hzs), fun te hte => ?_⟩
    rw [cut1]
    have s5' : Same H4 (upd H4 te (.lst zs')) := same_new hte _
    have hza5 := (hza.same s4').same s5'
    have hzb5 := hzb.same s5'
    have sq5 := sq4.trans s5'
    have hzs5 : upd H4 te (.lst zs') te = some (.lst zs') := upd_same
    have hL5 := hL.same sq5
    have hb5 : ∀ b o, b ≠ d → H b = some o → upd H4 te (.lst zs') b = some o := fun b o hb h => sq5 _ _ (hb1 b o hb h)
    have hte_d : te ≠ d := by
      obtain ⟨kvs, hk, _⟩ := hL.dict
      exact fun e => by subst e; rw [sq4 _ _ hk] at hte; cases hte
    have hW5 : AllAt (RuleAt N (upd H4 te (.lst zs'))) W zs' := AllAt.mono (fun e z h => rule_same h sq5) hW'
    generalize upd H4 te (.lst zs') = H5 at s5' hza5 hzb5 sq5 hzs5 hL5 hb5 hW5
    refine ⟨_, rfl, _, rfl, a.ap σs, b.ap σs, hza5, hzb5, by omega, _, rfl, ?_⟩
    by_cases ee : a.ap σs = b.ap σs
    · rw [decide_eq_true ee]
      refine iteF ?_
      exact ⟨te, zs', σs, ks, W, _, _, _, _, _, rfl, hb5, hte_d, hzs5, hW5, hL5.equal ee⟩
    rw [decide_eq_false ee]
    refine iteT ?_
    refine ⟨_, rfl, a.ap σs, za, rfl, hza5, _, rfl, ?_⟩
    cases ea : (a.ap σs).isV with
    | true =>
      obtain ⟨n, en, rfl⟩ := hza5.isV_int ea
      refine iteF ?_
      refine ⟨_, rfl, a.ap σs, _, rfl, hza5, _, rfl, ?_⟩
      rw [ea]
      refine iteF ?_
      have hp : VarPair (a.ap σs) (b.ap σs) n (b.ap σs) := .inl ⟨en, rfl⟩
      have hno : b.ap σs ≠ .v n := fun q => ee (by rw [en, q])
      have hsn := (hL5.inv.pair_nv hp).1
      refine lu_bind hzb5 hnb hL5.v4.2 hL5.dict hL5.kn hsn hL5.klen hL5.img (fun ho H' s6 => ?_) (fun H' v8' ho hk6 hS => ?_)
      · exact qN H' ((hNE 0 _ hb5).trans s6) (hL5.inv.occurs hp hno ho)
      · exact ⟨te, zs', _, _, W, _, _, _, _, _, rfl, fun b o hb h => hk6 b o hb (hb5 b o hb h), hte_d, hk6 _ _ hte_d hzs5, AllAt.mono (fun e z h => rule_tupS h (tup_but hL5.dict hk6)) hW5, hL5.bind hp ho hS⟩
    | false =>
      refine iteT ?_
      refine ⟨_, rfl, b.ap σs, zb, rfl, hzb5, _, rfl, ?_⟩
      cases eb : (b.ap σs).isV with
      | true =>
        obtain ⟨n, en, rfl⟩ := hzb5.isV_int eb
        refine iteF ?_
        refine ⟨_, rfl, a.ap σs, _, rfl, hza5, _, rfl, ?_⟩
        rw [ea]
        refine iteT ?_
        have hp : VarPair (a.ap σs) (b.ap σs) n (a.ap σs) := .inr ⟨rfl, en⟩
        have hno : a.ap σs ≠ .v n := fun q => ee (by rw [en, q])
        have hsn := (hL5.inv.pair_nv hp).1
        refine ⟨_, rfl, _, rfl, _, rfl, ?_⟩
        refine lu_bind hza5 hna hL5.v4.1 hL5.dict hL5.kn hsn hL5.klen hL5.img (fun ho H' s6 => ?_) (fun H' v8' ho hk6 hS => ?_)
        · exact qN H' ((hNE 0 _ hb5).trans s6) (hL5.inv.occurs hp hno ho)
        · exact ⟨te, zs', _, _, W, _, _, _, _, _, rfl, fun b o hb h => hk6 b o hb (hb5 b o hb h), hte_d, hk6 _ _ hte_d hzs5, AllAt.mono (fun e z h => rule_tupS h (tup_but hL5.dict hk6)) hW5, hL5.bind hp ho hS⟩
      | false =>
        refine iteT ?_
        obtain ⟨A1, ys1, rfl, h2, hk2⟩ := hza5.app ea
        obtain ⟨B1, ys2, rfl, h3, hk3⟩ := hzb5.app eb
        refine ⟨_, rfl, A1, _, 0, _, rfl, rfl, SqT.of h2, atI_nat (j := 0) rfl, _, rfl, B1, _, 0, _, rfl, rfl, SqT.of h3, atI_nat (j := 0) rfl, rfl, _, rfl, ?_⟩
        rw [sy_eq hN]
        by_cases eh : (a.ap σs).hd = (b.ap σs).hd
        · rw [decide_eq_true eh]
          refine iteF ?_
          have el := kids_len ea eb eh
          refine ⟨_, rfl, A1, _, rfl, .inr (SqT.of h2), _, rfl, B1, _, rfl, .inr (SqT.of h3), rfl, _, rfl, ?_⟩
          have ell : ys1.length = ys2.length := by rw [hk2.length, hk3.length, el]
          have e5 : decide (V.int ((V.str (sy N (a.ap σs)) :: ys1).length : Int) = V.int ((V.str (sy N (b.ap σs)) :: ys2).length : Int)) = true := decide_eq_true (by rw [List.length_cons, List.length_cons, ell])
          rw [e5]
          refine iteF ?_
          have hl2 : ys1.length ≤ 2 := by rw [hk2.length]; exact kids_le _
          have hzl : ((a.ap σs).kids.zip (b.ap σs).kids).length = ys1.length := by rw [List.length_zip, hk2.length, el, Nat.min_self]
          refine ⟨_, rfl, A1, _, rfl, .inr (SqT.of h2), 1, _, rfl, ?_, ?_⟩
          · rw [List.length_cons]; omega
          have en : (((V.str (sy N (a.ap σs)) :: ys1).length : Int) - 1).toNat = ys1.length := by rw [List.length_cons]; omega
          rw [en]
          intro D hD
          refine lc_map_rng (R := fun H => RuleAt N H) (bs := (a.ap σs).kids.zip (b.ap σs).kids) (fun _ _ _ _ e h => rule_tupS h e) hzl (by omega) ?_ hD ?_
          · intro k e H6 Q' hkl hke s6 q'
            have hy1 : ys1[k]? = some (ys1[k]'hkl) := List.getElem?_eq_getElem _
            have hy2 : ys2[k]? = some (ys2[k]'(by omega)) := List.getElem?_eq_getElem _
            obtain ⟨u1, hu1, hz1⟩ := hk2.get hy1
            obtain ⟨u2, hu2, hz2⟩ := hk3.get hy2
            have ek : e = (u1, u2) := by
              rw [List.getElem?_zip_eq_some] at hke
              obtain ⟨q1, q2⟩ := hke
              rw [hu1] at q1; rw [hu2] at q2
              cases e; cases q1; cases q2; rfl
            subst ek
            refine ⟨_, rfl, _, rfl, A1, _, _, _, rfl, rfl, SqT.of (s6 _ _ h2), at_of (j := k + 1) (by omega) (by rw [List.getElem?_cons_succ]; exact hy1), _, rfl, _, rfl, B1, _, _, _, rfl, rfl, SqT.of (s6 _ _ h3), at_of (j := k + 1) (by omega) (by rw [List.getElem?_cons_succ]; exact hy2), (show 2 ≤ sizeLine by decide), fun p2 hp2 => ?_⟩
            have s7 : Same H6 (upd H6 p2 (.tup [ys1[k]'hkl, ys2[k]'(by omega)])) := same_new hp2 _
            exact q' _ _ s7 ⟨p2, _, _, rfl, upd_same, (hz1.same s6).same s7, (hz2.same s6).same s7⟩
          · intro zs H6 s6 hd6 ha6
            have hl6 : zs.length ≤ 2 := by rw [ha6.length, hzl]; exact hl2
            have hl7 : zs'.length ≤ 3001 := by rw [hW5.length]; have := hL5.ln; rw [List.length_cons] at this; omega
            refine ⟨_, rfl, D, te, zs, zs', rfl, rfl, hd6, s6 _ _ hzs5, Nat.le_trans (show zs.length + zs'.length ≤ 3003 by omega) (by decide), fun tn htn => ?_⟩
            have s7 := s6.trans (same_new htn (.lst (zs ++ zs')))
            refine ⟨tn, _, σs, ks, _, _, _, _, _, _, rfl, fun b o hb h => s7 _ _ (hb5 b o hb h), ?_, upd_same, ?_, (hL5.split ea eb eh).same s7⟩
            · obtain ⟨kvs, hk, _⟩ := hL5.dict
              exact fun e => by subst e; rw [s6 _ _ hk] at htn; cases htn
            · exact AllAt.append (AllAt.mono (fun e z h => rule_same h (same_new htn _)) ha6) (AllAt.mono (fun e z h => rule_same h s7) hW5)
        · rw [decide_eq_false eh]
          refine iteT ?_
          exact iteT (qN H5 (hNE 0 _ hb5) (hL5.inv.clash ea eb eh))
  · rintro σ H1 ⟨td, zs, σs, ks, W, v4, v5, v6, v7, v8, rfl, hb1, htd, hzs, hW, hL⟩
    refine qN H1 (fun b o h => ?_) (fun ⟨θ, hθ⟩ => ?_)
    · exact hb1 b o (fun e => by subst e; rw [hd] at h; cases h) h
    · obtain ⟨θ', h1, h2⟩ := hB θ hθ
      have := hL.lf θ' h1
      omega
end
end K78
end
section
set_option maxHeartbeats 4000000
/-! WZ: a loop over zip of two lists with a single name for the pair -/
namespace K78
open PySem PySem.Spec PyProof.Rows L2
section
variable {prog : Program} {w : World} {A : Around} {E : Value → Shared → Prop} {s : Shared}
theorem dead_at {a : Addr} {Q : Option Obj → Shared → Prop} (ho : s.heap.get? a = none) (h : Q none s) : wpAny (model prog w) A (loadIfAlive a) Q E s := by
  have h' : Q (s.heap.get? a) s := by rw [ho]; exact h
  exact fun _ _ _ => h'
/-- the tuple that was given out is gone -/
theorem zip_gone {z TI TO T : Addr} {f : Bool} {Q : Bool → Shared → Prop} (hz : IsZipHeld s.heap z TI TO T f) (hT : s.heap.get? T = none) (h : Q true s) : wpAny (model prog w) A (Builtin.SmallTypes.ownedTupleIsFree (.ref z)) Q E s := by
  unfold Builtin.SmallTypes.ownedTupleIsFree
  refine wpAny_bind (wpAny_field hz rfl (x := rawInt T) rfl ?_)
  show wpAny _ _ (loadIfAlive ((T : Int).toNat) >>= _) _ _ _
  rw [Int.toNat_natCast]
  refine wpAny_bind (dead_at hT ?_)
  simp only [Option.isNone_none, if_true]
  exact wpAny_bind (wpAny_pure (wpAny_pure h))

/-- zip's next where the tuple is free whatever field 0 keeps: both lists have an item -/
theorem zip_item_gone {z TI TO T i1 i2 l1 l2 : Addr} {f : Bool} {k1 k2 : Nat} {xs ys : Array Value} {x y a b : Value} {Q : Value → Shared → Prop} (D : ZipApart z TI TO i1 i2 l1 l2)
    (hz : IsZipHeld s.heap z TI TO T f) (hT : s.heap.get? T = none) (hTI : IsPair s.heap TI (.ref i1) (.ref i2)) (hTO : IsPair s.heap TO a b)
    (h1 : s.heap.IsListIter i1 l1 k1) (h2 : s.heap.IsListIter i2 l2 k2) (hl1 : s.heap.IsList l1 xs) (hl2 : s.heap.IsList l2 ys) (hx : xs[k1]? = some x) (hy : ys[k2]? = some y)
    (hQ : ∀ h', IsZipHeld h' z TI TO s.heap.objs.size false → IsPair h' TO x y → h'.IsListIter i1 l1 (k1 + 1) → h'.IsListIter i2 l2 (k2 + 1) → IsPair h' s.heap.objs.size x y → h'.objs.size = s.heap.objs.size + 1 →
      (∀ c o, c ≠ z → c ≠ TO → c ≠ i1 → c ≠ i2 → s.heap.get? c = some o → h'.get? c = some o) → Q (.ref s.heap.objs.size) { s with heap := h' }) :
    wpAny (model prog w) A (Builtin.«zip.__next__» ⟨[.ref z], []⟩) (fun fin s' => ∃ v, fin = .done (.ret v) ∧ Q v s') E s := by
  show wpAny _ _ (field (.ref z) 2 >>= _) _ _ _
  refine wpAny_bind (wpAny_field hz rfl (x := .bool false) rfl ?_)
  show wpAny _ _ (field (.ref z) 3 >>= _) _ _ _
  refine wpAny_bind (wpAny_field hz rfl (x := .ref TI) rfl (wpAny_bind (wpAny_seqItems hTI rfl ?_)))
  show wpAny _ _ (Builtin.SmallTypes.ownedTupleIsFree (.ref z) >>= _) _ _ _
  refine wpAny_bind (zip_gone hz hT ?_)
  simp only [if_true]
  refine wpAny_bind (wpAny_rule (wpAny_bind (wpAny_field hz rfl (x := .ref TO) rfl (wpAny_bind (wpAny_setField_rec hz (by simp) fun g1 z1 b1 => ?_)))))
  have z1 : g1.get? z = some { cls := .type "zip", dict := none, data := .fields #[.ellipsis, .bool f, .bool false, .ref TI, .ref TO], slots := #[] } := z1
  refine wpAny_bind ?_
  simp only [List.zipIdx_cons, List.zipIdx_nil, List.forIn_cons, List.forIn_nil]
  refine wpAny_bind (wpAny_bind (wpAny_onRaise ?_))
  show wpAny _ _ (Builtin.SmallTypes.nextOf (.ref i1) >>= _) _ _ _
  refine wpAny_bind (wpAny_nextOf_list_item (h1.extBut b1.extBut D.i1z) (hl1.extBut b1.extBut D.l1z) hx fun g2 j1 b2 => wpAny_pure ?_)
  have t2 : IsPair g2 TO a b := b2.extBut _ _ D.TOi1 (b1.extBut _ _ D.TOz hTO)
  refine wpAny_bind (wpAny_seqItems t2 rfl (wpAny_bind (wpAny_updateSeq_pair t2 fun g3 t3 b3 => ?_)))
  have t3 : IsPair g3 TO x b := t3
  refine wpAny_bind (wpAny_letGo (wpAny_pure ?_))
  refine wpAny_bind (wpAny_bind (wpAny_onRaise ?_))
  show wpAny _ _ (Builtin.SmallTypes.nextOf (.ref i2) >>= _) _ _ _
  refine wpAny_bind (wpAny_nextOf_list_item (((h2.extBut b1.extBut D.i2z).extBut b2.extBut D.i12.symm).extBut b3.extBut D.TOi2.symm)
    (((hl2.extBut b1.extBut D.l2z).extBut b2.extBut D.l2i1).extBut b3.extBut D.l2TO) hy fun g4 j2 b4 => wpAny_pure ?_)
  have t4 : IsPair g4 TO x b := b4.extBut _ _ D.TOi2 t3
  refine wpAny_bind (wpAny_seqItems t4 rfl (wpAny_bind (wpAny_updateSeq_pair t4 fun g5 t5 b5 => ?_)))
  have t5 : IsPair g5 TO x y := t5
  refine wpAny_bind (wpAny_letGo (wpAny_pure (wpAny_pure ?_)))
  refine wpAny_bind (wpAny_seqItems t5 rfl (wpAny_bind (wpAny_newTuple ?_)))
  have sz : g5.objs.size = s.heap.objs.size := by rw [b5.1, b4.1, b3.1, b2.1, b1.1]
  have z5 : g5.get? z = some { cls := .type "zip", dict := none, data := .fields #[.ellipsis, .bool f, .bool false, .ref TI, .ref TO], slots := #[] } := b5.extBut _ _ D.TOz.symm (b4.extBut _ _ D.i2z.symm (b3.extBut _ _ D.TOz.symm (b2.extBut _ _ D.i1z.symm z1)))
  have k5 : ∀ c o, c ≠ z → c ≠ TO → c ≠ i1 → c ≠ i2 → s.heap.get? c = some o → g5.get? c = some o := fun c o c1 c2 c3 c4 e =>
    b5.extBut _ _ c2 (b4.extBut _ _ c4 (b3.extBut _ _ c2 (b2.extBut _ _ c3 (b1.extBut _ _ c1 e))))
  have j1 : g5.IsListIter i1 l1 (k1 + 1) := ((j1.extBut b3.extBut D.TOi1.symm).extBut b4.extBut D.i12).extBut b5.extBut D.TOi1.symm
  have j2 : g5.IsListIter i2 l2 (k2 + 1) := j2.extBut b5.extBut D.TOi2.symm
  have lz : z < g5.objs.size := Heap.lt_size z5
  have lt : TO < g5.objs.size := Heap.lt_size t5
  have li1 : i1 < g5.objs.size := by obtain ⟨_, e, _⟩ := j1; exact Heap.lt_size e
  have li2 : i2 < g5.objs.size := by obtain ⟨_, e, _⟩ := j2; exact Heap.lt_size e
  show wpAny _ _ (Builtin.SmallTypes.ownedTupleHandOut (.ref z) (.ref g5.objs.size) >>= _) _ _ _
  refine wpAny_bind ?_
  unfold Builtin.SmallTypes.ownedTupleHandOut
  have z6 : (g5.push { cls := .type "tuple", data := .seq #[x, y] }).get? z = some { cls := .type "zip", dict := none, data := .fields #[.ellipsis, .bool f, .bool false, .ref TI, .ref TO], slots := #[] } := Heap.get?_push_of_some _ z5
  refine wpAny_bind (wpAny_setField_rec z6 (by simp) fun g7 z7 b7 => ?_)
  have z7 : IsZipHeld g7 z TI TO g5.objs.size f := z7
  refine wpAny_setField_rec z7 (by simp) fun g8 z8 b8 => ?_
  have z8 : IsZipHeld g8 z TI TO g5.objs.size false := z8
  have up : ∀ c o, c ≠ z → g5.get? c = some o → g8.get? c = some o := fun c o c1 e => b8.extBut _ _ c1 (b7.extBut _ _ c1 (Heap.get?_push_of_some _ e))
  have t8 : IsPair g8 g5.objs.size x y := b8.extBut _ _ (Nat.ne_of_gt lz) (b7.extBut _ _ (Nat.ne_of_gt lz) (Heap.get?_push_size _ rfl))
  have s8 : g8.objs.size = g5.objs.size + 1 := by rw [b8.1, b7.1, Heap.size_push]
  rw [sz] at z8 t8 s8
  refine wpAny_pure ⟨_, rfl, ?_⟩
  show Q (.ref g5.objs.size) _
  rw [sz]
  exact hQ g8 z8 (up _ _ D.TOz t5) (j1.at fun o e => up _ _ D.i1z e) (j2.at fun o e => up _ _ D.i2z e) t8 s8 fun c o c1 c2 c3 c4 e => up c o c1 (k5 c o c1 c2 c3 c4 e)
theorem zip_end_gone {z TI TO T i1 i2 l1 l2 : Addr} {f : Bool} {k1 k2 : Nat} {xs ys : Array Value} {a b : Value} {Q : Fin → Shared → Prop} (hh : A.handled = none) (D : ZipApart z TI TO i1 i2 l1 l2)
    (hz : IsZipHeld s.heap z TI TO T f) (hT : s.heap.get? T = none) (hTI : IsPair s.heap TI (.ref i1) (.ref i2)) (hTO : IsPair s.heap TO a b)
    (h1 : s.heap.IsListIter i1 l1 k1) (h2 : s.heap.IsListIter i2 l2 k2) (hl1 : s.heap.IsList l1 xs) (hl2 : s.heap.IsList l2 ys) (hend : xs[k1]? = none ∨ ys[k2]? = none)
    (hE : ∀ h' e, (∀ c o, c ≠ z → c ≠ TO → c ≠ i1 → c ≠ i2 → s.heap.get? c = some o → h'.get? c = some o) → (∃ o, h'.get? e = some o ∧ o.cls = .type "StopIteration") → E (.ref e) { s with heap := h' }) :
    wpAny (model prog w) A (Builtin.«zip.__next__» ⟨[.ref z], []⟩) Q E s := by
  show wpAny _ _ (field (.ref z) 2 >>= _) _ _ _
  refine wpAny_bind (wpAny_field hz rfl (x := .bool false) rfl ?_)
  show wpAny _ _ (field (.ref z) 3 >>= _) _ _ _
  refine wpAny_bind (wpAny_field hz rfl (x := .ref TI) rfl (wpAny_bind (wpAny_seqItems hTI rfl ?_)))
  show wpAny _ _ (Builtin.SmallTypes.ownedTupleIsFree (.ref z) >>= _) _ _ _
  refine wpAny_bind (zip_gone hz hT ?_)
  simp only [if_true]
  refine wpAny_bind (wpAny_rule (wpAny_bind (wpAny_field hz rfl (x := .ref TO) rfl (wpAny_bind (wpAny_setField_rec hz (by simp) fun g1 z1 b1 => ?_)))))
  have z1 : g1.get? z = some { cls := .type "zip", dict := none, data := .fields #[.ellipsis, .bool f, .bool false, .ref TI, .ref TO], slots := #[] } := z1
  refine wpAny_bind ?_
  simp only [List.zipIdx_cons, List.zipIdx_nil, List.forIn_cons, List.forIn_nil]
  refine wpAny_bind (wpAny_bind (wpAny_onRaise ?_))
  show wpAny _ _ (Builtin.SmallTypes.nextOf (.ref i1) >>= _) _ _ _
  cases hx : xs[k1]? with
  | none =>
    refine wpAny_bind (wpAny_nextOf_list_end hh (h1.extBut b1.extBut D.i1z) (hl1.extBut b1.extBut D.l1z) hx fun g2 e b2 he => ?_)
    obtain ⟨oe, hoe, hce⟩ := he
    have z2 := b2 _ _ D.i1z.symm z1
    have hez : e ≠ z := fun x => by subst x; rw [z2] at hoe; cases hoe; simp at hce
    refine wpAny_setField_rec z2 (by simp) fun g3 _ b3 => hE g3 e (fun c o c1 _ c3 _ x => b3.extBut _ _ c1 (b2 _ _ c3 (b1.extBut _ _ c1 x))) ⟨oe, b3.extBut _ _ hez hoe, hce⟩
  | some x =>
    have hy : ys[k2]? = none := by
      rcases hend with h | h
      · rw [hx] at h; cases h
      · exact h
    refine wpAny_bind (wpAny_nextOf_list_item (h1.extBut b1.extBut D.i1z) (hl1.extBut b1.extBut D.l1z) hx fun g2 j1 b2 => wpAny_pure ?_)
    have t2 : IsPair g2 TO a b := b2.extBut _ _ D.TOi1 (b1.extBut _ _ D.TOz hTO)
    refine wpAny_bind (wpAny_seqItems t2 rfl (wpAny_bind (wpAny_updateSeq_pair t2 fun g3 t3 b3 => ?_)))
    refine wpAny_bind (wpAny_letGo (wpAny_pure ?_))
    refine wpAny_bind (wpAny_bind (wpAny_onRaise ?_))
    show wpAny _ _ (Builtin.SmallTypes.nextOf (.ref i2) >>= _) _ _ _
    refine wpAny_bind (wpAny_nextOf_list_end hh (((h2.extBut b1.extBut D.i2z).extBut b2.extBut D.i12.symm).extBut b3.extBut D.TOi2.symm)
      (((hl2.extBut b1.extBut D.l2z).extBut b2.extBut D.l2i1).extBut b3.extBut D.l2TO) hy fun g4 e b4 he => ?_)
    obtain ⟨oe, hoe, hce⟩ := he
    have z4 := b4 _ _ D.i2z.symm (b3.extBut _ _ D.TOz.symm (b2.extBut _ _ D.i1z.symm z1))
    have hez : e ≠ z := fun x => by subst x; rw [z4] at hoe; cases hoe; simp at hce
    refine wpAny_setField_rec z4 (by simp) fun g5 _ b5 => hE g5 e (fun c o c1 c2 c3 c4 x => b5.extBut _ _ c1 (b4 _ _ c4 (b3.extBut _ _ c2 (b2.extBut _ _ c3 (b1.extBut _ _ c1 x))))) ⟨oe, b5.extBut _ _ hez hoe, hce⟩
theorem next_item_gone {z TI TO T i1 i2 l1 l2 : Addr} {f : Bool} {k1 k2 : Nat} {xs ys : Array Value} {x y a b : Value} {Q : Option Value → Shared → Prop} (D : ZipApart z TI TO i1 i2 l1 l2)
    (hz : IsZipHeld s.heap z TI TO T f) (hT : s.heap.get? T = none) (hTI : IsPair s.heap TI (.ref i1) (.ref i2)) (hTO : IsPair s.heap TO a b)
    (h1 : s.heap.IsListIter i1 l1 k1) (h2 : s.heap.IsListIter i2 l2 k2) (hl1 : s.heap.IsList l1 xs) (hl2 : s.heap.IsList l2 ys) (hx : xs[k1]? = some x) (hy : ys[k2]? = some y)
    (hQ : ∀ h', IsZipHeld h' z TI TO s.heap.objs.size false → IsPair h' TO x y → h'.IsListIter i1 l1 (k1 + 1) → h'.IsListIter i2 l2 (k2 + 1) → IsPair h' s.heap.objs.size x y → h'.objs.size = s.heap.objs.size + 1 →
      (∀ c o, c ≠ z → c ≠ TO → c ≠ i1 → c ≠ i2 → s.heap.get? c = some o → h'.get? c = some o) → Q (some (.ref s.heap.objs.size)) { s with heap := h' }) :
    wpAny (model prog w) A (pyNext (.ref z)) Q E s := by
  have hTy : s.TypeIs (.ref z) "zip" := ⟨_, hz, rfl⟩
  unfold pyNext
  exact wpAny_bind (wpAny_attempt (wpAny_callSpecial?_slot (name := Str.ofString "__next__") hTy F.slot_zip_next
    (wpAny_call_entry F.slot_zip_next hTy F.entry_zip_next
      (zip_item_gone D hz hT hTI hTO h1 h2 hl1 hl2 hx hy fun h' a1 a2 a3 a4 a5 a6 a7 => wpAny_pure (hQ h' a1 a2 a3 a4 a5 a6 a7)) (F.args_zip_next_1 _))))
theorem next_end_gone {z TI TO T i1 i2 l1 l2 : Addr} {f : Bool} {k1 k2 : Nat} {xs ys : Array Value} {a b : Value} {Q : Option Value → Shared → Prop} (hh : A.handled = none) (D : ZipApart z TI TO i1 i2 l1 l2)
    (hz : IsZipHeld s.heap z TI TO T f) (hT : s.heap.get? T = none) (hTI : IsPair s.heap TI (.ref i1) (.ref i2)) (hTO : IsPair s.heap TO a b)
    (h1 : s.heap.IsListIter i1 l1 k1) (h2 : s.heap.IsListIter i2 l2 k2) (hl1 : s.heap.IsList l1 xs) (hl2 : s.heap.IsList l2 ys) (hend : xs[k1]? = none ∨ ys[k2]? = none)
    (hQ : ∀ h', (∀ c o, c ≠ z → c ≠ TO → c ≠ i1 → c ≠ i2 → s.heap.get? c = some o → h'.get? c = some o) → Q none { s with heap := h' }) : wpAny (model prog w) A (pyNext (.ref z)) Q E s := by
  have hTy : s.TypeIs (.ref z) "zip" := ⟨_, hz, rfl⟩
  unfold pyNext
  refine wpAny_bind (wpAny_attempt (wpAny_callSpecial?_slot (name := Str.ofString "__next__") hTy F.slot_zip_next
    (wpAny_call_entry F.slot_zip_next hTy F.entry_zip_next (zip_end_gone hh D hz hT hTI hTO h1 h2 hl1 hl2 hend fun h' e hk he => ?_) (F.args_zip_next_1 _))))
  obtain ⟨o, ho, hc⟩ := he
  refine wpAny_bind (wpAny_isInstance (T := "StopIteration") (b := true) ⟨o, ho, hc⟩ isSubtype_stop ?_)
  exact wpAny_pure (hQ _ hk)
/-- where a zip stands: nothing is out, or the tuple T is -/
def ZipSt (h : Heap) (z TI TO : Addr) : Prop := IsZip h z TI TO .none ∨ ∃ (T : Addr) (f : Bool), IsZipHeld h z TI TO T f
theorem ZipSt.obj {h : Heap} {z TI TO : Addr} (q : ZipSt h z TI TO) : ∃ v f, h.get? z = some { cls := .type "zip", dict := none, data := .fields #[v, .bool f, .bool false, .ref TI, .ref TO], slots := #[] } := by
  rcases q with q | ⟨T, f, q⟩
  · exact ⟨_, _, q⟩
  · exact ⟨_, _, q⟩
theorem next_item {z TI TO i1 i2 l1 l2 : Addr} {k1 k2 : Nat} {xs ys : Array Value} {x y a b : Value} {Q : Option Value → Shared → Prop} (D : ZipApart z TI TO i1 i2 l1 l2)
    (hz : ZipSt s.heap z TI TO) (hTI : IsPair s.heap TI (.ref i1) (.ref i2)) (hTO : IsPair s.heap TO a b)
    (h1 : s.heap.IsListIter i1 l1 k1) (h2 : s.heap.IsListIter i2 l2 k2) (hl1 : s.heap.IsList l1 xs) (hl2 : s.heap.IsList l2 ys) (hx : xs[k1]? = some x) (hy : ys[k2]? = some y)
    (hQ : ∀ h', ZipSt h' z TI TO → (∃ a b, IsPair h' TO a b) → h'.IsListIter i1 l1 (k1 + 1) → h'.IsListIter i2 l2 (k2 + 1) → IsPair h' s.heap.objs.size x y →
      (∀ c o, c ≠ z → c ≠ TO → c ≠ i1 → c ≠ i2 → s.heap.get? c = some o → h'.get? c = some o) → Q (some (.ref s.heap.objs.size)) { s with heap := h' }) :
    wpAny (model prog w) A (pyNext (.ref z)) Q E s := by
  rcases hz with hz | ⟨T, f, hz⟩
  · exact wpAny_pyNext_zip_item D hz hTI hTO h1 h2 hl1 hl2 hx hy fun h' a1 a2 a3 a4 a5 _ a7 => hQ h' (.inr ⟨_, _, a1⟩) ⟨_, _, a2⟩ a3 a4 a5 a7
  · cases hT : s.heap.get? T with
    | none => exact next_item_gone D hz hT hTI hTO h1 h2 hl1 hl2 hx hy fun h' a1 a2 a3 a4 a5 _ a7 => hQ h' (.inr ⟨_, _, a1⟩) ⟨_, _, a2⟩ a3 a4 a5 a7
    | some oT => exact wpAny_pyNext_zip_item_held D hz hT hTI h1 h2 hl1 hl2 hx hy fun h' a1 a3 a4 a5 _ a7 => hQ h' (.inr ⟨_, _, a1⟩) ⟨_, _, a7 _ _ D.TOz D.TOi1 D.TOi2 hTO⟩ a3 a4 a5 fun c o c1 _ c3 c4 e => a7 c o c1 c3 c4 e
theorem next_end {z TI TO i1 i2 l1 l2 : Addr} {k1 k2 : Nat} {xs ys : Array Value} {a b : Value} {Q : Option Value → Shared → Prop} (hh : A.handled = none) (D : ZipApart z TI TO i1 i2 l1 l2)
    (hz : ZipSt s.heap z TI TO) (hTI : IsPair s.heap TI (.ref i1) (.ref i2)) (hTO : IsPair s.heap TO a b)
    (h1 : s.heap.IsListIter i1 l1 k1) (h2 : s.heap.IsListIter i2 l2 k2) (hl1 : s.heap.IsList l1 xs) (hl2 : s.heap.IsList l2 ys) (hend : xs[k1]? = none ∨ ys[k2]? = none)
    (hQ : ∀ h', (∀ c o, c ≠ z → c ≠ TO → c ≠ i1 → c ≠ i2 → s.heap.get? c = some o → h'.get? c = some o) → Q none { s with heap := h' }) : wpAny (model prog w) A (pyNext (.ref z)) Q E s := by
  rcases hz with hz | ⟨T, f, hz⟩
  · exact wpAny_pyNext_zip_end hh D hz hTI hTO h1 h2 hl1 hl2 hend hQ
  · cases hT : s.heap.get? T with
    | none => exact next_end_gone hh D hz hT hTI hTO h1 h2 hl1 hl2 hend hQ
    | some oT => exact wpAny_pyNext_zip_end_held hh D hz hT hTI h1 h2 hl1 hl2 hend fun h' k => hQ h' fun c o c1 _ c3 c4 e => k c o c1 c3 c4 e
end
/-- a turn over zip of two lists whatever the target, if it is a name -/
theorem turn_zipN {P : Program} {w : World} {K : PySem.W.Frag} {x : PySem.Str} {tpos : Pos} {a b z TI TO i1 i2 : Addr} (D : ZipApart z TI TO i1 i2 a b) :
    Turn P w K (.Name x tpos) (Itz K a b) [z, TI, TO, i1, i2] z (fun i h => ZipSt h z TI TO ∧ IsPair h TI (.ref i1) (.ref i2) ∧ (∃ x y, IsPair h TO x y) ∧ h.IsListIter i1 a i ∧ h.IsListIter i2 b i) where
  mem := by simp
  obj := fun i h st c hc => by
    obtain ⟨hz, hTI, ⟨x, y, hTO⟩, ⟨o1, e1, _, d1⟩, ⟨o2, e2, _, d2⟩⟩ := st
    obtain ⟨v, f, hz⟩ := hz.obj
    have e' : c = z ∨ c = TI ∨ c = TO ∨ c = i1 ∨ c = i2 := by simpa using hc
    rcases e' with q | q | q | q | q
    · rw [q]; exact ⟨_, hz, fun v q => nomatch q⟩
    · rw [q]; exact ⟨_, hTI, fun v q => nomatch q⟩
    · rw [q]; exact ⟨_, hTO, fun v q => nomatch q⟩
    · rw [q]; exact ⟨o1, e1, fun v q => by rw [d1] at q; cases q⟩
    · rw [q]; exact ⟨o2, e2, fun v q => by rw [d2] at q; cases q⟩
  keep := fun i h h' st k => by
    obtain ⟨hz, hTI, ⟨x, y, hTO⟩, h1, h2⟩ := st
    refine ⟨?_, k TI (by simp) _ hTI, ⟨x, y, k TO (by simp) _ hTO⟩, h1.at fun o q => k i1 (by simp) o q, h2.at fun o q => k i2 (by simp) o q⟩
    rcases hz with hz | ⟨T, f, hz⟩
    · exact .inl (k z (by simp) _ hz)
    · exact .inr ⟨T, f, k z (by simp) _ hz⟩
  item := by
    intro X hP hw hK hc i pins s σ H E I hf st hg
    subst hP hw hK
    obtain ⟨hz, hTI, ⟨x0, y0, hTO⟩, h1, h2⟩ := st
    obtain ⟨xs, ys, x, y, hqx, hqy, hx, hy⟩ := hg
    obtain ⟨its, rv, p, _⟩ := I.list hqx
    obtain ⟨its2, rv2, p2, _⟩ := I.list hqy
    obtain ⟨u, hu, ru⟩ := rv.get hx
    obtain ⟨u2, hu2, ru2⟩ := rv2.get hy
    have hzl : z < s.heap.objs.size := by obtain ⟨_, _, q⟩ := hz.obj; exact Heap.lt_size q
    refine next_item D hz hTI hTO h1 h2 p.isList p2.isList (x := u) (y := u2) (by simpa using hu) (by simpa using hu2) fun h' z' TO' h1' h2' hT hk => ?_
    refine ⟨_, rfl, wpAny_pure ?_⟩
    have new : ObjOk X.prog X.w (upd H s.heap.objs.size (.tup [x, y])) h' s.heap.objs.size (.tup [x, y]) :=
      ⟨by show 2 ≤ sizeLine; decide, [u, u2], .cons ru (.cons ru2 .nil), ⟨_, hT, rfl, _, rfl⟩⟩
    have I1 : Inv X pins σ (upd H s.heap.objs.size (.tup [x, y])) { s with heap := h' } :=
      I.turnedNew (t' := s.toks) (ch := [z, TI, TO, i1, i2]) (fun c o hb q => hk c o (fun q' => hb (by simp [q'])) (fun q' => hb (by simp [q'])) (fun q' => hb (by simp [q'])) (fun q' => hb (by simp [q'])) q) hf (Nat.le_refl _) new
    refine ⟨.ref s.heap.objs.size, _, I1, rfl, ⟨_, x, y, rfl, I.hok.fresh (Nat.le_refl _), rfl, fun l hl => by rw [I.list_inj hl hqx]; exact hx, fun l hl => by rw [I.list_inj hl hqy]; exact hy⟩, ⟨z', ?_, TO', h1', h2'⟩, fun c hcm => ?_⟩
    · exact hk _ _ D.TIz D.TITO D.TIi1 D.TIi2 hTI
    · have hlt : c < s.heap.objs.size := by
        have e' : c = z ∨ c = TI ∨ c = TO ∨ c = i1 ∨ c = i2 := by simpa using hcm
        rcases e' with q | q | q | q | q
        · rw [q]; exact hzl
        · rw [q]; exact Heap.lt_size hTI
        · rw [q]; exact Heap.lt_size hTO
        · rw [q]; obtain ⟨_, e1, _⟩ := h1; exact Heap.lt_size e1
        · rw [q]; obtain ⟨_, e2, _⟩ := h2; exact Heap.lt_size e2
      rw [upd_ne (Nat.ne_of_lt hlt)]
      exact (hf c hcm).1
  done := by
    intro X hP hw hK hc i pins s σ H E I hf st hg
    subst hP hw hK
    obtain ⟨hz, hTI, ⟨x0, y0, hTO⟩, h1, h2⟩ := st
    obtain ⟨xs, ys, hqx, hqy, hend⟩ := hg
    obtain ⟨its, rv, p, _⟩ := I.list hqx
    obtain ⟨its2, rv2, p2, _⟩ := I.list hqy
    have l1 := rv.length
    have l2 := rv2.length
    have he : its.toArray[i]? = none ∨ its2.toArray[i]? = none := by
      rcases hend with q | q
      · exact .inl (by simp; omega)
      · exact .inr (by simp; omega)
    exact next_end (I.ok.hd hc) D hz hTI hTO h1 h2 p.isList p2.isList he fun h' hk => ⟨rfl, I.turnedL (t' := s.toks) (ch := [z, TI, TO, i1, i2]) (fun c o hb q =>
      hk c o (fun q' => hb (by simp [q'])) (fun q' => hb (by simp [q'])) (fun q' => hb (by simp [q'])) (fun q' => hb (by simp [q'])) q) hf⟩
  self := fun A i s Q E st h => by
    obtain ⟨v, f, hz⟩ := st.1.obj
    have hT : s.TypeIs (.ref z) "zip" := ⟨_, hz, rfl⟩
    exact wpAny_pyIter_slot hT F.slot_zip_iter (wpAny_call_entry F.slot_zip_iter hT F.entry_zip_iter (wpAny_pure ⟨_, rfl, "zip", _, hT, F.slot_zip_next.lookup, h⟩) (F.args_zip_iter_1 _))
theorem pi_zipN {X : Cx} {e e2 : Expr} {ta : TA} {p pos tpos : Pos} {x : PySem.Str} (hg : Gl X "zip") (hm : X.mg "zip" = none) (ha : PA X [e, e2] ta)
    (hs : starEach [e, e2] X.env = (false, eval e X.env) :: starEach [e2] X.env := by rfl) (hpl : (backTo pos (starEach [e2] X.env)).any (·.1) = false := by rfl) :
    PI X (.Name x tpos) (.Call (.Name "zip" p) [e, e2] [] pos) (iZip X.K ta) := by
  refine ⟨fun pins s σ H R I h => ?_⟩
  refine Call_ (ld_blt I hg hm PyProof.Rows.boot_zip (PyProof.Rows.callWith_type1 (thn (ha.run pos pins s σ H _ I h) fun us s1 ⟨vs, H1, I1, r1, q1⟩ => ?_) hs hpl))
  obtain ⟨a, b, xs, ys, ex, hqx, hqy, q⟩ := q1
  subst ex
  cases r1 with
  | cons r rr =>
    cases rr with
    | cons r' rr =>
      cases rr
      cases r
      cases r'
      obtain ⟨its, rv, p1, _⟩ := I1.list hqx
      obtain ⟨its2, rv2, p2, _⟩ := I1.list hqy
      refine call_zip_2 p1.isList p2.isList fun h' hz hTI hTO h1 h2 hsz hk => wpAny_pyIter_zip hz ?_
      have I2 : Inv X pins σ H1 { s1 with heap := h' } := I1.kept (t' := s1.toks) hk
      refine ⟨s1.heap.objs.size + 4, [s1.heap.objs.size + 4, s1.heap.objs.size + 2, s1.heap.objs.size + 3, s1.heap.objs.size, s1.heap.objs.size + 1], _, _, H1, rfl, I2, turn_zipN (PySem.W.ktu_apart s1.heap.objs.size a b p1.lt p2.lt), ⟨.inl hz, hTI, ⟨_, _, hTO⟩, h1, h2⟩, fun c hcm => ?_, q⟩
      have hle : s1.heap.objs.size ≤ c := by
        have e' : c = s1.heap.objs.size + 4 ∨ c = s1.heap.objs.size + 2 ∨ c = s1.heap.objs.size + 3 ∨ c = s1.heap.objs.size ∨ c = s1.heap.objs.size + 1 := by simpa using hcm
        rcases e' with z | z | z | z | z <;> rw [z]
        · exact Nat.le_add_right _ _
        · exact Nat.le_add_right _ _
        · exact Nat.le_add_right _ _
        · exact Nat.le_refl _
        · exact Nat.le_add_right _ _
      exact I1.fpOk hle (I1.hok.fresh hle)
/-- a loop over zip of two lists that stand still -/
theorem for_zipN {K : PySem.W.Frag} {a b : Addr} {xs ys : List V} {g : TG} {tb : TS} {De : Ends} {σ : L2.St} {H : Hp} (hl : xs.length = ys.length) (J : Nat → L2.St → Hp → Prop)
    (h0 : J 0 σ H) (hx : ∀ i σ H, J i σ H → SqL K H a xs ∧ SqL K H b ys)
    (step : ∀ (i : Nat) (x y : V) (σ : L2.St) (H : Hp) (T : Addr), xs[i]? = some x → ys[i]? = some y → J i σ H → H T = none → g (.ref T) σ (upd H T (.tup [x, y])) fun σ2 H2 => tb { De with nx := J (i + 1), ct := J (i + 1), bk := De.nx } σ2 H2)
    (fin : ∀ σ H, J xs.length σ H → De.nx σ H) :
    ∃ W : Nat → Nat → L2.St → Hp → Prop, (∃ m, W 0 m σ H) ∧ ∀ i m σ H, W i m σ H →
      ((Itz K a b).stop i H ∧ De.nx σ H) ∨ ((Itz K a b).go i H ∧ ∃ N : L2.St → Hp → Prop, (∀ σ' H', N σ' H' → ∃ m', m' < m ∧ W (i + 1) m' σ' H') ∧ ∀ v H', (Itz K a b).yld i H v H' → g v σ H' fun σ2 H2 => tb { De with nx := N, ct := N, bk := De.nx } σ2 H2) := by
  refine ⟨fun i m σ H => J i σ H ∧ i + m = xs.length, ⟨xs.length, h0, by omega⟩, ?_⟩
  rintro i m σ H ⟨hJ, hi⟩
  obtain ⟨q1, q2⟩ := hx i σ H hJ
  cases m with
  | zero =>
    have e : i = xs.length := by omega
    subst e
    exact .inl ⟨⟨xs, ys, q1, q2, .inl (Nat.le_refl _)⟩, fin σ H hJ⟩
  | succ m =>
    have hi1 : i < xs.length := by omega
    have e1 : xs[i]? = some xs[i] := List.getElem?_eq_getElem hi1
    have e2 : ys[i]? = some (ys[i]'(by omega)) := List.getElem?_eq_getElem _
    refine .inr ⟨⟨xs, ys, _, _, q1, q2, e1, e2⟩, J (i + 1), fun σ' H' h => ⟨m, Nat.lt_succ_self m, h, by omega⟩, ?_⟩
    rintro v H' ⟨T, x, y, rfl, hT, rfl, hx', hy'⟩
    exact step i x y σ H T (hx' _ q1) (hy' _ q2) hJ hT
end K78
end
section
set_option maxHeartbeats 4000000
namespace K78
open PySem PySem.Spec PyProof.Rows L2
/-! ### the graph as an object -/
structure GA where
  o : Addr
  h : Addr
  a : Addr
  l : Addr
  s : Addr
  e : Addr
  m : Addr
def GA.fs (g : GA) : List (Str × V) := [("heads", .ref g.h), ("arguments", .ref g.a), ("leaders", .ref g.l), ("shapes", .ref g.s), ("least", .ref g.e), ("nodes", .ref g.m)]
/-- the mutable ones -/
def GA.mut (g : GA) : List Addr := [g.h, g.a, g.l, g.s, g.e, g.m]
def rg {α : Type} (n : Nat) (f : Nat → α) : List α := (List.range n).map f
section
variable {α : Type} {n : Nat} {f g : Nat → α}
theorem rg_len : (rg n f).length = n := by simp [rg]
theorem rg_get {i : Nat} (h : i < n) : (rg n f)[i]? = some (f i) := by simp [rg, h]
theorem rg_congr (h : ∀ i, i < n → f i = g i) : rg n f = rg n g := by
  unfold rg; exact List.map_congr_left fun i hi => h i (List.mem_range.mp hi)
theorem rg_push (v : α) : rg n f ++ [v] = rg (n + 1) (upF f n v) := by
  unfold rg
  rw [List.range_succ, List.map_append, List.map_singleton, upF_self]
  congr 1
  exact List.map_congr_left fun i hi => (upF_ne _ _ (by have := List.mem_range.mp hi; omega)).symm
theorem rg_set {i : Nat} (h : i < n) (v : α) : (rg n f).set i v = rg n (upF f i v) := by
  apply List.ext_getElem?
  intro j
  by_cases hj : j < n
  · rw [rg_get hj]
    by_cases e : j = i
    · subst e; rw [List.getElem?_set_self (by rw [rg_len]; exact h), upF_self]
    · rw [List.getElem?_set_ne (by omega), rg_get hj, upF_ne _ _ e]
  · rw [List.getElem?_eq_none (by rw [List.length_set, rg_len]; omega), List.getElem?_eq_none (by rw [rg_len]; omega)]
theorem rg_map {β : Type} (k : α → β) : (rg n f).map k = rg n (fun i => k (f i)) := by unfold rg; rw [List.map_map]; rfl
end
def hdV (N : List Str) (t : Tm) : V := if t.isV then .non else .str (sy N t)
def shV : Option Nat → V
  | none => .int (-1)
  | some n => natV n
def leV : Option Nat → V
  | none => .non
  | some n => natV n
structure GrAt (N : List Str) (C : Addr) (g : GA) (H : Hp) (G : Gr) : Prop where
  ob : ∃ dx, H g.o = some (.ins C dx g.fs)
  hh : H g.h = some (.lst (rg G.n fun i => hdV N (G.T i)))
  ha : H g.a = some (.lst (rg G.n fun i => .ref (G.R i))) ∧ ∀ i, i < G.n → ¬ G.R i ∈ g.mut ∧ H (G.R i) = some (.lst ((G.A i).map natV))
  hl : H g.l = some (.lst (rg G.n fun i => natV (G.L i)))
  hs : H g.s = some (.lst (rg G.n fun i => shV (G.S i)))
  he : H g.e = some (.lst (rg G.n fun i => leV (G.E i)))
  hm : ∃ kvs, H g.m = some (.dK kvs) ∧ kvs.map (·.1) = G.ks.map (fun (v : Nat) => (Sum.inl (v : Int) : Key)) ∧ (∀ v, v ∈ G.ks → valV kvs (Sum.inl (v : Int) : Key) = some (natV (G.M v))) ∧ ∀ v, ¬ v ∈ G.ks → valV kvs (Sum.inl (v : Int) : Key) = none
  nd : g.mut.Nodup
  small : G.n ≤ 1000 ∧ G.ks.length ≤ 1000
/-- all but the graph's mutable parts stand -/
def Fr (g : GA) (H H' : Hp) : Prop := ∀ b o, ¬ b ∈ g.mut → H b = some o → H' b = some o
theorem Fr.refl (g : GA) (H : Hp) : Fr g H H := fun _ _ _ h => h
theorem Fr.trans {g : GA} {H H1 H2 : Hp} (a : Fr g H H1) (b : Fr g H1 H2) : Fr g H H2 := fun x o n h => b x o n (a x o n h)
theorem Fr.of {g : GA} {H H1 : Hp} (a : Same H H1) : Fr g H H1 := fun x o _ h => a x o h
theorem Fr.upd {g : GA} {H : Hp} {p : Addr} {o : HO} (h : p ∈ g.mut) : Fr g H (upd H p o) := fun b o' n hb => by rw [upd_ne (fun e => by subst e; exact n h)]; exact hb
section
variable {N : List Str} {C : Addr} {g : GA} {H H' : Hp} {G : Gr}
theorem GrAt.same (h : GrAt N C g H G) (e : Same H H') : GrAt N C g H' G := by
  obtain ⟨⟨dx, h1⟩, h2, ⟨h3, h4⟩, h5, h6, h7, ⟨kvs, h8, h9⟩, h10, h11⟩ := h
  exact ⟨⟨dx, e _ _ h1⟩, e _ _ h2, ⟨e _ _ h3, fun i hi => ⟨(h4 i hi).1, e _ _ (h4 i hi).2⟩⟩, e _ _ h5, e _ _ h6, e _ _ h7, ⟨kvs, e _ _ h8, h9⟩, h10, h11⟩
theorem GrAt.om (h : GrAt N C g H G) : ¬ g.o ∈ g.mut := by
  obtain ⟨⟨dx, h1⟩, h2, ⟨h3, h4⟩, h5, h6, h7, ⟨kvs, h8, h9⟩, h10, h11⟩ := h
  intro q
  simp only [GA.mut, List.mem_cons, List.not_mem_nil, or_false] at q
  rcases q with q | q | q | q | q | q <;> rw [q] at h1
  · rw [h2] at h1; cases h1
  · rw [h3] at h1; cases h1
  · rw [h5] at h1; cases h1
  · rw [h6] at h1; cases h1
  · rw [h7] at h1; cases h1
  · rw [h8] at h1; cases h1
theorem GrAt.tup (h : GrAt N C g H G) (e : Fr g H H') : TupSame H H' := by
  obtain ⟨⟨dx, h1⟩, h2, ⟨h3, h4⟩, h5, h6, h7, ⟨kvs, h8, h9⟩, h10, h11⟩ := h
  intro b xs hb
  refine e b _ (fun q => ?_) hb
  simp only [GA.mut, List.mem_cons, List.not_mem_nil, or_false] at q
  rcases q with q | q | q | q | q | q <;> rw [q] at hb
  · rw [h2] at hb; cases hb
  · rw [h3] at hb; cases hb
  · rw [h5] at hb; cases hb
  · rw [h6] at hb; cases hb
  · rw [h7] at hb; cases hb
  · rw [h8] at hb; cases hb
theorem nd6 (h : g.mut.Nodup) : g.h ≠ g.a ∧ g.h ≠ g.l ∧ g.h ≠ g.s ∧ g.h ≠ g.e ∧ g.h ≠ g.m ∧ g.a ≠ g.l ∧ g.a ≠ g.s ∧ g.a ≠ g.e ∧ g.a ≠ g.m ∧ g.l ≠ g.s ∧ g.l ≠ g.e ∧ g.l ≠ g.m ∧ g.s ≠ g.e ∧ g.s ≠ g.m ∧ g.e ≠ g.m := by
  simp only [GA.mut, List.nodup_cons, List.mem_cons, List.not_mem_nil, or_false, not_or] at h
  obtain ⟨⟨a1, a2, a3, a4, a5⟩, ⟨b1, b2, b3, b4⟩, ⟨c1, c2, c3⟩, ⟨d1, d2⟩, e1, _⟩ := h
  exact ⟨a1, a2, a3, a4, a5, b1, b2, b3, b4, c1, c2, c3, d1, d2, e1⟩
/-- the leaders are written -/
theorem GrAt.setL (h : GrAt N C g H G) {i v : Nat} (hi : i < G.n) : GrAt N C g (upd H g.l (.lst ((rg G.n fun i => natV (G.L i)).set i (natV v)))) { G with L := upF G.L i v } := by
  have hom := h.om
  obtain ⟨⟨dx, h1⟩, h2, ⟨h3, h4⟩, h5, h6, h7, ⟨kvs, h8, h9⟩, h10, h11⟩ := h
  obtain ⟨n1, n2, n3, n4, n5, n6, n7, n8, n9, n10, n11, n12, n13, n14, n15⟩ := nd6 h10
  refine ⟨⟨dx, ?_⟩, ?_, ⟨?_, fun j hj => ⟨(h4 j hj).1, ?_⟩⟩, ?_, ?_, ?_, ⟨kvs, ?_, h9⟩, h10, h11⟩
  · rw [upd_ne (fun e => hom (by rw [e]; simp [GA.mut]))]; exact h1
  · rw [upd_ne n2]; exact h2
  · rw [upd_ne n6]; exact h3
  · rw [upd_ne (fun e => (h4 j hj).1 (by rw [e]; simp [GA.mut]))]; exact (h4 j hj).2
  · rw [upd_same, rg_set hi]
    exact congrArg (fun l => some (HO.lst l)) (rg_congr fun j hj => by unfold upF; by_cases q : j = i <;> simp [q])
  · rw [upd_ne (Ne.symm n10)]; exact h6
  · rw [upd_ne (Ne.symm n11)]; exact h7
  · rw [upd_ne (Ne.symm n12)]; exact h8
theorem GrAt.setS (h : GrAt N C g H G) {i : Nat} {v : Option Nat} (hi : i < G.n) : GrAt N C g (upd H g.s (.lst ((rg G.n fun i => shV (G.S i)).set i (shV v)))) { G with S := upF G.S i v } := by
  have hom := h.om
  obtain ⟨⟨dx, h1⟩, h2, ⟨h3, h4⟩, h5, h6, h7, ⟨kvs, h8, h9⟩, h10, h11⟩ := h
  obtain ⟨n1, n2, n3, n4, n5, n6, n7, n8, n9, n10, n11, n12, n13, n14, n15⟩ := nd6 h10
  refine ⟨⟨dx, ?_⟩, ?_, ⟨?_, fun j hj => ⟨(h4 j hj).1, ?_⟩⟩, ?_, ?_, ?_, ⟨kvs, ?_, h9⟩, h10, h11⟩
  · rw [upd_ne (fun e => hom (by rw [e]; simp [GA.mut]))]; exact h1
  · rw [upd_ne n3]; exact h2
  · rw [upd_ne n7]; exact h3
  · rw [upd_ne (fun e => (h4 j hj).1 (by rw [e]; simp [GA.mut]))]; exact (h4 j hj).2
  · rw [upd_ne n10]; exact h5
  · rw [upd_same, rg_set hi]
    exact congrArg (fun l => some (HO.lst l)) (rg_congr fun j hj => by unfold upF; by_cases q : j = i <;> simp [q])
  · rw [upd_ne (Ne.symm n13)]; exact h7
  · rw [upd_ne (Ne.symm n14)]; exact h8
theorem GrAt.setE (h : GrAt N C g H G) {i : Nat} {v : Option Nat} (hi : i < G.n) : GrAt N C g (upd H g.e (.lst ((rg G.n fun i => leV (G.E i)).set i (leV v)))) { G with E := upF G.E i v } := by
  have hom := h.om
  obtain ⟨⟨dx, h1⟩, h2, ⟨h3, h4⟩, h5, h6, h7, ⟨kvs, h8, h9⟩, h10, h11⟩ := h
  obtain ⟨n1, n2, n3, n4, n5, n6, n7, n8, n9, n10, n11, n12, n13, n14, n15⟩ := nd6 h10
  refine ⟨⟨dx, ?_⟩, ?_, ⟨?_, fun j hj => ⟨(h4 j hj).1, ?_⟩⟩, ?_, ?_, ?_, ⟨kvs, ?_, h9⟩, h10, h11⟩
  · rw [upd_ne (fun e => hom (by rw [e]; simp [GA.mut]))]; exact h1
  · rw [upd_ne n4]; exact h2
  · rw [upd_ne n8]; exact h3
  · rw [upd_ne (fun e => (h4 j hj).1 (by rw [e]; simp [GA.mut]))]; exact (h4 j hj).2
  · rw [upd_ne n11]; exact h5
  · rw [upd_ne n13]; exact h6
  · rw [upd_same, rg_set hi]
    exact congrArg (fun l => some (HO.lst l)) (rg_congr fun j hj => by unfold upF; by_cases q : j = i <;> simp [q])
  · rw [upd_ne (Ne.symm n15)]; exact h8
end
/-- what is known of the class -/
structure GrC (K : PySem.W.Frag) (C : Addr) : Prop where
  cl : Cls K C
  nh : NoAttr K C "heads"
  na : NoAttr K C "arguments"
  nl : NoAttr K C "leaders"
  ns : NoAttr K C "shapes"
  ne : NoAttr K C "least"
  nm : NoAttr K C "nodes"
section
variable (g : GA)
theorem fs_h : g.fs.lookup ("heads" : Str) = some (.ref g.h) := by unfold GA.fs; rw [List.lookup_cons]; simp
theorem fs_a : g.fs.lookup ("arguments" : Str) = some (.ref g.a) := by
  have e1 : (("arguments" : Str) == ("heads" : Str)) = false := by decide +kernel
  unfold GA.fs; rw [List.lookup_cons, e1, List.lookup_cons]; simp
theorem fs_l : g.fs.lookup ("leaders" : Str) = some (.ref g.l) := by
  have e1 : (("leaders" : Str) == ("heads" : Str)) = false := by decide +kernel
  have e2 : (("leaders" : Str) == ("arguments" : Str)) = false := by decide +kernel
  unfold GA.fs; rw [List.lookup_cons, e1, List.lookup_cons, e2, List.lookup_cons]; simp
theorem fs_s : g.fs.lookup ("shapes" : Str) = some (.ref g.s) := by
  have e1 : (("shapes" : Str) == ("heads" : Str)) = false := by decide +kernel
  have e2 : (("shapes" : Str) == ("arguments" : Str)) = false := by decide +kernel
  have e3 : (("shapes" : Str) == ("leaders" : Str)) = false := by decide +kernel
  unfold GA.fs; rw [List.lookup_cons, e1, List.lookup_cons, e2, List.lookup_cons, e3, List.lookup_cons]; simp
theorem fs_e : g.fs.lookup ("least" : Str) = some (.ref g.e) := by
  have e1 : (("least" : Str) == ("heads" : Str)) = false := by decide +kernel
  have e2 : (("least" : Str) == ("arguments" : Str)) = false := by decide +kernel
  have e3 : (("least" : Str) == ("leaders" : Str)) = false := by decide +kernel
  have e4 : (("least" : Str) == ("shapes" : Str)) = false := by decide +kernel
  unfold GA.fs; rw [List.lookup_cons, e1, List.lookup_cons, e2, List.lookup_cons, e3, List.lookup_cons, e4, List.lookup_cons]; simp
theorem fs_m : g.fs.lookup ("nodes" : Str) = some (.ref g.m) := by
  have e1 : (("nodes" : Str) == ("heads" : Str)) = false := by decide +kernel
  have e2 : (("nodes" : Str) == ("arguments" : Str)) = false := by decide +kernel
  have e3 : (("nodes" : Str) == ("leaders" : Str)) = false := by decide +kernel
  have e4 : (("nodes" : Str) == ("shapes" : Str)) = false := by decide +kernel
  have e5 : (("nodes" : Str) == ("least" : Str)) = false := by decide +kernel
  unfold GA.fs; rw [List.lookup_cons, e1, List.lookup_cons, e2, List.lookup_cons, e3, List.lookup_cons, e4, List.lookup_cons, e5, List.lookup_cons]; simp
theorem fs_no {m : Str} (h1 : (m == ("heads" : Str)) = false) (h2 : (m == ("arguments" : Str)) = false) (h3 : (m == ("leaders" : Str)) = false) (h4 : (m == ("shapes" : Str)) = false) (h5 : (m == ("least" : Str)) = false) (h6 : (m == ("nodes" : Str)) = false) : g.fs.lookup m = none := by
  unfold GA.fs; rw [List.lookup_cons, h1, List.lookup_cons, h2, List.lookup_cons, h3, List.lookup_cons, h4, List.lookup_cons, h5, List.lookup_cons, h6]; rfl
end
section
variable {P : Program} {w : World} {K : PySem.W.Frag} {mg : Str → Option Value} {base : Heap} {N : List Str} {C : Addr}
theorem ixn {n j : Nat} (hj : j < n) : ixN n (j : Int) = some j := by
  unfold ixN
  rw [if_pos (by omega), if_pos (by omega)]
  rfl
/-! ### leader -/
def spLead (N : List Str) (C : Addr) : Sp := fun vs H Q _ => ∃ (g : GA) (G : Gr) (rt rk : Nat → Nat) (i : Nat), vs = [.ref g.o, natV i] ∧ GrAt N C g H G ∧ i < G.n ∧ Ld G.n G.L rt rk ∧
  ∀ H' L', Fr g H H' → GrAt N C g H' { G with L := L' } → Ld G.n L' rt rk → Q (natV (rt i)) H'
theorem ok_leader (T : GrC K C) (D : DM K C "leader" "TermGraph.leader" s_G_leader ["self", "node"]) : OkM P w K mg base 1 C "leader" ["self", "node"] (spLead N C) := by
  refine D.ok sc_G_leader (fun vs H Q E h => ?_) (fun f cdv A outer s H vs Q E hr h => ?_)
  · obtain ⟨g, G, rt, rk, i, rfl, _⟩ := h
    rfl
  obtain ⟨g, G, rt, rk, i, rfl, hG, hi, hL, q⟩ := h
  have nd := sc_G_leader.nd
  refine ⟨_, pss_cons (ps_while PassesOwn.never (pt_cmpR op_ne (pe_ix ix_list (pe_fld (pv 0) rfl) (pv 1) (fun _ _ => rfl)) (pv 1) (nomark _))
      (pss_cons (ps_asg (pe_ix ix_list (pe_fld (pv 0) rfl) (pe_ix ix_list (pe_fld (pv 0) rfl) (pv 1) (fun _ _ => rfl)) (fun _ _ => rfl)) (pg_sub (pe_fld (pv 0) rfl) (pv 1) set_list))
      (pss_one (ps_set (i := 1) nd rfl (Or.inl rfl) (pe_ix ix_list (pe_fld (pv 0) rfl) (pv 1) (fun _ _ => rfl))))))
    (pss_one (ps_ret (pv 1))), ?_⟩
  refine ⟨fun m σ H1 => ∃ (L : Nat → Nat) (j : Nat), σ = [some (.ref g.o), some (natV j)] ∧ Fr g H H1 ∧ GrAt N C g H1 { G with L := L } ∧ Ld G.n L rt rk ∧ j < G.n ∧ rt j = rt i ∧ rk j ≤ m, ⟨rk i, G.L, i, rfl, Fr.refl g H, hG, hL, hi, rfl, Nat.le_refl _⟩, ?_⟩
  rintro m σ H1 ⟨L, j, rfl, f1, hG1, hL1, hj, ej, hm⟩
  obtain ⟨dx, ho⟩ := hG1.ob
  have hl := hG1.hl
  refine ⟨_, rfl, g.o, C, dx, _, _, rfl, ho, T.cl, T.nl, fs_l g, _, rfl, g.l, _, (j : Int), _, rfl, rfl, SqL.of hl, at_of (j := j) rfl (rg_get hj), ?_⟩
  refine ⟨_, rfl, rfl, _, rfl, ?_⟩
  by_cases e : L j = j
  · rw [decide_eq_true (show natV (L j) = natV j by rw [e])]
    refine iteF ?_
    refine ⟨_, rfl, ?_⟩
    have := hL1.eq j hj e
    rw [ej] at this
    have q' := q H1 L f1 hG1 hL1
    rw [this] at q'
    exact q'
  · rw [decide_eq_false (show ¬ natV (L j) = natV j from fun z => e (by have := V.int.inj z; omega))]
    refine iteT ?_
    have h1 := hL1.ne j hj e
    have hlj := hL1.lt j hj
    refine ⟨_, fun σ' H' h => ⟨rk (L (L j)), ?_, h⟩, ?_⟩
    · by_cases z : L (L j) = L j
      · rw [z]; omega
      · have := hL1.ne (L j) hlj z; omega
    refine ⟨_, rfl, g.o, C, dx, _, _, rfl, ho, T.cl, T.nl, fs_l g, _, rfl, g.o, C, dx, _, _, rfl, ho, T.cl, T.nl, fs_l g, _, rfl, g.l, _, (j : Int), _, rfl, rfl, SqL.of hl, at_of (j := j) rfl (rg_get hj),
      g.l, _, (L j : Int), _, rfl, rfl, SqL.of hl, at_of (j := L j) rfl (rg_get hlj), _, rfl, g.o, C, dx, _, _, rfl, ho, T.cl, T.nl, fs_l g, _, rfl, g.l, _, (j : Int), j, rfl, rfl, hl, ?_, ?_⟩
    · exact ixn (by rw [rg_len]; exact hj)
    have hG2 := hG1.setL (v := L (L j)) hj
    have hL2 := hL1.halve hj e
    obtain ⟨dx2, ho2⟩ := hG2.ob
    refine ⟨_, rfl, g.o, C, dx2, _, _, rfl, ho2, T.cl, T.nl, fs_l g, _, rfl, g.l, _, (j : Int), _, rfl, rfl, SqL.of hG2.hl, at_of (j := j) rfl (rg_get hj), ?_⟩
    refine ⟨upF L j (L (L j)), L (L j), ?_, f1.trans (Fr.upd (by simp [GA.mut])), hG2, hL2, hL1.lt _ hlj, ?_, Nat.le_refl _⟩
    · show [some (V.ref g.o), some (natV (upF L j (L (L j)) j))] = _
      rw [upF_self]
    · rw [hL1.rl _ hlj, hL1.rl j hj, ej]
end
end K78
end
section
set_option maxHeartbeats 4000000
namespace K78
open PySem PySem.Spec PyProof.Rows L2
theorem upF_eq {α : Type} (f : Nat → α) (i : Nat) : upF f i (f i) = f := by
  funext j; unfold upF; by_cases q : j = i
  · rw [if_pos q, q]
  · rw [if_neg q]
section
variable {P : Program} {w : World} {K : PySem.W.Frag} {mg : Str → Option Value} {base : Heap} {N : List Str} {C : Addr}
/-! ### merge -/
def spMerge (N : List Str) (C : Addr) : Sp := fun vs H Q _ => ∃ (g : GA) (G : Gr) (a b : Nat), vs = [.ref g.o, natV a, natV b] ∧ GrAt N C g H G ∧ a < G.n ∧ b < G.n ∧ a ≠ b ∧
  ∀ H' e, Fr g H H' → GrAt N C g H' (merged G a b e) → (G.E a = none → e = G.E b) → (G.E b = none → e = G.E a) → (e = G.E a ∨ e = G.E b) → Q .non H'
/-- the last part of merge -/
def tLeast (K : PySem.W.Frag) : TS := tIfS (tTest (tOp (fun x y H Q => y = V.non ∧ Q (V.bl (decide (x = V.non))) H) (tOp (rIxL K) (tFld K (tVar 0) "least") (tVar 1)) (tC V.non)))
  (tAsg (tOp (rIxL K) (tFld K (tVar 0) "least") (tVar 2)) (gSub (tFld K (tVar 0) "least") (tVar 1) rSetL))
  (tIfS (tTest (tOp (fun x y H Q => y = V.non ∧ Q (V.bl !decide (x = V.non)) H) (tOp (rIxL K) (tFld K (tVar 0) "least") (tVar 2)) (tC V.non)))
    (tAsg (tCB (fun xs H Q => ∃ i j, xs = [V.int i, V.int j] ∧ Q (V.int (if j < i then j else i)) H) (tCons (tOp (rIxL K) (tFld K (tVar 0) "least") (tVar 1)) (tCons (tOp (rIxL K) (tFld K (tVar 0) "least") (tVar 2)) tNil))) (gSub (tFld K (tVar 0) "least") (tVar 1) rSetL)) tNext)
theorem least_part {De : Ends} {g : GA} {G : Gr} {a b : Nat} {H : Hp} (T : GrC K C) (hG : GrAt N C g H G) (ha : a < G.n) (hb : b < G.n)
    (h : ∀ H' e, Fr g H H' → GrAt N C g H' { G with E := upF G.E a e } → (G.E a = none → e = G.E b) → (G.E b = none → e = G.E a) → (e = G.E a ∨ e = G.E b) → De.nx [some (.ref g.o), some (natV a), some (natV b)] H') :
    tLeast K De [some (.ref g.o), some (natV a), some (natV b)] H := by
  obtain ⟨dx, ho⟩ := hG.ob
  have ra : atI (rg G.n fun i => leV (G.E i)) (a : Int) = some (leV (G.E a)) := at_of (j := a) rfl (rg_get ha)
  have rb : atI (rg G.n fun i => leV (G.E i)) (b : Int) = some (leV (G.E b)) := at_of (j := b) rfl (rg_get hb)
  have wa : ixN (rg G.n fun i => leV (G.E i)).length (a : Int) = some a := ixn (by rw [rg_len]; exact ha)
  refine ⟨_, rfl, g.o, C, dx, _, _, rfl, ho, T.cl, T.ne, fs_e g, _, rfl, g.e, _, (a : Int), _, rfl, rfl, SqL.of hG.he, ra, rfl, _, rfl, ?_⟩
  cases ea : G.E a with
  | none =>
    refine iteT ?_
    refine ⟨_, rfl, g.o, C, dx, _, _, rfl, ho, T.cl, T.ne, fs_e g, _, rfl, g.e, _, (b : Int), _, rfl, rfl, SqL.of hG.he, rb, _, rfl, g.o, C, dx, _, _, rfl, ho, T.cl, T.ne, fs_e g, _, rfl, g.e, _, (a : Int), a, rfl, rfl, hG.he, wa, ?_⟩
    exact h _ _ (Fr.upd (by simp [GA.mut])) (hG.setE ha) (fun _ => rfl) (fun z => by rw [z, ea]) (.inr rfl)
  | some x =>
    refine iteF ?_
    refine ⟨_, rfl, g.o, C, dx, _, _, rfl, ho, T.cl, T.ne, fs_e g, _, rfl, g.e, _, (b : Int), _, rfl, rfl, SqL.of hG.he, rb, rfl, _, rfl, ?_⟩
    cases eb : G.E b with
    | none =>
      refine iteF ?_
      refine h _ (G.E a) (Fr.refl g H) ?_ (fun z => by rw [ea] at z; cases z) (fun _ => rfl) (.inl rfl)
      rw [upF_eq]; exact hG
    | some y =>
      refine iteT ?_
      refine ⟨_, rfl, g.o, C, dx, _, _, rfl, ho, T.cl, T.ne, fs_e g, _, rfl, g.e, _, (a : Int), _, rfl, rfl, SqL.of hG.he, ra, _, rfl, g.o, C, dx, _, _, rfl, ho, T.cl, T.ne, fs_e g, _, rfl, g.e, _, (b : Int), _, rfl, rfl, SqL.of hG.he, rb, (x : Int), (y : Int), by rw [ea, eb]; rfl, _, rfl, g.o, C, dx, _, _, rfl, ho, T.cl, T.ne, fs_e g, _, rfl, g.e, _, (a : Int), a, rfl, rfl, hG.he, wa, ?_⟩
      have e1 : V.int (if (y : Int) < (x : Int) then (y : Int) else (x : Int)) = leV (some (if y < x then y else x)) := by
        show V.int _ = V.int _
        congr 1
        by_cases z : y < x
        · rw [if_pos z, if_pos (by omega)]
        · rw [if_neg z, if_neg (by omega)]
      rw [e1]
      refine h _ _ (Fr.upd (by simp [GA.mut])) (hG.setE ha) (fun z => by rw [ea] at z; cases z) (fun z => by rw [eb] at z; cases z) ?_
      rw [ea, eb]
      by_cases z : y < x
      · rw [if_pos z]; exact .inr rfl
      · rw [if_neg z]; exact .inl rfl
theorem ok_merge (z1 : mg "min" = none) (T : GrC K C) (D : DM K C "merge" "TermGraph.merge" s_G_merge ["self", "first", "second"]) : OkM P w K mg base 1 C "merge" ["self", "first", "second"] (spMerge N C) := by
  refine D.ok sc_G_merge (fun vs H Q E h => ?_) (fun f cdv A outer s H vs Q E hr h => ?_)
  · obtain ⟨g, G, a, b, rfl, _⟩ := h
    rfl
  obtain ⟨g, G, a, b, rfl, hG, ha, hb, hne, q⟩ := h
  have nd := sc_G_merge.nd
  refine ⟨_, pss_cons (ps_asg (pv 1) (pg_sub (pe_fld (pv 0) rfl) (pv 2) set_list))
    (pss_cons (ps_if (pt_cmpR op_lt (pe_ix ix_list (pe_fld (pv 0) rfl) (pv 1) (fun _ _ => rfl)) pe_int (nomark _))
      (pss_one (ps_asg (pe_ix ix_list (pe_fld (pv 0) rfl) (pv 2) (fun _ _ => rfl)) (pg_sub (pe_fld (pv 0) rfl) (pv 1) set_list))) pss_nil)
    (pss_one (ps_if (pt_cmpR op_isN (pe_ix ix_list (pe_fld (pv 0) rfl) (pv 1) (fun _ _ => rfl)) pe_non (nomark _))
      (pss_one (ps_asg (pe_ix ix_list (pe_fld (pv 0) rfl) (pv 2) (fun _ _ => rfl)) (pg_sub (pe_fld (pv 0) rfl) (pv 1) set_list)))
      (pss_one (ps_if (pt_cmpR op_notN (pe_ix ix_list (pe_fld (pv 0) rfl) (pv 2) (fun _ _ => rfl)) pe_non (nomark _))
        (pss_one (ps_asg (pe_callB (call_min2 rfl) (by rfl) z1 (by decide +kernel) (pa_cons (pe_ix ix_list (pe_fld (pv 0) rfl) (pv 1) (fun _ _ => rfl)) (pa_cons (pe_ix ix_list (pe_fld (pv 0) rfl) (pv 2) (fun _ _ => rfl)) pa_nil))) (pg_sub (pe_fld (pv 0) rfl) (pv 1) set_list))) pss_nil))))), ?_⟩
  obtain ⟨dx, ho⟩ := hG.ob
  refine ⟨_, rfl, _, rfl, g.o, C, dx, _, _, rfl, ho, T.cl, T.nl, fs_l g, _, rfl, g.l, _, (b : Int), b, rfl, rfl, hG.hl, ixn (by rw [rg_len]; exact hb), ?_⟩
  have hG1 := hG.setL (v := a) hb
  have f1 : Fr g H (upd H g.l (.lst ((rg G.n fun i => natV (G.L i)).set b (natV a)))) := Fr.upd (by simp [GA.mut])
  generalize upd H g.l (.lst ((rg G.n fun i => natV (G.L i)).set b (natV a))) = H1 at hG1 f1
  obtain ⟨dx1, ho1⟩ := hG1.ob
  refine ⟨_, rfl, g.o, C, dx1, _, _, rfl, ho1, T.cl, T.ns, fs_s g, _, rfl, g.s, _, (a : Int), _, rfl, rfl, SqL.of hG1.hs, at_of (j := a) rfl (rg_get ha), ?_⟩
  cases ea : G.S a with
  | none =>
    refine ⟨-1, 0, rfl, rfl, _, rfl, ?_⟩
    refine iteT ?_
    refine ⟨_, rfl, g.o, C, dx1, _, _, rfl, ho1, T.cl, T.ns, fs_s g, _, rfl, g.s, _, (b : Int), _, rfl, rfl, SqL.of hG1.hs, at_of (j := b) rfl (rg_get hb), _, rfl, g.o, C, dx1, _, _, rfl, ho1, T.cl, T.ns, fs_s g, _, rfl, g.s, _, (a : Int), a, rfl, rfl, hG1.hs, ixn (by rw [rg_len]; exact ha), ?_⟩
    refine least_part T (hG1.setS (v := G.S b) ha) ha hb fun H' e f2 hG2 e1 e2 e3 => ?_
    refine q H' e (f1.trans ((Fr.upd (by simp [GA.mut])).trans f2)) ?_ e1 e2 e3
    have : orE (G.S a) (G.S b) = G.S b := by rw [ea]; rfl
    unfold merged
    rw [this]
    exact hG2
  | some x =>
    refine ⟨(x : Int), 0, rfl, rfl, _, rfl, ?_⟩
    rw [decide_eq_false (by omega)]
    refine iteF ?_
    refine least_part T hG1 ha hb fun H' e f2 hG2 e1 e2 e3 => ?_
    refine q H' e (f1.trans f2) ?_ e1 e2 e3
    have : orE (G.S a) (G.S b) = G.S a := by rw [ea]; rfl
    unfold merged
    rw [this, upF_eq]
    exact hG2
end
end K78
end
section
set_option maxHeartbeats 4000000
namespace K78
open PySem PySem.Spec PyProof.Rows L2
/-- a graph with one node more; the variables are not told yet -/
def pushG (G : Gr) (t : Tm) (as : List Nat) (ee : Option Nat) (r : Nat) : Gr := { G with n := G.n + 1, T := upF G.T G.n t, A := upF G.A G.n as, L := upF G.L G.n G.n, S := upF G.S G.n (if t.isV then none else some G.n), E := upF G.E G.n ee, R := upF G.R G.n r }
section
variable {P : Program} {w : World} {K : PySem.W.Frag} {mg : Str → Option Value} {base : Heap} {N : List Str} {C : Addr}
theorem rg_push' {α : Type} {n : Nat} {f : Nat → V} {k : α → V} {h : Nat → α} (v : α) (e : f = fun i => k (h i)) : rg n f ++ [k v] = rg (n + 1) fun i => k (upF h n v i) := by
  rw [rg_push, e]
  exact rg_congr fun i _ => by unfold upF; by_cases q : i = n <;> simp [q]
def spNew (N : List Str) (C : Addr) : Sp := fun vs H Q _ => ∃ (g : GA) (G : Gr) (t : Tm) (as : List Nat) (ee : Option Nat) (r : Addr), vs = [.ref g.o, hdV N t, .ref r, leV ee] ∧ GrAt N C g H G ∧ G.n + 1 ≤ 1000 ∧ ¬ r ∈ g.mut ∧ H r = some (.lst (as.map natV)) ∧
  ∀ H', Fr g H H' → GrAt N C g H' (pushG G t as ee r) → Q (natV G.n) H'
theorem kp {H : Hp} {x p : Addr} {o : HO} (ne : x ≠ p) (h : H x = some o) (v : HO) : upd H p v x = some o := by rw [upd_ne ne]; exact h
theorem push_at {g : GA} {H : Hp} {G : Gr} {t : Tm} {as : List Nat} {ee : Option Nat} {r : Addr} {sv : V} (hG : GrAt N C g H G) (hsz : G.n + 1 ≤ 1000) (hrm : ¬ r ∈ g.mut) (hrl : H r = some (.lst (as.map natV))) (hsv : sv = shV (if t.isV then none else some G.n)) :
    GrAt N C g (upd (upd (upd (upd (upd H g.h (.lst ((rg G.n fun i => hdV N (G.T i)) ++ [hdV N t]))) g.a (.lst ((rg G.n fun i => .ref (G.R i)) ++ [.ref r]))) g.l (.lst ((rg G.n fun i => natV (G.L i)) ++ [natV G.n]))) g.s (.lst ((rg G.n fun i => shV (G.S i)) ++ [sv]))) g.e (.lst ((rg G.n fun i => leV (G.E i)) ++ [leV ee]))) (pushG G t as ee r) := by
  have hom := hG.om
  obtain ⟨⟨dx, h1⟩, h2, ⟨h3, h4⟩, h5, h6, h7, ⟨kvs, h8, h9⟩, h10, h11⟩ := hG
  obtain ⟨n1, n2, n3, n4, n5, n6, n7, n8, n9, n10, n11, n12, n13, n14, n15⟩ := nd6 h10
  have mem : ∀ x, x = g.h ∨ x = g.a ∨ x = g.l ∨ x = g.s ∨ x = g.e ∨ x = g.m → x ∈ g.mut := fun x hx => by simp only [GA.mut, List.mem_cons, List.not_mem_nil, or_false]; exact hx
  have out : ∀ x o, ¬ x ∈ g.mut → H x = some o → upd (upd (upd (upd (upd H g.h (.lst ((rg G.n fun i => hdV N (G.T i)) ++ [hdV N t]))) g.a (.lst ((rg G.n fun i => .ref (G.R i)) ++ [.ref r]))) g.l (.lst ((rg G.n fun i => natV (G.L i)) ++ [natV G.n]))) g.s (.lst ((rg G.n fun i => shV (G.S i)) ++ [sv]))) g.e (.lst ((rg G.n fun i => leV (G.E i)) ++ [leV ee])) x = some o := fun x o hx h => by
    rw [upd_ne (fun e => hx (mem _ (by simp [e]))), upd_ne (fun e => hx (mem _ (by simp [e]))), upd_ne (fun e => hx (mem _ (by simp [e]))), upd_ne (fun e => hx (mem _ (by simp [e]))), upd_ne (fun e => hx (mem _ (by simp [e])))]
    exact h
  refine ⟨⟨dx, out _ _ hom h1⟩, ?_, ⟨?_, fun i hi => ?_⟩, ?_, ?_, ?_, ⟨kvs, ?_, h9⟩, h10, ⟨hsz, h11.2⟩⟩
  · rw [upd_ne n4, upd_ne n3, upd_ne n2, upd_ne n1, upd_same]
    exact congrArg (fun l => some (HO.lst l)) (rg_push' (k := hdV N) (h := G.T) t rfl)
  · rw [upd_ne n8, upd_ne n7, upd_ne n6, upd_same]
    exact congrArg (fun l => some (HO.lst l)) (rg_push' (k := V.ref) (h := G.R) r rfl)
  · show ¬ upF G.R G.n r i ∈ g.mut ∧ _ = some (HO.lst ((upF G.A G.n as i).map natV))
    by_cases q : i = G.n
    · subst q
      simp only [pushG, upF_self]
      exact ⟨hrm, out _ _ hrm hrl⟩
    · have hi' : i < G.n := by have : i < G.n + 1 := hi; omega
      simp only [pushG, upF_ne _ _ q]
      exact ⟨(h4 i hi').1, out _ _ (h4 i hi').1 (h4 i hi').2⟩
  · rw [upd_ne n11, upd_ne n10, upd_same]
    exact congrArg (fun l => some (HO.lst l)) (rg_push' (k := natV) (h := G.L) G.n rfl)
  · rw [upd_ne n13, upd_same, hsv]
    exact congrArg (fun l => some (HO.lst l)) (rg_push' (k := shV) (h := G.S) _ rfl)
  · rw [upd_same]
    exact congrArg (fun l => some (HO.lst l)) (rg_push' (k := leV) (h := G.E) ee rfl)
  · rw [upd_ne n15.symm, upd_ne n14.symm, upd_ne n12.symm, upd_ne n9.symm, upd_ne n5.symm]; exact h8
theorem sz1000 {n : Nat} (h : n ≤ 1000) : n < sizeLine := Nat.lt_of_lt_of_le (show n < 100001 by omega) (by decide)
theorem ok_new (z2 : mg "len" = none) (T : GrC K C) (D : DM K C "new_node" "TermGraph.new_node" s_G_new_node ["self", "symbol", "arguments", "variable"]) : OkM P w K mg base 1 C "new_node" ["self", "symbol", "arguments", "variable"] (spNew N C) := by
  refine D.ok sc_G_new_node (fun vs H Q E h => ?_) (fun f cdv A outer s H vs Q E hr h => ?_)
  · obtain ⟨g, G, t, as, ee, r, rfl, _⟩ := h
    rfl
  obtain ⟨g, G, t, as, ee, r, rfl, hG, hsz, hrm, hrl, q⟩ := h
  have nd := sc_G_new_node.nd
  refine ⟨_, pss_cons (ps_set (i := 4) nd rfl (Or.inl rfl) (pe_callB call_len_seq (by rfl) z2 PySem.boot_len (pa_cons (pe_fld (pv 0) rfl) pa_nil)))
    (pss_cons (ps_expr (pe_bm PySem.F.plainAttrs_list PySem.F.slot_list_append PySem.F.type_list_append mt_append (pe_fld (pv 0) rfl) (pa_cons (pv 1) pa_nil)))
    (pss_cons (ps_expr (pe_bm PySem.F.plainAttrs_list PySem.F.slot_list_append PySem.F.type_list_append mt_append (pe_fld (pv 0) rfl) (pa_cons (pv 2) pa_nil)))
    (pss_cons (ps_expr (pe_bm PySem.F.plainAttrs_list PySem.F.slot_list_append PySem.F.type_list_append mt_append (pe_fld (pv 0) rfl) (pa_cons (pv 4) pa_nil)))
    (pss_cons (ps_expr (pe_bm PySem.F.plainAttrs_list PySem.F.slot_list_append PySem.F.type_list_append mt_append (pe_fld (pv 0) rfl) (pa_cons (pe_ifExp (pt_cmpR op_isN (pv 1) pe_non (nomark _)) (pe_un un_neg pe_int) (pv 4)) pa_nil)))
    (pss_cons (ps_expr (pe_bm PySem.F.plainAttrs_list PySem.F.slot_list_append PySem.F.type_list_append mt_append (pe_fld (pv 0) rfl) (pa_cons (pv 3) pa_nil)))
    (pss_one (ps_ret (pv 4)))))))), ?_⟩
  obtain ⟨⟨dx, h1⟩, h2, ⟨h3, h4⟩, h5, h6, h7, ⟨kvs, h8, h9⟩, h10, h11⟩ := id hG
  obtain ⟨n1, n2, n3, n4, n5, n6, n7, n8, n9, n10, n11, n12, n13, n14, n15⟩ := nd6 h10
  have hom := hG.om
  have mem : ∀ x, x = g.h ∨ x = g.a ∨ x = g.l ∨ x = g.s ∨ x = g.e ∨ x = g.m → x ∈ g.mut := fun x hx => by simp only [GA.mut, List.mem_cons, List.not_mem_nil, or_false]; exact hx
  have o1 : g.o ≠ g.h := fun e => hom (mem _ (.inl e))
  have o2 : g.o ≠ g.a := fun e => hom (mem _ (.inr (.inl e)))
  have o3 : g.o ≠ g.l := fun e => hom (mem _ (.inr (.inr (.inl e))))
  have o4 : g.o ≠ g.s := fun e => hom (mem _ (.inr (.inr (.inr (.inl e)))))
  have o5 : g.o ≠ g.e := fun e => hom (mem _ (.inr (.inr (.inr (.inr (.inl e))))))
  have en : V.int ((rg G.n fun i => hdV N (G.T i)).length : Int) = natV G.n := by rw [rg_len]
  refine ⟨_, rfl, g.o, C, dx, _, _, rfl, h1, T.cl, T.nh, fs_h g, g.h, _, rfl, .inl (SqL.of h2), ?_⟩
  rw [en]
  refine ⟨_, rfl, g.o, C, dx, _, _, rfl, h1, T.cl, T.nh, fs_h g, .inl ⟨rfl, _, SqL.of h2⟩, _, rfl, g.h, _, _, rfl, rfl, h2, (by rw [rg_len]; exact sz1000 (by omega)), ?_⟩
  have g1 := kp n1.symm h3
  have l1 := kp n2.symm h5
  have s1 := kp n3.symm h6
  have e1 := kp n4.symm h7
  have m1 := kp n5.symm h8
  have ob1 := kp o1 h1
  refine ⟨_, rfl, g.o, C, dx, _, _, rfl, ob1 _, T.cl, T.na, fs_a g, .inl ⟨rfl, _, SqL.of (g1 _)⟩, _, rfl, g.a, _, _, rfl, rfl, g1 _, (by rw [rg_len]; exact sz1000 (by omega)), ?_⟩
  have l2 := kp n6.symm (l1 (.lst ((rg G.n fun i => hdV N (G.T i)) ++ [hdV N t])))
  have s2 := kp n7.symm (s1 (.lst ((rg G.n fun i => hdV N (G.T i)) ++ [hdV N t])))
  have e2 := kp n8.symm (e1 (.lst ((rg G.n fun i => hdV N (G.T i)) ++ [hdV N t])))
  have m2 := kp n9.symm (m1 (.lst ((rg G.n fun i => hdV N (G.T i)) ++ [hdV N t])))
  have ob2 := kp o2 (ob1 (.lst ((rg G.n fun i => hdV N (G.T i)) ++ [hdV N t])))
  refine ⟨_, rfl, g.o, C, dx, _, _, rfl, ob2 _, T.cl, T.nl, fs_l g, .inl ⟨rfl, _, SqL.of (l2 _)⟩, _, rfl, g.l, _, _, rfl, rfl, l2 _, (by rw [rg_len]; exact sz1000 (by omega)), ?_⟩
  have s3 := kp n10.symm (s2 (.lst ((rg G.n fun i => .ref (G.R i)) ++ [.ref r])))
  have e3 := kp n11.symm (e2 (.lst ((rg G.n fun i => .ref (G.R i)) ++ [.ref r])))
  have m3 := kp n12.symm (m2 (.lst ((rg G.n fun i => .ref (G.R i)) ++ [.ref r])))
  have ob3 := kp o3 (ob2 (.lst ((rg G.n fun i => .ref (G.R i)) ++ [.ref r])))
  refine ⟨_, rfl, g.o, C, dx, _, _, rfl, ob3 _, T.cl, T.ns, fs_s g, .inl ⟨rfl, _, SqL.of (s3 _)⟩, _, rfl, rfl, _, rfl, ?_⟩
  have e4 := kp n13.symm (e3 (.lst ((rg G.n fun i => natV (G.L i)) ++ [natV G.n])))
  have m4 := kp n14.symm (m3 (.lst ((rg G.n fun i => natV (G.L i)) ++ [natV G.n])))
  have ob4 := kp o4 (ob3 (.lst ((rg G.n fun i => natV (G.L i)) ++ [natV G.n])))
  have fin : ∀ H', Fr g H H' → GrAt N C g H' (pushG G t as ee r) → Q (natV G.n) H' := q
  cases nv : t.isV with
  | true =>
    rw [decide_eq_true (show hdV N t = V.non by unfold hdV; rw [nv]; rfl)]
    refine iteT ?_
    refine ⟨1, rfl, g.s, _, _, rfl, rfl, s3 _, (by rw [rg_len]; exact sz1000 (by omega)), ?_⟩
    refine ⟨_, rfl, g.o, C, dx, _, _, rfl, kp o4 (ob3 _) _, T.cl, T.ne, fs_e g, .inl ⟨rfl, _, SqL.of (e4 _)⟩, _, rfl, g.e, _, _, rfl, rfl, e4 _, (by rw [rg_len]; exact sz1000 (by omega)), ?_⟩
    refine ⟨_, rfl, q _ ?_ ?_⟩
    · exact (Fr.upd (mem _ (by simp))).trans ((Fr.upd (mem _ (by simp))).trans ((Fr.upd (mem _ (by simp))).trans ((Fr.upd (mem _ (by simp))).trans (Fr.upd (mem _ (by simp))))))
    · exact push_at hG hsz hrm hrl (by rw [nv]; rfl) 
  | false =>
    rw [decide_eq_false (show ¬ hdV N t = V.non by unfold hdV; rw [nv]; intro z; cases z)]
    refine iteF ?_
    refine ⟨_, rfl, g.s, _, _, rfl, rfl, s3 _, (by rw [rg_len]; exact sz1000 (by omega)), ?_⟩
    refine ⟨_, rfl, g.o, C, dx, _, _, rfl, kp o4 (ob3 _) _, T.cl, T.ne, fs_e g, .inl ⟨rfl, _, SqL.of (e4 _)⟩, _, rfl, g.e, _, _, rfl, rfl, e4 _, (by rw [rg_len]; exact sz1000 (by omega)), ?_⟩
    refine ⟨_, rfl, q _ ?_ ?_⟩
    · exact (Fr.upd (mem _ (by simp))).trans ((Fr.upd (mem _ (by simp))).trans ((Fr.upd (mem _ (by simp))).trans ((Fr.upd (mem _ (by simp))).trans (Fr.upd (mem _ (by simp))))))
    · exact push_at hG hsz hrm hrl (by rw [nv]; rfl) 
end
end K78
end
section
set_option maxHeartbeats 4000000
namespace K78
open PySem PySem.Spec PyProof.Rows L2
section
variable {P : Program} {w : World} {K : PySem.W.Frag} {mg : Str → Option Value} {base : Heap} {N : List Str} {C : Addr}
theorem GrAt.alloc {g : GA} {H : Hp} {G : Gr} (h : GrAt N C g H G) {x : Addr} (hx : x ∈ g.mut) : ∃ o, H x = some o := by
  obtain ⟨⟨dx, h1⟩, h2, ⟨h3, h4⟩, h5, h6, h7, ⟨kvs, h8, h9⟩, h10, h11⟩ := h
  simp only [GA.mut, List.mem_cons, List.not_mem_nil, or_false] at hx
  rcases hx with q | q | q | q | q | q <;> rw [q]
  · exact ⟨_, h2⟩
  · exact ⟨_, h3⟩
  · exact ⟨_, h5⟩
  · exact ⟨_, h6⟩
  · exact ⟨_, h7⟩
  · exact ⟨_, h8⟩
theorem GrAt.new {g : GA} {H : Hp} {G : Gr} (h : GrAt N C g H G) {x : Addr} (hx : H x = none) : ¬ x ∈ g.mut := fun q => by obtain ⟨o, ho⟩ := h.alloc q; rw [hx] at ho; cases ho
/-- another cell is written -/
theorem GrAt.other {g : GA} {H : Hp} {G : Gr} (h : GrAt N C g H G) {x : Addr} {o : HO} (hx : ¬ x ∈ g.mut) (h0 : x ≠ g.o) (hr : ∀ i, i < G.n → G.R i ≠ x) : GrAt N C g (upd H x o) G := by
  obtain ⟨⟨dx, h1⟩, h2, ⟨h3, h4⟩, h5, h6, h7, ⟨kvs, h8, h9⟩, h10, h11⟩ := h
  have ne : ∀ y, y ∈ g.mut → y ≠ x := fun y hy e => hx (e ▸ hy)
  refine ⟨⟨dx, kp h0.symm h1 _⟩, kp (ne _ (by simp [GA.mut])) h2 _, ⟨kp (ne _ (by simp [GA.mut])) h3 _, fun i hi => ⟨(h4 i hi).1, kp (hr i hi) (h4 i hi).2 _⟩⟩, kp (ne _ (by simp [GA.mut])) h5 _, kp (ne _ (by simp [GA.mut])) h6 _, kp (ne _ (by simp [GA.mut])) h7 _, ⟨kvs, kp (ne _ (by simp [GA.mut])) h8 _, h9⟩, h10, h11⟩
open Classical in
theorem GrAt.putM {g : GA} {H : Hp} {G : Gr} (h : GrAt N C g H G) {kvs : List (Key × V)} (hk : H g.m = some (.dK kvs)) {v k : Nat} (nv : ¬ v ∈ G.ks) (sz : G.ks.length + 1 ≤ 1000) :
    GrAt N C g (upd H g.m (.dK (putK kvs (Sum.inl (v : Int)) (natV k)))) { G with ks := G.ks ++ [v], M := upF G.M v k } := by
  have hom := h.om
  obtain ⟨⟨dx, h1⟩, h2, ⟨h3, h4⟩, h5, h6, h7, ⟨kvs', h8, h9, h9b, h9c⟩, h10, h11⟩ := h
  obtain ⟨n1, n2, n3, n4, n5, n6, n7, n8, n9, n10, n11, n12, n13, n14, n15⟩ := nd6 h10
  rw [h8] at hk
  cases hk
  refine ⟨⟨dx, kp (fun e => hom (by rw [e]; simp [GA.mut])) h1 _⟩, kp n5 h2 _, ⟨kp n9 h3 _, fun i hi => ⟨(h4 i hi).1, kp (fun e => (h4 i hi).1 (by rw [e]; simp [GA.mut])) (h4 i hi).2 _⟩⟩, kp n12 h5 _, kp n14 h6 _, kp n15 h7 _, ⟨_, upd_same, ?_, fun u hu => ?_, fun u hu => ?_⟩, h10, ⟨h11.1, by show (G.ks ++ [v]).length ≤ 1000; rw [List.length_append]; exact sz⟩⟩
  · rw [keys_put, if_neg (by rw [h9]; exact fun q => nv (mem_keys.mp q)), h9]
    show _ = (G.ks ++ [v]).map _
    rw [List.map_append]; rfl
  · show valV (putK kvs _ _) _ = some (natV (upF G.M v k u))
    by_cases e : u = v
    · subst e; rw [valV_put, if_pos rfl, upF_self]
    · rw [valV_put, if_neg (fun q => e (inl_inj.mp q)), upF_ne _ _ e]
      exact h9b u ((List.mem_append.mp hu).resolve_right fun q => e (List.mem_singleton.mp q))
  · have e : u ≠ v := fun q => hu (List.mem_append.mpr (.inr (by rw [q]; simp)))
    rw [valV_put, if_neg (fun q => e (inl_inj.mp q))]
    exact h9c u fun q => hu (List.mem_append.mpr (.inl q))
theorem push_var (G : Gr) (v r : Nat) : addV G v r = { pushG G (.v v) [] (some v) r with ks := G.ks ++ [v], M := upF G.M v G.n } := rfl
theorem push_app (G : Gr) {t : Tm} (nt : t.isV = false) (as : List Nat) (r : Nat) : addN G t as r = pushG G t as none r := by
  unfold addN pushG; rw [nt]; rfl
/-! ### add_term -/
def spAdd (N : List Str) (C : Addr) (n : Nat) : Sp := fun vs H Q _ => ∃ (g : GA) (G : Gr) (t : Tm) (x : V), vs = [.ref g.o, x] ∧ GrAt N C g H G ∧ Gst G ∧ Fresh G ∧ TmAt N H t x ∧ t.nest ≤ n ∧ G.n + t.size ≤ 1000 ∧ G.ks.length + t.size ≤ 1000 ∧
  ∀ H' G' i, Fr g H H' → GrAt N C g H' G' → Gst G' → Fresh G' → Ext G G' → i < G'.n → G'.T i = t → (∀ j, G.n ≤ j → j < G'.n → Sb (G'.T j) t ∧ H (G'.R j) = none) → G'.n ≤ G.n + t.size → G'.ks.length ≤ G.ks.length + t.size → Q (natV i) H'
theorem ok_add1 {n : Nat} (z1 : mg "tuple" = none) (T : GrC K C) (D : DM K C "add_term" "TermGraph.add_term" s_G_add_term ["self", "term"]) (G1 : OkD P w K mg base 1 "is_variable" ["term"] (spIsVar N)) (G2 : OkM P w K mg base 1 C "new_node" ["self", "symbol", "arguments", "variable"] (spNew N C))
    (G3 : OkM P w K mg base (n + 1) C "add_term" ["self", "term"] (spAdd N C n)) : OkM P w K mg base (n + 2) C "add_term" ["self", "term"] (spAdd N C (n + 1)) := by
  refine D.ok sc_G_add_term (fun vs H Q E h => ?_) (fun f cdv A outer s H vs Q E hr h => ?_)
  · obtain ⟨g, G, t, x, rfl, _⟩ := h
    rfl
  obtain ⟨g, G, t, x, rfl, hG, hst, hfr, ht, hn, hz1, hz2, q⟩ := h
  obtain ⟨f1, fd1, m1, k1, b1, F1, _⟩ := G1
  obtain ⟨f2, fd2, m2, b2, F2⟩ := G2
  obtain ⟨f3, fd3, m3, b3, F3⟩ := G3
  have hr1 : Room 1 _ := hr.mono (by omega)
  have hu := hu_of hr1
  have nd := sc_G_add_term.nd
  refine ⟨_, pss_cons (ps_if (pt_val (pe_call F1 hr1 rfl m1 k1 b1 .nil pass0 (pa_cons (pv 1) pa_nil)))
      (pss_cons (ps_if (pt_cmp (pc_dnotin hu (pv 1) (pe_fld (pv 0) rfl)))
        (pss_one (ps_dput hu (pe_fld (pv 0) rfl) (pv 1) (pe_meth (pv 0) T.cl m2 F2 hr1 b2 .nil pass0 (pa_cons pe_non (pa_cons (pe_lst pa_nil) (pa_cons (pv 1) pa_nil)))) rfl)) pss_nil)
      (pss_one (ps_ret (pe_dget hu (pe_fld (pv 0) rfl) (pv 1) (fun _ _ => rfl))))) pss_nil)
    (pss_cons (ps_setLc (i := 2) (own := [("part", 3)]) (g := gName 3) (tt := tYes) rfl nd rfl rfl (sw_true rfl rfl rfl (by decide +kernel)) (pi_tup (pe_slice sl_1 (pv 1) (po_some pe_int) po_none)) (blkOk_by (N := ["self", "term", "arguments", "part"]) (sc := defScope s_G_add_term) (by decide +kernel))
        (fun _ _ _ _ _ => pg_name (i := 3) nd rfl (Or.inl rfl)) (fun _ _ _ _ _ => pts_nil) (fun _ _ _ _ _ => pe_meth (pv 0) T.cl m3 F3 hr b3 .nil pass0 (pa_cons (pv 3) pa_nil)))
    (pss_one (ps_ret (pe_meth (pv 0) T.cl m2 F2 hr1 b2 .nil pass0 (pa_cons (pe_ix ix_tup (pv 1) pe_int (fun _ _ => rfl)) (pa_cons (pv 2) (pa_cons pe_non pa_nil))))))), ?_⟩
  obtain ⟨dx, ho⟩ := hG.ob
  obtain ⟨kvs, hk, hk1, hk2, hk3⟩ := hG.hm
  have no : ∀ {m : Str}, (m == ("heads" : Str)) = false → (m == ("arguments" : Str)) = false → (m == ("leaders" : Str)) = false → (m == ("shapes" : Str)) = false → (m == ("least" : Str)) = false → (m == ("nodes" : Str)) = false → g.fs.lookup m = none := fun h1 h2 h3 h4 h5 h6 => fs_no g h1 h2 h3 h4 h5 h6
  refine ⟨x, rfl, t, x, rfl, ht, _, rfl, ?_⟩
  cases e : t.isV with
  | true =>
    refine iteT ?_
    cases et : t with
    | c _ => rw [et] at e; cases e
    | f _ => rw [et] at e; cases e
    | g _ _ => rw [et] at e; cases e
    | v m =>
      subst et
      have ex : x = natV m := ht
      subst ex
      refine ⟨_, rfl, _, rfl, g.o, C, dx, _, _, rfl, ho, T.cl, T.nm, fs_m g, g.m, _, rfl, DGet.k (k := Sum.inl (m : Int)) hk, _, rfl, ?_⟩
      by_cases hmk : m ∈ G.ks
      · rw [hk2 m hmk]
        refine iteF ?_
        have hg : DGet H g.m (natV m) (some (natV (G.M m))) := by rw [← hk2 m hmk]; exact DGet.k (k := Sum.inl (m : Int)) hk
        obtain ⟨h1, h2⟩ := hst.mn m hmk
        refine ⟨_, rfl, g.o, C, dx, _, _, rfl, ho, T.cl, T.nm, fs_m g, _, rfl, g.m, _, rfl, hg, ?_⟩
        exact q H G (G.M m) (Fr.refl g H) hG hst hfr (Ext.refl G) h1 h2 (fun j a b => by omega) (by omega) (by omega)
      · rw [hk3 m hmk]
        refine iteT ?_
        refine ⟨_, rfl, g.o, dx, _, rfl, ho, no (by decide +kernel) (by decide +kernel) (by decide +kernel) (by decide +kernel) (by decide +kernel) (by decide +kernel), (show 0 ≤ sizeLine by decide), fun r hr0 => ⟨_, rfl, ?_⟩⟩
        have s1 : Same H (upd H r (.lst [])) := same_new hr0 _
        refine ⟨g, G, .v m, [], some m, r, rfl, hG.same s1, by have := size_pos (.v m); omega, hG.new hr0, upd_same, fun H2 f2 hG2 => ?_⟩
        obtain ⟨dx2, ho2⟩ := hG2.ob
        obtain ⟨kvs2, hkk, hkk1, hkk2⟩ := hG2.hm
        have sz2 : kvs2.length = G.ks.length := by have := congrArg List.length hkk1; rw [List.length_map, List.length_map] at this; exact this
        refine ⟨_, rfl, g.o, C, dx2, _, _, rfl, ho2, T.cl, T.nm, fs_m g, _, rfl, g.m, _, rfl, DPut.k (k := Sum.inl (m : Int)) hkk (sz1000 (by rw [sz2]; exact hG.small.2)), ?_⟩
        have hsz1 := size_pos (.v m)
        have hG3 := hG2.putM hkk (v := m) (k := G.n) hmk (by show G.ks.length + 1 ≤ 1000; omega)
        have f3 : Fr g H (upd H2 g.m (.dK (putK kvs2 (Sum.inl (m : Int)) (natV G.n)))) := (Fr.of s1).trans (f2.trans (Fr.upd (by simp [GA.mut])))
        rw [show natV m = kV (Sum.inl (m : Int)) from rfl] at *
        obtain ⟨dx3, ho3⟩ := hG3.ob
        have hgg : DGet (upd H2 g.m (.dK (putK kvs2 (Sum.inl (m : Int)) (natV G.n)))) g.m (natV m) (some (natV G.n)) := by
          have := DGet.k (k := Sum.inl (m : Int)) (H := upd H2 g.m (.dK (putK kvs2 (Sum.inl (m : Int)) (natV G.n)))) (a := g.m) upd_same
          rwa [valV_put, if_pos rfl] at this
        refine ⟨_, rfl, g.o, C, dx3, _, _, rfl, ho3, T.cl, T.nm, fs_m g, _, rfl, g.m, _, rfl, hgg, ?_⟩
        refine q _ (addV G m r) G.n f3 hG3 (hst.addV hmk r) (hfr.addV m r) (ext_addV G m r) (Nat.lt_succ_self _) (upF_self _ _ _) (fun j h1 h2 => ?_) (by show G.n + 1 ≤ _; omega) (by show (G.ks ++ [m]).length ≤ _; rw [List.length_append]; simp only [List.length_singleton]; omega)
        have ej : j = G.n := by have : j < G.n + 1 := h2; omega
        subst ej
        have e1 : (addV G m r).T G.n = .v m := upF_self _ _ _
        have e2 : (addV G m r).R G.n = r := upF_self _ _ _
        rw [e1, e2]
        exact ⟨Sb.refl _, hr0⟩
  | false =>
    refine iteF ?_
    obtain ⟨a, ys, rfl, ha, hkd⟩ := ht.app e
    have hl2 : ys.length ≤ 2 := by rw [hkd.length]; exact kids_le t
    refine ⟨_, rfl, _, rfl, a, _, ys, rfl, rfl, rfl, SqT.of ha, fun p hp => ?_⟩
    have s1 : Same H (upd H p (.tup ys)) := same_new hp _
    have hGp := hG.same s1
    refine ⟨p, rfl, ⟨_, SqT.of upd_same⟩, fun Dl hD => ?_⟩
    have hDm := hGp.new hD
    have hDo : Dl ≠ g.o := fun e => by obtain ⟨_, h⟩ := hGp.ob; rw [e, h] at hD; cases hD
    have hDR : ∀ j, j < G.n → G.R j ≠ Dl := fun j hj e => by have h := (hGp.ha.2 j hj).2; rw [e, hD] at h; cases h
    have hDp : Dl ≠ p := fun e => by rw [e, upd_same] at hD; cases hD
    refine lc_tup (K := K) (a := p) (xs := ys) (fun i H1 => ∃ (G1 : Gr) (is : List Nat), Fr g (upd H p (.tup ys)) H1 ∧ GrAt N C g H1 G1 ∧ Gst G1 ∧ Fresh G1 ∧ Ext G G1 ∧ is.map G1.T = t.kids.take i ∧ (∀ j, j ∈ is → j < G1.n) ∧ H1 Dl = some (.lst (is.map natV)) ∧
      (∀ j, G.n ≤ j → j < G1.n → Sb (G1.T j) t ∧ H (G1.R j) = none ∧ G1.R j ≠ Dl) ∧ G1.n ≤ G.n + ((t.kids.take i).map Tm.size).sum ∧ G1.ks.length ≤ G.ks.length + ((t.kids.take i).map Tm.size).sum) ?_ ?_ ?_ ?_
    · refine ⟨G, [], Fr.of (same_new hD _), hGp.other hDm hDo hDR, hst, hfr, Ext.refl G, by simp, fun j h => (by cases h), upd_same, fun j h1 h2 => by omega, by simp, by simp⟩
    · rintro i H1 _ ⟨G1, is, f1, hG1, _⟩
      exact SqT.of (f1 _ _ (hG.new hp) upd_same)
    · rintro i y H1 hi ⟨G1, is, f1, hG1, hst1, hfr1, hx1, his, hil, hD1, hnew, hn1, hk1⟩
      refine ⟨wipe_one y, ?_⟩
      obtain ⟨u, hu, hy⟩ := hkd.get hi
      obtain ⟨dx1, ho1⟩ := hG1.ob
      have hy1 : TmAt N H1 u y := (hy.same s1).tupS (hGp.tup f1)
      have hku := kid_nest hu hn
      have hsum := size_take_le hu
      have hz3 : t.size = 1 + (t.kids.map Tm.size).sum := size_kids t
      have hin : H1 g.o ≠ none := by rw [ho1]; intro z; cases z
      refine ⟨_, rfl, g.o, dx1, _, rfl, ho1, no (by decide +kernel) (by decide +kernel) (by decide +kernel) (by decide +kernel) (by decide +kernel) (by decide +kernel), _, rfl, g, G1, u, y, rfl, hG1, hst1, hfr1, hy1, hku, by omega, by omega, fun H2 G2 k f2 hG2 hst2 hfr2 hx2 hk hkT hnew2 hn2 hk2 => ?_⟩
      have hD2 := f2 _ _ hDm hD1
      have eil : is.length = i := by
        have h1 := congrArg List.length his
        rw [List.length_map, List.length_take] at h1
        have h2 := (List.getElem?_eq_some_iff.mp hu).1
        omega
      have hi2 : i < 2 := by have h2 := (List.getElem?_eq_some_iff.mp hi).1; omega
      -- the nodes that came with the part
      have hR2 : ∀ j, j < G2.n → G2.R j ≠ Dl := fun j hj => by
        by_cases q1 : j < G1.n
        · rw [hx2.R j q1]
          by_cases q2 : j < G.n
          · rw [hx1.R j q2]; exact hDR j q2
          · exact (hnew j (by omega) q1).2.2
        · intro e
          have := (hnew2 j (by omega) hj).2
          rw [e, hD1] at this; cases this
      refine ⟨is.map natV, hD2, by rw [List.length_map]; exact sz16 (by omega), G2, is ++ [k], fun b o nb hb => kp (ne_of_none hb hD) (f2 b o nb (f1 b o nb hb)) _, hG2.other hDm hDo hR2, hst2, hfr2, hx1.trans hx2, ?_, ?_, ?_, ?_, ?_, ?_⟩
      · rw [List.map_append, List.map_singleton, hkT, take_get hu, ← his]
        congr 1
        exact map_inj fun j hj => hx2.T j (hil j hj)
      · intro j hj
        rcases List.mem_append.mp hj with hj | hj
        · have := hil j hj; have := hx2.n; omega
        · rw [List.mem_singleton.mp hj]; exact hk
      · rw [upd_same, List.map_append]; rfl
      · intro j h1 h2
        refine ⟨?_, ?_, hR2 j h2⟩
        · by_cases q1 : j < G1.n
          · rw [hx2.T j q1]; exact (hnew j h1 q1).1
          · exact (hnew2 j (by omega) h2).1.kid (List.mem_of_getElem? hu)
        · by_cases q1 : j < G1.n
          · rw [hx2.R j q1]; exact (hnew j h1 q1).2.1
          · have h3 := (hnew2 j (by omega) h2).2
            cases h4 : H (G2.R j) with
            | none => rfl
            | some o =>
              have h5 : ¬ G2.R j ∈ g.mut := (hG2.ha.2 j h2).1
              rw [f1 _ _ h5 (s1 _ _ h4)] at h3; cases h3
      · rw [sum_take1 hu]; omega
      · rw [sum_take1 hu]; omega
    · rintro H1 ⟨G1, is, f1, hG1, hst1, hfr1, hx1, his, hil, hD1, hnew, hn1, hk1⟩
      rw [List.take_of_length_le (by rw [hkd.length]; exact Nat.le_refl _)] at his hn1 hk1
      have hz3 : t.size = 1 + (t.kids.map Tm.size).sum := size_kids t
      obtain ⟨dx1, ho1⟩ := hG1.ob
      have ha1 := hGp.tup f1 _ _ (s1 _ _ ha)
      refine ⟨_, rfl, g.o, dx1, _, rfl, ho1, no (by decide +kernel) (by decide +kernel) (by decide +kernel) (by decide +kernel) (by decide +kernel) (by decide +kernel), _, rfl, a, _, 0, _, rfl, rfl, SqT.of ha1, atI_nat (j := 0) rfl, _, rfl, ?_⟩
      refine ⟨g, G1, t, is, none, Dl, ?_, hG1, by omega, hDm, hD1, fun H2 f2 hG2 => ?_⟩
      · unfold hdV; rw [e]; rfl
      rw [← push_app G1 e] at hG2
      refine q H2 (addN G1 t is Dl) G1.n ((Fr.of s1).trans (f1.trans f2)) hG2 (hst1.addN e his hil Dl) (hfr1.addN e is Dl) (hx1.trans (ext_addN G1 t is Dl)) (Nat.lt_succ_self _) (upF_self _ _ _) (fun j h1 h2 => ?_) (by show G1.n + 1 ≤ _; omega) (by show G1.ks.length ≤ _; omega)
      by_cases q1 : j < G1.n
      · rw [(ext_addN G1 t is Dl).T j q1, (ext_addN G1 t is Dl).R j q1]
        exact ⟨(hnew j h1 q1).1, (hnew j h1 q1).2.1⟩
      · have ej : j = G1.n := by have : j < G1.n + 1 := h2; omega
        subst ej
        have e1 : (addN G1 t is Dl).T G1.n = t := upF_self _ _ _
        have e2 : (addN G1 t is Dl).R G1.n = Dl := upF_self _ _ _
        rw [e1, e2]
        refine ⟨Sb.refl _, ?_⟩
        cases h4 : H Dl with
        | none => rfl
        | some o => rw [s1 _ _ h4] at hD; cases hD
theorem ok_add (z1 : mg "tuple" = none) (T : GrC K C) (D : DM K C "add_term" "TermGraph.add_term" s_G_add_term ["self", "term"]) (G1 : OkD P w K mg base 1 "is_variable" ["term"] (spIsVar N)) (G2 : OkM P w K mg base 1 C "new_node" ["self", "symbol", "arguments", "variable"] (spNew N C)) :
    ∀ n, OkM P w K mg base (n + 1) C "add_term" ["self", "term"] (spAdd N C n)
  | 0 => (D.ok0 fun vs H Q E ⟨g, G, t, x, _, _, _, _, _, hn, _⟩ => absurd hn (by have := nest_pos t; omega)).mono (Nat.zero_le _)
  | n + 1 => ok_add1 z1 T D G1 G2 (ok_add z1 T D G1 G2 n)
end
end K78
end
section
set_option maxHeartbeats 4000000
namespace K78
open PySem PySem.Spec PyProof.Rows L2
/-! ### what makes an object -/
structure DI (K : PySem.W.Frag) (C : Addr) (qual : Str) (st : Stmt) (ps : List Str) : Prop where
  ex : ∃ (f : Addr) (fd : FuncData), Mk K C f ∧ Fun K "__init__" qual st f fd ∧ Binds K fd ps []
def OkI (P : Program) (w : World) (K : PySem.W.Frag) (mg : Str → Option Value) (base : Heap) (k : Nat) (C : Addr) (ps : List Str) (sp : Sp) : Prop :=
  ∃ (f : Addr) (fd : FuncData), Mk K C f ∧ Binds K fd ps [] ∧ FnOk P w K mg base CX0 k f fd ps sp
section
variable {P : Program} {w : World} {K : PySem.W.Frag} {mg : Str → Option Value} {base : Heap} {N : List Str} {C : Addr}
theorem DI.ok {qual : Str} {st : Stmt} {N ps : List Str} {k : Nat} {sp : Sp} (D : DI K C qual st ps) (S : FnScope N ps (defScope st)) (len : ∀ vs H Q E, sp vs H Q E → vs.length = ps.length)
    (hbody : ∀ (f : Addr) (cdv : Value) (A : Around) (outer : List Env) (s : Shared) (H : Hp) (vs : List V) (Q : VK) (E : XK), Room k (A.deeper (envOfC qual (defScope st) s.heap.objs.size f cdv)) → sp vs H Q E →
      ∃ t, PSs (cxOf CX0 P w K mg base N qual (defScope st) f cdv A outer s H E).nox (defBody st) t ∧ t { nx := fun _ H' => Q .non H', rt := Q } (start N vs) H) : OkI P w K mg base (k + 1) C ps sp := by
  obtain ⟨f, fd, hm, F, hb⟩ := D.ex
  exact ⟨f, fd, hm, hb, F.ok S len fun cdv A outer s H vs Q E hr h => hbody f cdv A outer s H vs Q E hr h⟩
/-! ### TermGraph() -/
def spGInit (N : List Str) (C : Addr) : Sp := fun vs H Q _ => ∃ (o dx : Addr), vs = [.ref o] ∧ H o = some (.ins C dx []) ∧
  ∀ g H', g.o = o → (∀ b ob, b ≠ o → H b = some ob → H' b = some ob) → (∀ x, x ∈ g.mut → H x = none) → GrAt N C g H' empG → Q .non H'
theorem fs_put (o h a l s e m : Addr) : putF "nodes" (.ref m) (putF "least" (.ref e) (putF "shapes" (.ref s) (putF "leaders" (.ref l) (putF "arguments" (.ref a) (putF "heads" (.ref h) []))))) = (GA.mk o h a l s e m).fs := by
  have e1 : ¬ (("heads" : Str) = "arguments") := by decide +kernel
  have e2 : ¬ (("heads" : Str) = "leaders") := by decide +kernel
  have e3 : ¬ (("heads" : Str) = "shapes") := by decide +kernel
  have e4 : ¬ (("heads" : Str) = "least") := by decide +kernel
  have e5 : ¬ (("heads" : Str) = "nodes") := by decide +kernel
  have f2 : ¬ (("arguments" : Str) = "leaders") := by decide +kernel
  have f3 : ¬ (("arguments" : Str) = "shapes") := by decide +kernel
  have f4 : ¬ (("arguments" : Str) = "least") := by decide +kernel
  have f5 : ¬ (("arguments" : Str) = "nodes") := by decide +kernel
  have g3 : ¬ (("leaders" : Str) = "shapes") := by decide +kernel
  have g4 : ¬ (("leaders" : Str) = "least") := by decide +kernel
  have g5 : ¬ (("leaders" : Str) = "nodes") := by decide +kernel
  have h4 : ¬ (("shapes" : Str) = "least") := by decide +kernel
  have h5 : ¬ (("shapes" : Str) = "nodes") := by decide +kernel
  have i5 : ¬ (("least" : Str) = "nodes") := by decide +kernel
  simp only [putF, if_neg e1, if_neg e2, if_neg e3, if_neg e4, if_neg e5, if_neg f2, if_neg f3, if_neg f4, if_neg f5, if_neg g3, if_neg g4, if_neg g5, if_neg h4, if_neg h5, if_neg i5, GA.fs]
theorem pfl {f : Str} {v : V} : ∀ {fs : List (Str × V)} {n : Nat}, fs.length ≤ n → (putF f v fs).length ≤ n + 1
  | [], n, h => by simp [putF]
  | (g, x) :: r, n, h => by
    unfold putF
    by_cases e : g = f
    · rw [if_pos e]; simp only [List.length_cons] at h ⊢; omega
    · rw [if_neg e]
      simp only [List.length_cons] at h ⊢
      have := pfl (f := f) (v := v) (fs := r) (n := n - 1) (by omega)
      omega
theorem ini_step {H : Hp} {o x : Addr} {X O ob : HO} (ho : H o = some ob) (hx : H x = none) : upd (upd H x X) o O o = some O ∧ upd (upd H x X) o O x = some X ∧ (∀ b v, b ≠ o → H b = some v → upd (upd H x X) o O b = some v) ∧ x ≠ o := by
  have ne : x ≠ o := fun e => by rw [e, ho] at hx; cases hx
  exact ⟨upd_same, by rw [upd_ne ne, upd_same], fun b v hb h => by rw [upd_ne hb, upd_ne (ne_of_none h hx)]; exact h, ne⟩
theorem ok_ginit (T : GrC K C) (D : DI K C "TermGraph.__init__" s_G_init ["self"]) : OkI P w K mg base 1 C ["self"] (spGInit N C) := by
  refine D.ok sc_G_init (fun vs H Q E h => ?_) (fun f cdv A outer s H vs Q E hr h => ?_)
  · obtain ⟨o, dx, rfl, _⟩ := h
    rfl
  obtain ⟨o, dx, rfl, ho, q⟩ := h
  refine ⟨_, pss_cons (ps_fld (pv 0) (pe_lst pa_nil) rfl) (pss_cons (ps_fld (pv 0) (pe_lst pa_nil) rfl) (pss_cons (ps_fld (pv 0) (pe_lst pa_nil) rfl) (pss_cons (ps_fld (pv 0) (pe_lst pa_nil) rfl) (pss_cons (ps_fld (pv 0) (pe_lst pa_nil) rfl) (pss_one (ps_fld (pv 0) pe_dnewK rfl)))))), ?_⟩
  have z0 : 0 ≤ sizeLine := by decide
  refine ⟨z0, fun h hh => ⟨_, rfl, o, C, dx, _, rfl, kp (ne_of_none ho hh) ho _, T.cl, T.nh, by decide, ?_⟩⟩
  obtain ⟨a1, a2, a3, a4⟩ := ini_step (X := .lst []) (O := .ins C dx (putF "heads" (.ref h) [])) ho hh
  generalize upd (upd H h (.lst [])) o (.ins C dx (putF "heads" (.ref h) [])) = H1 at a1 a2 a3
  refine ⟨z0, fun a ha => ⟨_, rfl, o, C, dx, _, rfl, kp (ne_of_none a1 ha) a1 _, T.cl, T.na, Nat.lt_of_le_of_lt (pfl (Nat.le_refl 0)) (by decide), ?_⟩⟩
  obtain ⟨b1, b2, b3, b4⟩ := ini_step (X := .lst []) (O := .ins C dx (putF "arguments" (.ref a) (putF "heads" (.ref h) []))) a1 ha
  have c1 := b3 _ _ a4 a2
  have d1 : a ≠ h := fun e => by rw [e, a2] at ha; cases ha
  generalize upd (upd H1 a (.lst [])) o _ = H2 at b1 b2 b3 c1
  refine ⟨z0, fun l hl => ⟨_, rfl, o, C, dx, _, rfl, kp (ne_of_none b1 hl) b1 _, T.cl, T.nl, Nat.lt_of_le_of_lt (pfl (pfl (Nat.le_refl 0))) (by decide), ?_⟩⟩
  obtain ⟨b1', b2', b3', b4'⟩ := ini_step (X := .lst []) (O := .ins C dx (putF "leaders" (.ref l) (putF "arguments" (.ref a) (putF "heads" (.ref h) [])))) b1 hl
  have c2 := b3' _ _ a4 c1
  have c3 := b3' _ _ b4 b2
  have d2 : l ≠ h := fun e => by rw [e, c1] at hl; cases hl
  have d3 : l ≠ a := fun e => by rw [e, b2] at hl; cases hl
  generalize upd (upd H2 l (.lst [])) o _ = H3 at b1' b2' b3' c2 c3
  refine ⟨z0, fun s' hs => ⟨_, rfl, o, C, dx, _, rfl, kp (ne_of_none b1' hs) b1' _, T.cl, T.ns, Nat.lt_of_le_of_lt (pfl (pfl (pfl (Nat.le_refl 0)))) (by decide), ?_⟩⟩
  obtain ⟨q1, q2, q3, q4⟩ := ini_step (X := .lst []) (O := .ins C dx (putF "shapes" (.ref s') (putF "leaders" (.ref l) (putF "arguments" (.ref a) (putF "heads" (.ref h) []))))) b1' hs
  have c4 := q3 _ _ a4 c2
  have c5 := q3 _ _ b4 c3
  have c6 := q3 _ _ b4' b2'
  have d4 : s' ≠ h := fun e => by rw [e, c2] at hs; cases hs
  have d5 : s' ≠ a := fun e => by rw [e, c3] at hs; cases hs
  have d6 : s' ≠ l := fun e => by rw [e, b2'] at hs; cases hs
  generalize upd (upd H3 s' (.lst [])) o _ = H4 at q1 q2 q3 c4 c5 c6
  refine ⟨z0, fun e' he => ⟨_, rfl, o, C, dx, _, rfl, kp (ne_of_none q1 he) q1 _, T.cl, T.ne, Nat.lt_of_le_of_lt (pfl (pfl (pfl (pfl (Nat.le_refl 0))))) (by decide), ?_⟩⟩
  obtain ⟨r1, r2, r3, r4⟩ := ini_step (X := .lst []) (O := .ins C dx (putF "least" (.ref e') (putF "shapes" (.ref s') (putF "leaders" (.ref l) (putF "arguments" (.ref a) (putF "heads" (.ref h) [])))))) q1 he
  have c7 := r3 _ _ a4 c4
  have c8 := r3 _ _ b4 c5
  have c9 := r3 _ _ b4' c6
  have c10 := r3 _ _ q4 q2
  have d7 : e' ≠ h := fun e => by rw [e, c4] at he; cases he
  have d8 : e' ≠ a := fun e => by rw [e, c5] at he; cases he
  have d9 : e' ≠ l := fun e => by rw [e, c6] at he; cases he
  have d10 : e' ≠ s' := fun e => by rw [e, q2] at he; cases he
  generalize upd (upd H4 e' (.lst [])) o _ = H5 at r1 r2 r3 c7 c8 c9 c10
  refine fun m hm => ⟨_, rfl, o, C, dx, _, rfl, kp (ne_of_none r1 hm) r1 _, T.cl, T.nm, Nat.lt_of_le_of_lt (pfl (pfl (pfl (pfl (pfl (Nat.le_refl 0)))))) (by decide), ?_⟩
  obtain ⟨t1, t2, t3, t4⟩ := ini_step (X := .dK []) (O := .ins C dx (putF "nodes" (.ref m) (putF "least" (.ref e') (putF "shapes" (.ref s') (putF "leaders" (.ref l) (putF "arguments" (.ref a) (putF "heads" (.ref h) []))))))) r1 hm
  have d11 : m ≠ h := fun e => by rw [e, c7] at hm; cases hm
  have d12 : m ≠ a := fun e => by rw [e, c8] at hm; cases hm
  have d13 : m ≠ l := fun e => by rw [e, c9] at hm; cases hm
  have d14 : m ≠ s' := fun e => by rw [e, c10] at hm; cases hm
  have d15 : m ≠ e' := fun e => by rw [e, r2] at hm; cases hm
  have e1 := t3 _ _ a4 c7
  have e2 := t3 _ _ b4 c8
  have e3 := t3 _ _ b4' c9
  have e4 := t3 _ _ q4 c10
  have e5 := t3 _ _ r4 r2
  have back : ∀ {Hk : Hp} {x : Addr}, (∀ b v, b ≠ o → H b = some v → Hk b = some v) → x ≠ o → Hk x = none → H x = none := fun {Hk x} f ne hn => by
    cases z : H x with
    | none => rfl
    | some v => rw [f x v ne z] at hn; cases hn
  have fr1 : ∀ b v, b ≠ o → H b = some v → H1 b = some v := a3
  have fr2 : ∀ b v, b ≠ o → H b = some v → H2 b = some v := fun b v n z => b3 _ _ n (fr1 b v n z)
  have fr3 : ∀ b v, b ≠ o → H b = some v → H3 b = some v := fun b v n z => b3' _ _ n (fr2 b v n z)
  have fr4 : ∀ b v, b ≠ o → H b = some v → H4 b = some v := fun b v n z => q3 _ _ n (fr3 b v n z)
  have fr5 : ∀ b v, b ≠ o → H b = some v → H5 b = some v := fun b v n z => r3 _ _ n (fr4 b v n z)
  have hnew : ∀ x, x ∈ (GA.mk o h a l s' e' m).mut → H x = none := fun x hx => by
    simp only [GA.mut, List.mem_cons, List.not_mem_nil, or_false] at hx
    rcases hx with z | z | z | z | z | z <;> rw [z]
    · exact hh
    · exact back fr1 b4 ha
    · exact back fr2 b4' hl
    · exact back fr3 q4 hs
    · exact back fr4 r4 he
    · exact back fr5 t4 hm
  refine q ⟨o, h, a, l, s', e', m⟩ _ rfl (fun b ob hb hob => t3 _ _ hb (r3 _ _ hb (q3 _ _ hb (b3' _ _ hb (b3 _ _ hb (a3 _ _ hb hob)))))) hnew ⟨⟨dx, ?_⟩, e1, ⟨e2, fun i hi => absurd hi (Nat.not_lt_zero i)⟩, e3, e4, e5, ⟨[], t2, rfl, fun v hv => (by cases hv), fun v _ => rfl⟩, ?_, ⟨by decide, by decide⟩⟩
  · rw [← fs_put]; exact t1
  · simp only [GA.mut, List.nodup_cons, List.mem_cons, List.not_mem_nil, or_false, not_or, not_false_eq_true, List.nodup_nil, and_true]
    exact ⟨⟨d1.symm, d2.symm, d4.symm, d7.symm, d11.symm⟩, ⟨d3.symm, d5.symm, d8.symm, d12.symm⟩, ⟨d6.symm, d9.symm, d13.symm⟩, ⟨d10.symm, d14.symm⟩, d15.symm⟩
end
end K78
end
section
set_option maxHeartbeats 4000000
namespace K78
open PySem PySem.Spec PyProof.Rows L2
section
variable {P : Program} {w : World} {K : PySem.W.Frag} {mg : Str → Option Value} {base : Heap} {N : List Str} {C : Addr}
def spBelow (N : List Str) (C : Addr) : Sp := fun vs H Q _ => ∃ (g : GA) (G : Gr) (rt rk : Nat → Nat) (r : Nat), vs = [.ref g.o, natV r] ∧ GrAt N C g H G ∧ r < G.n ∧ Ld G.n G.L rt rk ∧ (∀ s, G.S r = some s → s < G.n ∧ (∀ j, j ∈ G.A s → j < G.n) ∧ (G.A s).length ≤ 2) ∧
  ∀ H' L' p, Fr g H H' → GrAt N C g H' { G with L := L' } → Ld G.n L' rt rk → H p = none → H' p = some (.lst ((belowF G rt r).map natV)) → Q (.ref p) H'
theorem ok_below (T : GrC K C) (D : DM K C "below" "TermGraph.below" s_G_below ["self", "group"]) (G1 : OkM P w K mg base 1 C "leader" ["self", "node"] (spLead N C)) : OkM P w K mg base 2 C "below" ["self", "group"] (spBelow N C) := by
  refine D.ok sc_G_below (fun vs H Q E h => ?_) (fun f cdv A outer s H vs Q E hr h => ?_)
  · obtain ⟨g, G, rt, rk, r, rfl, _⟩ := h
    rfl
  obtain ⟨g, G, rt, rk, r, rfl, hG, hrn, hL, hsn, q⟩ := h
  obtain ⟨f1, fd1, m1, b1, F1⟩ := G1
  have nd := sc_G_below.nd
  refine ⟨_, pss_cons (ps_set (i := 2) nd rfl (Or.inl rfl) (pe_ix ix_list (pe_fld (pv 0) rfl) (pv 1) (fun _ _ => rfl)))
    (pss_cons (ps_if (pt_cmpR op_lt (pv 2) pe_int (nomark _)) (pss_one (ps_ret (pe_lst pa_nil))) pss_nil)
    (pss_one (ps_ret (pe_lc (own := [("node", 3)]) (g := gName 3) (tt := tYes) rfl nd (pi_list (pe_ix ix_list (pe_fld (pv 0) rfl) (pv 2) (fun _ _ => rfl))) (blkOk_by (N := ["self", "group", "shape", "node"]) (sc := defScope s_G_below) (by decide +kernel))
        (fun _ _ _ _ _ => pg_name (i := 3) nd rfl (Or.inl rfl)) (fun _ _ _ _ _ => pts_nil) (fun _ _ _ _ _ => pe_meth (pv 0) T.cl m1 F1 hr b1 .nil pass0 (pa_cons (pv 3) pa_nil)))))), ?_⟩
  obtain ⟨dx, ho⟩ := hG.ob
  refine ⟨_, rfl, g.o, C, dx, _, _, rfl, ho, T.cl, T.ns, fs_s g, _, rfl, g.s, _, (r : Int), _, rfl, rfl, SqL.of hG.hs, at_of (j := r) rfl (rg_get hrn), ?_⟩
  unfold belowF at q
  cases es : G.S r with
  | none =>
    rw [es] at q
    refine ⟨_, rfl, -1, 0, rfl, rfl, _, rfl, ?_⟩
    refine iteT ?_
    refine ⟨(show 0 ≤ sizeLine by decide), fun p hp => ?_⟩
    exact q _ G.L p (Fr.of (same_new hp _)) (hG.same (same_new hp _)) hL hp upd_same
  | some sh =>
    rw [es] at q
    obtain ⟨hs1, hs2, hs3⟩ := hsn sh es
    refine ⟨_, rfl, (sh : Int), 0, rfl, rfl, _, rfl, ?_⟩
    rw [decide_eq_false (by omega)]
    refine iteF ?_
    obtain ⟨hR1, hR2⟩ := hG.ha.2 sh hs1
    refine ⟨_, rfl, g.o, C, dx, _, _, rfl, ho, T.cl, T.na, fs_a g, _, rfl, g.a, _, (sh : Int), _, rfl, rfl, SqL.of hG.ha.1, at_of (j := sh) rfl (rg_get hs1), G.R sh, rfl, ⟨_, SqL.of hR2⟩, fun D hD => ?_⟩
    have hDm := hG.new hD
    have hDo : D ≠ g.o := fun e => by rw [e, ho] at hD; cases hD
    have hDR : ∀ j, j < G.n → G.R j ≠ D := fun j hj e => by have h := (hG.ha.2 j hj).2; rw [e, hD] at h; cases h
    refine lc_list (K := K) (a := G.R sh) (xs := (G.A sh).map natV) (fun i H1 => ∃ (L : Nat → Nat), Fr g H H1 ∧ GrAt N C g H1 { G with L := L } ∧ Ld G.n L rt rk ∧ H1 D = some (.lst ((((G.A sh).take i).map rt).map natV))) ?_ ?_ ?_ ?_
    · exact ⟨G.L, Fr.of (same_new hD _), hG.other hDm hDo hDR, hL, upd_same⟩
    · rintro i H1 _ ⟨L, f1, _⟩
      exact SqL.of (f1 _ _ hR1 hR2)
    · rintro i y H1 hi ⟨L, f1, hG1, hL1, hD1⟩
      rw [List.getElem?_map, Option.map_eq_some_iff] at hi
      obtain ⟨j, hj, rfl⟩ := hi
      refine ⟨wipe_one _, ?_⟩
      obtain ⟨dx1, ho1⟩ := hG1.ob
      have hjm := List.mem_of_getElem? hj
      refine ⟨_, rfl, g.o, dx1, _, rfl, ho1, fs_no g (by decide +kernel) (by decide +kernel) (by decide +kernel) (by decide +kernel) (by decide +kernel) (by decide +kernel), _, rfl, g, _, rt, rk, j, rfl, hG1, hs2 j hjm, hL1, fun H2 L2 f2 hG2 hL2 => ?_⟩
      refine ⟨_, f2 _ _ hDm hD1, ?_, L2, fun b o nb hb => kp (ne_of_none hb hD) (f2 b o nb (f1 b o nb hb)) _, hG2.other hDm hDo hDR, hL2, ?_⟩
      · rw [List.length_map, List.length_map, List.length_take]; exact sz16 (by omega)
      · rw [upd_same, take_get hj, List.map_append, List.map_append]; rfl
    · rintro H1 ⟨L, f1, hG1, hL1, hD1⟩
      rw [List.length_map, List.take_length] at hD1
      exact q H1 L D f1 hG1 hL1 hD hD1
end
end K78
end
section
set_option maxHeartbeats 4000000
namespace K78
open PySem PySem.Spec PyProof.Rows L2
theorem AllAt.unsnoc {α : Type} {R : α → V → Prop} {a : α} : ∀ {as : List α} {zs : List V}, AllAt R (as ++ [a]) zs → ∃ zs' z, zs = zs' ++ [z] ∧ AllAt R as zs' ∧ R a z
  | [], zs, ⟨z, zs', h1, h2, h3⟩ => by cases h3; exact ⟨[], z, h1, rfl, h2⟩
  | b :: as, zs, ⟨z, zs', h1, h2, h3⟩ => by
    obtain ⟨zs2, z2, h4, h5, h6⟩ := AllAt.unsnoc h3
    subst h1; subst h4
    exact ⟨z :: zs2, z2, rfl, ⟨z, zs2, rfl, h2, h5⟩, h6⟩
def PairAt (H : Hp) (e : Nat × Nat) (y : V) : Prop := ∃ p, y = .ref p ∧ H p = some (.tup [natV e.1, natV e.2])
theorem PairAt.tupS {H H' : Hp} {e : Nat × Nat} {y : V} (h : PairAt H e y) (s : TupSame H H') : PairAt H' e y := by
  obtain ⟨p, h1, h2⟩ := h
  exact ⟨p, h1, s _ _ h2⟩
section
variable {P : Program} {w : World} {K : PySem.W.Frag} {mg : Str → Option Value} {base : Heap} {N : List Str} {C : Addr}
def spUnite (N : List Str) (C : Addr) : Sp := fun vs H Q _ => ∃ (g : GA) (G : Gr) (rt rk : Nat → Nat) (a b : Nat), vs = [.ref g.o, natV a, natV b] ∧ GrAt N C g H G ∧ Gst G ∧ a < G.n ∧ b < G.n ∧ Ld G.n G.L rt rk ∧ Gdy G rt ∧ Cong G rt [(a, b)] ∧
  (∀ H' L S E rt' rk', Fr g H H' → GrAt N C g H' { G with L := L, S := S, E := E } → Ld G.n L rt' rk' → Gdy { G with L := L, S := S, E := E } rt' → Cong { G with L := L, S := S, E := E } rt' [] → Goes { G with L := L, S := S, E := E } rt' [] a b →
    (∀ θ, Resp G rt [(a, b)] θ → Resp { G with L := L, S := S, E := E } rt' [] θ) → Q (.bl true) H') ∧
  (∀ H', Fr g H H' → (¬ ∃ θ, Resp G rt [(a, b)] θ) → Q (.bl false) H')
/-- what holds before each turn -/
structure UnI (N : List Str) (C : Addr) (g : GA) (G : Gr) (rt0 : Nat → Nat) (a b : Nat) (H H1 : Hp) (wd : Addr) (zs : List V) (L : Nat → Nat) (S E : Nat → Option Nat) (rt rk : Nat → Nat) (W : Prs) (rs : List Nat) : Prop where
  fr : ∀ x o, ¬ x ∈ g.mut → H x = some o → H1 x = some o
  gr : GrAt N C g H1 { G with L := L, S := S, E := E }
  ld : Ld G.n L rt rk
  dy : Gdy { G with L := L, S := S, E := E } rt
  cg : Cong { G with L := L, S := S, E := E } rt W
  go : Goes { G with L := L, S := S, E := E } rt W a b
  hrs : ∀ θ, Resp G rt0 [(a, b)] θ → Resp { G with L := L, S := S, E := E } rt W θ
  iw : InW G.n W
  hwd : H1 wd = some (.lst zs)
  hzs : AllAt (PairAt H1) W.reverse zs
  w1 : ¬ wd ∈ g.mut
  w2 : wd ≠ g.o
  w3 : ∀ i, i < G.n → G.R i ≠ wd
  nd : rs.Nodup
  mm : ∀ i, i ∈ rs ↔ i < G.n ∧ rt i = i
theorem un_fin {De : Ends} {g : GA} {G : Gr} {rt0 rt rk : Nat → Nat} {a b x y : Nat} {H H3 : Hp} {wd : Addr} {zs : List V} {L : Nat → Nat} {S E : Nat → Option Nat} {W W2 : Prs} {rs : List Nat} {v4 v5 v6 : Option V} (T : GrC K C)
    (fr : ∀ x o, ¬ x ∈ g.mut → H x = some o → H3 x = some o) (gr : GrAt N C g H3 { G with L := L, S := S, E := E }) (ld : Ld G.n L rt rk) (dy : Gdy { G with L := L, S := S, E := E } rt) (cg : Cong { G with L := L, S := S, E := E } rt ((x, y) :: W)) (go : Goes { G with L := L, S := S, E := E } rt ((x, y) :: W) a b)
    (hrs : ∀ θ, Resp G rt0 [(a, b)] θ → Resp { G with L := L, S := S, E := E } rt ((x, y) :: W) θ) (hx : x < G.n) (hy : y < G.n) (hne : rt x ≠ rt y) (iw : InW G.n W2) (hW : ∀ q, q ∈ W → q ∈ W2)
    (hz : ∀ s s', S (rt x) = some s → S (rt y) = some s' → (G.T s).hd = (G.T s').hd ∧ (G.A s).length = (G.A s').length ∧ ∀ q, q ∈ (G.A s).zip (G.A s') → q ∈ W2)
    (hs : ∀ θ, Resp { G with L := L, S := S, E := E } rt ((x, y) :: W) θ → ∀ q, q ∈ W2 → (G.T q.1).ap θ = (G.T q.2).ap θ)
    (hwd : H3 wd = some (.lst zs)) (hzs : AllAt (PairAt H3) W2.reverse zs) (w1 : ¬ wd ∈ g.mut) (w2 : wd ≠ g.o) (w3 : ∀ i, i < G.n → G.R i ≠ wd) (nd : rs.Nodup) (mm : ∀ i, i ∈ rs ↔ i < G.n ∧ rt i = i)
    (hNx : ∀ H4 L' S' E' rt' rk' rs', UnI N C g G rt0 a b H H4 wd zs L' S' E' rt' rk' W2 rs' → rs'.length + 1 = rs.length → De.nx [some (.ref g.o), some (natV (rt x)), some (natV (rt y)), some (.ref wd), v4, v5, v6] H4) :
    tDrop (tMeth C "merge" (spMerge N C) [] E0 (tVar 0) (tCons (tVar 1) (tCons (tVar 2) tNil))) De [some (.ref g.o), some (natV (rt x)), some (natV (rt y)), some (.ref wd), v4, v5, v6] H3 := by
  obtain ⟨dx, ho⟩ := gr.ob
  obtain ⟨l1, _, r1⟩ := ld.lead hx
  obtain ⟨l2, _, r2⟩ := ld.lead hy
  refine ⟨_, rfl, g.o, dx, _, rfl, ho, fs_no g (by decide +kernel) (by decide +kernel) (by decide +kernel) (by decide +kernel) (by decide +kernel) (by decide +kernel), _, rfl, _, rfl, g, _, rt x, rt y, rfl, gr, l1, l2, hne, fun H4 e f4 hG4 e1 e2 e3 => ?_⟩
  have hyr : rt y ∈ rs := (mm _).mpr ⟨l2, r2⟩
  refine hNx H4 _ _ _ (linkF rt (rt x) (rt y)) _ (rs.erase (rt y)) ⟨fun b o nb hb => f4 b o nb (fr b o nb hb), hG4, ld.link l1 l2 r1 r2 hne, dy.link l1 l2 r1 r2 hne e1 e2 e3, cg.link (G := { G with L := L, S := S, E := E }) ld hx hy hne hW hz, go.link (G := { G with L := L, S := S, E := E }) ld hx hy hne hW, fun θ hθ => Resp.link (G := { G with L := L, S := S, E := E }) (e := e) hx hy (hrs θ hθ) (hs θ (hrs θ hθ)), iw, f4 _ _ w1 hwd, AllAt.mono (fun q z h => h.tupS (gr.tup f4)) hzs, w1, w2, w3, nd.erase _, fun i => ?_⟩ ?_
  · rw [nd.mem_erase_iff, mm]
    constructor
    · rintro ⟨h1, h2, h3⟩
      refine ⟨h2, ?_⟩
      unfold linkF; rw [h3, if_neg h1]
    · rintro ⟨h1, h2⟩
      unfold linkF at h2
      by_cases q : rt i = rt y
      · rw [if_pos q] at h2
        exfalso
        rw [← h2, r1] at q
        exact hne q
      · rw [if_neg q] at h2
        exact ⟨fun z => q (by rw [z, r2]), h1, h2⟩
  · rw [List.length_erase_of_mem hyr]
    have : 0 < rs.length := List.length_pos_of_mem hyr
    omega
theorem ok_unite (hN : NmOk N) (z1 : mg "zip" = none) (z2 : mg "len" = none) (T : GrC K C) (D : DM K C "unite" "TermGraph.unite" s_G_unite ["self", "first", "second"]) (G1 : OkM P w K mg base 1 C "leader" ["self", "node"] (spLead N C)) (G2 : OkM P w K mg base 1 C "merge" ["self", "first", "second"] (spMerge N C)) :
    OkM P w K mg base 2 C "unite" ["self", "first", "second"] (spUnite N C) := by
  refine D.ok sc_G_unite (fun vs H Q E h => ?_) (fun f cdv A outer s H vs Q E hr h => ?_)
  · obtain ⟨g, G, rt, rk, a, b, rfl, _⟩ := h
    rfl
  obtain ⟨g, G, rt0, rk0, a, b, rfl, hG, hst, ha, hb, hL, hD, hC, qT, qF⟩ := h
  obtain ⟨f1, fd1, m1, b1, F1⟩ := G1
  obtain ⟨f2, fd2, m2, b2, F2⟩ := G2
  have nd := sc_G_unite.nd
  refine ⟨_, pss_cons (ps_set (i := 3) nd rfl (Or.inl rfl) (pe_lst (pa_cons (pe_tup (pa_cons (pv 1) (pa_cons (pv 2) pa_nil))) pa_nil)))
    (pss_cons (ps_while PassesOwn.never (pt_truth (pv 3) (fun _ => rfl))
      (pss_cons (ps_asg (pe_bm0 PySem.F.plainAttrs_list PySem.F.slot_list_pop PySem.F.type_list_pop mt_pop (pv 3)) (pg_tup rfl (pgs_cons (pg_name (i := 1) nd rfl (.inl rfl)) (pgs_cons (pg_name (i := 2) nd rfl (.inl rfl)) pgs_nil))))
      (pss_cons (ps_set (i := 1) nd rfl (Or.inl rfl) (pe_meth (pv 0) T.cl m1 F1 hr b1 .nil pass0 (pa_cons (pv 1) pa_nil)))
      (pss_cons (ps_set (i := 2) nd rfl (Or.inl rfl) (pe_meth (pv 0) T.cl m1 F1 hr b1 .nil pass0 (pa_cons (pv 2) pa_nil)))
      (pss_cons (ps_if (pt_cmpR op_eq (pv 1) (pv 2) (nomark _)) (pss_one ps_continue) pss_nil)
      (pss_cons (ps_set (i := 4) nd rfl (Or.inl rfl) (pe_ix ix_list (pe_fld (pv 0) rfl) (pv 1) (fun _ _ => rfl)))
      (pss_cons (ps_set (i := 5) nd rfl (Or.inl rfl) (pe_ix ix_list (pe_fld (pv 0) rfl) (pv 2) (fun _ _ => rfl)))
      (pss_cons (ps_if (PW.pt (pw_and (pt_cmpR op_ge (pv 4) pe_int (nomark _)) (pw_and1 (pt_cmpR op_ge (pv 5) pe_int (nomark _)))))
        (pss_cons (ps_if (pt_cmpR op_ne (pe_ix ix_list (pe_fld (pv 0) rfl) (pv 4) (fun _ _ => rfl)) (pe_ix ix_list (pe_fld (pv 0) rfl) (pv 5) (fun _ _ => rfl)) (nomark _)) (pss_one (ps_ret pe_bl)) pss_nil)
        (pss_cons (ps_if (pt_cmpR op_ne (pe_callB call_len_seq (by rfl) z2 PySem.boot_len (pa_cons (pe_ix ix_list (pe_fld (pv 0) rfl) (pv 4) (fun _ _ => rfl)) pa_nil)) (pe_callB call_len_seq (by rfl) z2 PySem.boot_len (pa_cons (pe_ix ix_list (pe_fld (pv 0) rfl) (pv 5) (fun _ _ => rfl)) pa_nil)) (nomark _)) (pss_one (ps_ret pe_bl)) pss_nil)
        (pss_one (ps_for PassesOwn.never rfl (pi_zipN (by rfl) z1 (pa_cons (pe_ix ix_list (pe_fld (pv 0) rfl) (pv 4) (fun _ _ => rfl)) (pa_cons (pe_ix ix_list (pe_fld (pv 0) rfl) (pv 5) (fun _ _ => rfl)) pa_nil))) (pg_name (i := 6) nd rfl (.inl rfl))
          (pss_one (ps_expr (pe_bm PySem.F.plainAttrs_list PySem.F.slot_list_append PySem.F.type_list_append mt_append (pv 3) (pa_cons (pv 6) pa_nil)))))))) pss_nil)
      (pss_one (ps_expr (pe_meth (pv 0) T.cl m2 F2 hr b2 .nil pass0 (pa_cons (pv 1) (pa_cons (pv 2) pa_nil)))))))))))))
    (pss_one (ps_ret pe_bl))), ?_⟩
  refine ⟨_, rfl, _, rfl, (show 2 ≤ sizeLine by decide), fun p hp => ⟨(show 1 ≤ sizeLine by decide), fun wd hwd => ?_⟩⟩
  have s1 : Same H (upd H p (.tup [natV a, natV b])) := same_new hp _
  have s2 := s1.trans (same_new hwd (.lst [.ref p]))
  have hGp := hG.same s1
  have w1 := hGp.new hwd
  have w2 : wd ≠ g.o := fun e => by obtain ⟨_, h⟩ := hGp.ob; rw [e, h] at hwd; cases hwd
  have w3 : ∀ i, i < G.n → G.R i ≠ wd := fun i hi e => by have h := (hGp.ha.2 i hi).2; rw [e, hwd] at h; cases h
  have hpw : p ≠ wd := fun e => by rw [← e, upd_same] at hwd; cases hwd
  have hHw : H wd = none := by
    cases h : H wd with
    | none => rfl
    | some o => rw [s1 _ _ h] at hwd; cases hwd
  refine ⟨fun m σ H1 => ∃ (L : Nat → Nat) (S E : Nat → Option Nat) (rt rk : Nat → Nat) (W : Prs) (rs : List Nat) (zs : List V) (v1 v2 v4 v5 v6 : Option V), σ = [some (.ref g.o), v1, v2, some (.ref wd), v4, v5, v6] ∧ UnI N C g G rt0 a b H H1 wd zs L S E rt rk W rs ∧ W.length + 3 * rs.length ≤ m ∧ m ≤ 1 + 3 * G.n,
    ⟨1 + 3 * G.n, G.L, G.S, G.E, rt0, rk0, [(a, b)], (List.range G.n).filter (fun i => decide (rt0 i = i)), [.ref p], _, _, _, _, _, rfl, ⟨fun x o _ h => s2 _ _ h, hG.same s2, hL, hD, hC, fun φ h1 h2 => h2 (a, b) (List.mem_singleton.mpr rfl), fun θ h => h, fun e he => by rw [List.mem_singleton] at he; subst he; exact ⟨ha, hb⟩, upd_same, ⟨_, _, rfl, ⟨p, rfl, by rw [upd_ne hpw, upd_same]⟩, rfl⟩, w1, w2, w3, List.nodup_range.filter _, fun i => ?_⟩, ?_, Nat.le_refl _⟩, ?_⟩
  · rw [List.mem_filter, List.mem_range, decide_eq_true_eq]
  · have := List.length_filter_le (fun i => decide (rt0 i = i)) (List.range G.n)
    rw [List.length_range] at this
    show 1 + _ ≤ _
    omega
  rintro m σ H1 ⟨L, S, E', rt, rk, W, rs, zs, v1, v2, v4, v5, v6, rfl, U, hm, hmm⟩
  refine ⟨_, rfl, !zs.isEmpty, .inl ⟨zs, SqL.of U.hwd, rfl⟩, ?_⟩
  cases W with
  | nil =>
    have ez : zs = [] := U.hzs
    subst ez
    refine iteF ?_
    exact qT H1 L S E' rt rk U.fr U.gr U.ld U.dy U.cg U.go U.hrs
  | cons e W =>
  obtain ⟨x, y⟩ := e
  have hzs := U.hzs
  rw [List.reverse_cons] at hzs
  obtain ⟨zs', z, rfl, hzs', q0, rfl, hq0⟩ := hzs.unsnoc
  have ene : (zs' ++ [V.ref q0]).isEmpty = false := by cases zs' <;> rfl
  rw [ene]
  refine iteT ?_
  obtain ⟨hx, hy⟩ := U.iw (x, y) (List.mem_cons_self ..)
  have hm1 : W.length + 1 + 3 * rs.length ≤ m := hm
  refine ⟨_, fun σ' H' h => ⟨m - 1, by omega, h⟩, ?_⟩
  have hlast : (zs' ++ [V.ref q0])[(zs' ++ [V.ref q0]).length - 1]? = some (.ref q0) := by
    rw [List.length_append, List.length_singleton, Nat.add_sub_cancel, List.getElem?_append_right (Nat.le_refl _), Nat.sub_self]; rfl
  refine ⟨_, rfl, .inl ⟨rfl, _, SqL.of U.hwd⟩, wd, _, _, rfl, rfl, U.hwd, hlast, ?_⟩
  rw [List.dropLast_concat]
  have t1 : TupSame H1 (upd H1 wd (.lst zs')) := tup_upd U.hwd
  have hGa := U.gr.other (o := .lst zs') w1 w2 w3
  have ga : ∀ x o, ¬ x ∈ g.mut → H x = some o → upd H1 wd (.lst zs') x = some o := fun x o nx h => kp (ne_of_none h hHw) (U.fr x o nx h) _
  have hwa : upd H1 wd (.lst zs') wd = some (.lst zs') := upd_same
  have hq1 := t1 _ _ hq0
  have hzs1 : AllAt (PairAt (upd H1 wd (.lst zs'))) W.reverse zs' := AllAt.mono (fun e z h => h.tupS t1) hzs'
  generalize upd H1 wd (.lst zs') = Ha at hGa ga hwa hq1 hzs1
  refine ⟨q0, _, rfl, SqT.of hq1, rfl, natV x, [natV y], rfl, natV y, [], rfl, rfl, ?_⟩
  obtain ⟨dxa, hoa⟩ := hGa.ob
  have no : ∀ {m : Str}, (m == ("heads" : Str)) = false → (m == ("arguments" : Str)) = false → (m == ("leaders" : Str)) = false → (m == ("shapes" : Str)) = false → (m == ("least" : Str)) = false → (m == ("nodes" : Str)) = false → g.fs.lookup m = none := fun h1 h2 h3 h4 h5 h6 => fs_no g h1 h2 h3 h4 h5 h6
  have nl := no (m := "leader") (by decide +kernel) (by decide +kernel) (by decide +kernel) (by decide +kernel) (by decide +kernel) (by decide +kernel)
  refine ⟨_, rfl, g.o, dxa, _, rfl, hoa, nl, _, rfl, g, _, rt, rk, x, rfl, hGa, hx, U.ld, fun Hb Lb fb hGb hLb => ?_⟩
  obtain ⟨dxb, hob⟩ := hGb.ob
  refine ⟨_, rfl, g.o, dxb, _, rfl, hob, nl, _, rfl, g, _, rt, rk, y, rfl, hGb, hy, hLb, fun Hc Lc fc hGc hLc => ?_⟩
  have hGc : GrAt N C g Hc { G with L := Lc, S := S, E := E' } := hGc
  have hwc := fc _ _ w1 (fb _ _ w1 hwa)
  have gc : ∀ x o, ¬ x ∈ g.mut → H x = some o → Hc x = some o := fun x o nx h => fc _ _ nx (fb _ _ nx (ga x o nx h))
  have hzs2 : AllAt (PairAt Hc) W.reverse zs' := AllAt.mono (fun e z h => (h.tupS (hGa.tup fb)).tupS (hGb.tup fc)) hzs1
  have hCc : Cong { G with L := Lc, S := S, E := E' } rt ((x, y) :: W) := U.cg
  have hOc : Goes { G with L := Lc, S := S, E := E' } rt ((x, y) :: W) a b := U.go
  have hDc : Gdy { G with L := Lc, S := S, E := E' } rt := ⟨U.dy.s0, U.dy.s1, U.dy.e0, U.dy.e1⟩
  have hRc : ∀ θ, Resp G rt0 [(a, b)] θ → Resp { G with L := Lc, S := S, E := E' } rt ((x, y) :: W) θ := U.hrs
  have hIc : InW G.n W := fun e he => U.iw e (List.mem_cons_of_mem _ he)
  refine ⟨_, rfl, _, rfl, rfl, _, rfl, ?_⟩
  by_cases er : rt x = rt y
  · rw [decide_eq_true (by rw [er])]
    refine iteT ?_
    exact ⟨Lc, S, E', rt, rk, W, rs, zs', _, _, _, _, _, rfl, ⟨gc, hGc, hLc, hDc, hCc.skip (G := { G with L := Lc, S := S, E := E' }) hLc hx hy er, hOc.skip (G := { G with L := Lc, S := S, E := E' }) hx hy er, fun θ h => (hRc θ h).skip, hIc, hwc, hzs2, w1, w2, w3, U.nd, U.mm⟩, by omega, by omega⟩
  · rw [decide_eq_false (fun z => er (by have := V.int.inj z; omega))]
    refine iteF ?_
    obtain ⟨l1, _, r1⟩ := hLc.lead hx
    obtain ⟨l2, _, r2⟩ := hLc.lead hy
    obtain ⟨dxc, hoc⟩ := hGc.ob
    refine ⟨_, rfl, g.o, C, dxc, _, _, rfl, hoc, T.cl, T.ns, fs_s g, _, rfl, g.s, _, (rt x : Int), _, rfl, rfl, SqL.of hGc.hs, at_of (j := rt x) rfl (rg_get l1), ?_⟩
    refine ⟨_, rfl, g.o, C, dxc, _, _, rfl, hoc, T.cl, T.ns, fs_s g, _, rfl, g.s, _, (rt y : Int), _, rfl, rfl, SqL.of hGc.hs, at_of (j := rt y) rfl (rg_get l2), ?_⟩
    have hsk : ∀ θ, Resp { G with L := Lc, S := S, E := E' } rt ((x, y) :: W) θ → ∀ q, q ∈ W → (G.T q.1).ap θ = (G.T q.2).ap θ := fun θ h q hq => h.2 q (List.mem_cons_of_mem _ hq)
    cases e1 : S (rt x) with
    | none =>
      refine ⟨_, rfl, -1, 0, (show shV (S (rt x)) = V.int (-1) by rw [e1]; rfl), rfl, _, rfl, ?_⟩
      refine iteF ?_
      refine un_fin T gc hGc hLc hDc hCc hOc hRc hx hy er hIc (fun q h => h) (fun s s' h _ => by rw [e1] at h; cases h) hsk hwc hzs2 w1 w2 w3 U.nd U.mm fun H4 L' S' E2 rt' rk' rs' U' hl => ?_
      exact ⟨L', S', E2, rt', rk', W, rs', zs', _, _, _, _, _, rfl, U', by omega, by omega⟩
    | some s1 =>
      refine ⟨_, rfl, (s1 : Int), 0, (show shV (S (rt x)) = V.int (s1 : Int) by rw [e1]; rfl), rfl, _, rfl, ?_⟩
      rw [decide_eq_true (show (0 : Int) ≤ (s1 : Int) by omega)]
      refine iteT ?_
      cases e2 : S (rt y) with
      | none =>
        refine ⟨_, rfl, -1, 0, (show shV (S (rt y)) = V.int (-1) by rw [e2]; rfl), rfl, _, rfl, ?_⟩
        refine iteF ?_
        refine un_fin T gc hGc hLc hDc hCc hOc hRc hx hy er hIc (fun q h => h) (fun s s' _ h => by rw [e2] at h; cases h) hsk hwc hzs2 w1 w2 w3 U.nd U.mm fun H4 L' S' E2 rt' rk' rs' U' hl => ?_
        exact ⟨L', S', E2, rt', rk', W, rs', zs', _, _, _, _, _, rfl, U', by omega, by omega⟩
      | some s2 =>
        refine ⟨_, rfl, (s2 : Int), 0, (show shV (S (rt y)) = V.int (s2 : Int) by rw [e2]; rfl), rfl, _, rfl, ?_⟩
        rw [decide_eq_true (show (0 : Int) ≤ (s2 : Int) by omega)]
        refine iteT ?_
        obtain ⟨p1, p2, p3⟩ := hDc.s1 _ _ l1 r1 e1
        obtain ⟨q1, q2, q3⟩ := hDc.s1 _ _ l2 r2 e2
        have v1e : shV (S (rt x)) = V.int (s1 : Int) := by rw [e1]; rfl
        have v2e : shV (S (rt y)) = V.int (s2 : Int) := by rw [e2]; rfl
        have g1 : (rg G.n fun i => hdV N (G.T i))[s1]? = some (V.str (sy N (G.T s1))) := by rw [rg_get p1]; unfold hdV; rw [show (G.T s1).isV = false from p3]; rfl
        have g2 : (rg G.n fun i => hdV N (G.T i))[s2]? = some (V.str (sy N (G.T s2))) := by rw [rg_get q1]; unfold hdV; rw [show (G.T s2).isV = false from q3]; rfl
        refine ⟨_, rfl, g.o, C, dxc, _, _, rfl, hoc, T.cl, T.nh, fs_h g, _, rfl, g.h, _, (s1 : Int), _, rfl, v1e, SqL.of hGc.hh, at_of (j := s1) rfl g1, _, rfl, g.o, C, dxc, _, _, rfl, hoc, T.cl, T.nh, fs_h g, _, rfl, g.h, _, (s2 : Int), _, rfl, v2e, SqL.of hGc.hh, at_of (j := s2) rfl g2, rfl, _, rfl, ?_⟩
        rw [sy_eq hN]
        have hRx : ∀ θ, Resp { G with L := Lc, S := S, E := E' } rt ((x, y) :: W) θ → (G.T s1).ap θ = (G.T s2).ap θ := fun θ h => by
          have a1 := h.1 s1 p1
          have a2 := h.1 s2 q1
          rw [p2] at a1; rw [q2] at a2
          have a3 := h.1 x hx
          have a4 := h.1 y hy
          have a5 := h.2 (x, y) (List.mem_cons_self ..)
          exact a1.symm.trans (a3.trans (a5.trans (a4.symm.trans a2)))
        by_cases eh : (G.T s1).hd = (G.T s2).hd
        · rw [decide_eq_true eh]
          refine iteF ?_
          have kl := kids_len p3 q3 eh
          have la : (G.A s1).length = (G.A s2).length := by
            have h1 := congrArg List.length (hst.ar s1 p1).1
            have h2 := congrArg List.length (hst.ar s2 q1).1
            rw [List.length_map] at h1 h2
            rw [h1, h2]; exact kl
          have la2 : (G.A s1).length ≤ 2 := by
            have h1 := congrArg List.length (hst.ar s1 p1).1
            rw [List.length_map] at h1
            rw [h1]; exact kids_le _
          obtain ⟨hR1m, hR1⟩ := hGc.ha.2 s1 p1
          obtain ⟨hR2m, hR2⟩ := hGc.ha.2 s2 q1
          have r1i : (rg G.n fun i => V.ref (G.R i))[s1]? = some (V.ref (G.R s1)) := rg_get p1
          have r2i : (rg G.n fun i => V.ref (G.R i))[s2]? = some (V.ref (G.R s2)) := rg_get q1
          have e5 : decide (V.int (((G.A s1).map natV).length : Int) = V.int (((G.A s2).map natV).length : Int)) = true := decide_eq_true (by rw [List.length_map, List.length_map, la])
          refine ⟨_, rfl, g.o, C, dxc, _, _, rfl, hoc, T.cl, T.na, fs_a g, _, rfl, g.a, _, (s1 : Int), _, rfl, v1e, SqL.of hGc.ha.1, at_of (j := s1) rfl r1i, _, _, rfl, .inl (SqL.of hR1), _, rfl, g.o, C, dxc, _, _, rfl, hoc, T.cl, T.na, fs_a g, _, rfl, g.a, _, (s2 : Int), _, rfl, v2e, SqL.of hGc.ha.1, at_of (j := s2) rfl r2i, _, _, rfl, .inl (SqL.of hR2), rfl, _, rfl, ?_⟩
          rw [e5]
          refine iteF ?_
          refine ⟨_, rfl, g.o, C, dxc, _, _, rfl, hoc, T.cl, T.na, fs_a g, _, rfl, g.a, _, (s1 : Int), _, rfl, v1e, SqL.of hGc.ha.1, at_of (j := s1) rfl r1i, _, rfl, g.o, C, dxc, _, _, rfl, hoc, T.cl, T.na, fs_a g, _, rfl, g.a, _, (s2 : Int), _, rfl, v2e, SqL.of hGc.ha.1, at_of (j := s2) rfl r2i, _, _, _, _, rfl, SqL.of hR1, SqL.of hR2, ?_⟩
          refine for_zipN (K := K) (xs := (G.A s1).map natV) (ys := (G.A s2).map natV) (by rw [List.length_map, List.length_map, la]) (fun i σ Hd => ∃ (v6 : Option V) (zs2 : List V), σ = [some (.ref g.o), some (natV (rt x)), some (natV (rt y)), some (.ref wd), some (shV (S (rt x))), some (shV (S (rt y))), v6] ∧ (∀ z o, ¬ z ∈ g.mut → H z = some o → Hd z = some o) ∧ GrAt N C g Hd { G with L := Lc, S := S, E := E' } ∧ Hd wd = some (.lst zs2) ∧
            AllAt (PairAt Hd) (W.reverse ++ ((G.A s1).zip (G.A s2)).take i) zs2) ?_ ?_ ?_ ?_
          · exact ⟨_, zs', rfl, gc, hGc, hwc, by rw [List.take_zero, List.append_nil]; exact hzs2⟩
          · rintro i σ Hd ⟨v6', zs2, rfl, gd, hGd, hwd2, hz2⟩
            exact ⟨SqL.of (hGd.ha.2 s1 p1).2, SqL.of (hGd.ha.2 s2 q1).2⟩
          · rintro i z z' σ Hd pp hi1 hi2 ⟨v6', zs2, rfl, gd, hGd, hwd2, hz2⟩ hpp
            rw [List.getElem?_map, Option.map_eq_some_iff] at hi1 hi2
            obtain ⟨k1, hk1, rfl⟩ := hi1
            obtain ⟨k2, hk2, rfl⟩ := hi2
            have sd := same_new hpp (.tup [natV k1, natV k2])
            have hil : i < 2 := by have := (List.getElem?_eq_some_iff.mp hk1).1; omega
            have hzl : zs2.length ≤ 3003 := by
              rw [hz2.length, List.length_append, List.length_reverse, List.length_take]
              have h1 := hG.small.1
              have := Nat.min_le_left i ((G.A s1).zip (G.A s2)).length
              omega
            have hpw2 : pp ≠ wd := fun e => by rw [e, hwd2] at hpp; cases hpp
            refine ⟨_, rfl, .inl ⟨rfl, _, SqL.of (sd _ _ hwd2)⟩, _, rfl, wd, zs2, _, rfl, rfl, sd _ _ hwd2, Nat.lt_of_le_of_lt hzl (by decide), ?_⟩
            have td : TupSame (upd Hd pp (.tup [natV k1, natV k2])) (upd (upd Hd pp (.tup [natV k1, natV k2])) wd (.lst (zs2 ++ [V.ref pp]))) := tup_upd (sd _ _ hwd2)
            refine ⟨_, _, rfl, fun b o nb hb => kp (ne_of_none hb hHw) (sd _ _ (gd b o nb hb)) _, (hGd.same sd).other w1 w2 w3, upd_same, ?_⟩
            have hzi : ((G.A s1).zip (G.A s2))[i]? = some (k1, k2) := by rw [List.getElem?_zip_eq_some]; exact ⟨hk1, hk2⟩
            rw [take_get hzi, ← List.append_assoc]
            exact AllAt.snoc (AllAt.mono (fun e z h => (h.tupS (TupSame.of sd)).tupS td) hz2) ⟨pp, rfl, td _ _ upd_same⟩
          · rintro σ Hd ⟨v6', zs2, rfl, gd, hGd, hwd2, hz2⟩
            have hlz : ((G.A s1).map natV).length = ((G.A s1).zip (G.A s2)).length := by rw [List.length_map, List.length_zip, la, Nat.min_self]
            rw [hlz, List.take_length] at hz2
            have hrev : W.reverse ++ (G.A s1).zip (G.A s2) = (((G.A s1).zip (G.A s2)).reverse ++ W).reverse := by rw [List.reverse_append, List.reverse_reverse]
            rw [hrev] at hz2
            have hl2 : ((G.A s1).zip (G.A s2)).length ≤ 2 := by rw [← hlz, List.length_map]; exact la2
            have hin2 : InW G.n (((G.A s1).zip (G.A s2)).reverse ++ W) := fun e he => by
              rcases List.mem_append.mp he with he | he
              · rw [List.mem_reverse] at he
                have m1 := (List.of_mem_zip he).1
                have m2 := (List.of_mem_zip he).2
                exact ⟨(hst.kid p1 m1).1, (hst.kid q1 m2).1⟩
              · exact hIc e he
            refine un_fin T gd hGd hLc hDc hCc hOc hRc hx hy er hin2 (fun q h => List.mem_append.mpr (.inr h)) (fun s s' h h' => ?_) (fun θ hθ q hq => ?_) hwd2 hz2 w1 w2 w3 U.nd U.mm fun H4 L' S' E2 rt' rk' rs' U' hl => ?_
            · rw [e1] at h; rw [e2] at h'
              cases h; cases h'
              exact ⟨eh, la, fun q hq => List.mem_append.mpr (.inl (List.mem_reverse.mpr hq))⟩
            · rcases List.mem_append.mp hq with hq | hq
              · rw [List.mem_reverse] at hq
                have h1 := (unif_kids p3 q3 eh θ).mp (hRx θ hθ)
                have h2 : (G.T q.1, G.T q.2) ∈ (G.T s1).kids.zip (G.T s2).kids := by
                  rw [← (hst.ar s1 p1).1, ← (hst.ar s2 q1).1, List.zip_map]
                  exact List.mem_map.mpr ⟨q, hq, rfl⟩
                exact h1 _ h2
              · exact hsk θ hθ q hq
            · refine ⟨L', S', E2, rt', rk', _, rs', zs2, _, _, _, _, _, rfl, U', ?_, by omega⟩
              rw [List.length_append, List.length_reverse]
              omega
        · rw [decide_eq_false eh]
          refine iteT ?_
          refine qF Hc gc fun ⟨θ, hθ⟩ => ?_
          have := hRx θ (hRc θ hθ)
          obtain ⟨_, b1, _⟩ := ap_kids' (G.T s1) θ p3
          obtain ⟨_, b2, _⟩ := ap_kids' (G.T s2) θ q3
          rw [this] at b1
          exact eh (b1.symm.trans b2)
end
end K78
end
section
set_option maxHeartbeats 4000000
namespace K78
open PySem PySem.Spec PyProof.Rows L2
open Classical
def PBAt (H : Hp) (e : Nat × Bool) (y : V) : Prop := ∃ p, y = .ref p ∧ H p = some (.tup [natV e.1, .bl e.2])
theorem PBAt.tupS {H H' : Hp} {e : Nat × Bool} {y : V} (h : PBAt H e y) (s : TupSame H H') : PBAt H' e y := by
  obtain ⟨p, h1, h2⟩ := h
  exact ⟨p, h1, s _ _ h2⟩
/-- the mark of a class -/
noncomputable def stV (O : List Nat) (K : Stk) (x : Nat) : Option V := if x ∈ O then some (.str "done") else if (x, true) ∈ K then some (.str "begun") else none
def StD (H : Hp) (d : Addr) (vs O : List Nat) (K : Stk) : Prop := ∃ kvs, H d = some (.dK kvs) ∧ kvs.map (·.1) = vs.map (fun (m : Nat) => (Sum.inl (m : Int) : Key)) ∧ ∀ x : Nat, valV kvs (Sum.inl (x : Int) : Key) = stV O K x
/-- an address that has nothing to do with the graph, and is new -/
structure Off (g : GA) (G : Gr) (H : Hp) (x : Addr) : Prop where
  m : ¬ x ∈ g.mut
  o : x ≠ g.o
  r : ∀ i, i < G.n → G.R i ≠ x
  new : H x = none
section
variable {P : Program} {w : World} {K : PySem.W.Frag} {mg : Str → Option Value} {base : Heap} {N : List Str} {C : Addr}
theorem GrAt.off {g : GA} {H H1 : Hp} {G : Gr} {L : Nat → Nat} (h : GrAt N C g H1 { G with L := L }) (fr : ∀ b o, ¬ b ∈ g.mut → H b = some o → H1 b = some o) {x : Addr} (hx : H1 x = none) : Off g G H x := by
  refine ⟨h.new hx, fun e => ?_, fun i hi e => ?_, ?_⟩
  · obtain ⟨_, q⟩ := h.ob; rw [e, q] at hx; cases hx
  · have q := (h.ha.2 i hi).2; rw [show G.R i = x from e] at q; have q' : H1 x = _ := q; rw [hx] at q'; cases q'
  · cases q : H x with
    | none => rfl
    | some o => rw [fr x o (h.new hx) q] at hx; cases hx
/-- the facts that hold all the way -/
structure BU (N : List Str) (C : Addr) (g : GA) (G : Gr) (rt rk : Nat → Nat) (H H1 : Hp) (ds od : Addr) (L : Nat → Nat) (O vs : List Nat) (K : Stk) : Prop where
  fr : ∀ b o, ¬ b ∈ g.mut → H b = some o → H1 b = some o
  gr : GrAt N C g H1 { G with L := L }
  ld : Ld G.n L rt rk
  sd : StD H1 ds vs O K
  hod : H1 od = some (.lst (O.map natV))
  vn : vs.Nodup
  vm : ∀ x, x ∈ vs ↔ x ∈ O ∨ (x, true) ∈ K
theorem BU.vlen {g : GA} {G : Gr} {rt rk : Nat → Nat} {H H1 : Hp} {ds od : Addr} {L : Nat → Nat} {O vs : List Nat} {K : Stk} (U : BU N C g G rt rk H H1 ds od L O vs K) (B : BI G rt O K) : vs.length ≤ G.n :=
  nodup_lt G.n vs U.vn fun m hm => by
    rcases (U.vm m).mp hm with h | h
    · exact (B.inn m h).1
    · exact (B.sin _ h).1
/-- something else is written -/
theorem BU.write {g : GA} {G : Gr} {rt rk : Nat → Nat} {H H1 : Hp} {ds od x : Addr} {o : HO} {L : Nat → Nat} {O vs : List Nat} {K : Stk} (U : BU N C g G rt rk H H1 ds od L O vs K) (h : Off g G H x) (h1 : x ≠ ds) (h2 : x ≠ od) : BU N C g G rt rk H (upd H1 x o) ds od L O vs K := by
  obtain ⟨kvs, k1, k2⟩ := U.sd
  exact ⟨fun b o' nb hb => kp (ne_of_none hb h.new) (U.fr b o' nb hb) _, U.gr.other h.m h.o h.r, U.ld, ⟨kvs, kp h1.symm k1 _, k2⟩, kp h2.symm U.hod _, U.vn, U.vm⟩
/-- the graph was asked -/
theorem BU.ask {g : GA} {G : Gr} {rt rk : Nat → Nat} {H H1 H2 : Hp} {ds od : Addr} {L L2 : Nat → Nat} {O vs : List Nat} {K : Stk} (U : BU N C g G rt rk H H1 ds od L O vs K) (f : Fr g H1 H2) (h1 : ¬ ds ∈ g.mut) (h2 : ¬ od ∈ g.mut) (hG : GrAt N C g H2 { G with L := L2 }) (hL : Ld G.n L2 rt rk) : BU N C g G rt rk H H2 ds od L2 O vs K := by
  obtain ⟨kvs, k1, k2⟩ := U.sd
  exact ⟨fun b o' nb hb => f _ _ nb (U.fr b o' nb hb), hG, hL, ⟨kvs, f _ _ h1 k1, k2⟩, f _ _ h2 U.hod, U.vn, U.vm⟩
theorem stV_false (O : List Nat) (K : Stk) (x y : Nat) : stV O ((x, false) :: K) y = stV O K y := by
  unfold stV
  have : ((y, true) ∈ (x, false) :: K) ↔ (y, true) ∈ K := by simp
  simp only [this]
theorem stV_done (O : List Nat) (K : Stk) {x y : Nat} (h : y ≠ x) : stV (O ++ [x]) K y = stV O ((x, true) :: K) y := by
  unfold stV
  have h1 : (y ∈ O ++ [x]) ↔ y ∈ O := by simp [h]
  have h2 : ((y, true) ∈ (x, true) :: K) ↔ (y, true) ∈ K := by simp [h]
  simp only [h1, h2]
theorem stV_push (O : List Nat) (K : Stk) {x y : Nat} (h : y ≠ x) : stV O ((x, true) :: K) y = stV O K y := by
  unfold stV
  have h2 : ((y, true) ∈ (x, true) :: K) ↔ (y, true) ∈ K := by simp [h]
  simp only [h2]
theorem stV_kids (O : List Nat) (K : Stk) (cs : List Nat) (y : Nat) : stV O ((cs.map fun c => (c, false)).reverse ++ K) y = stV O K y := by
  unfold stV
  have h2 : ((y, true) ∈ (cs.map fun c => (c, false)).reverse ++ K) ↔ (y, true) ∈ K := by simp
  simp only [h2]
theorem begun_ne : ¬ (V.str "done" = V.str "begun") := fun h => absurd (V.str.inj h) (by decide +kernel)
def spBU (N : List Str) (C : Addr) : Sp := fun vs H Q _ => ∃ (g : GA) (G : Gr) (rt rk : Nat → Nat), vs = [.ref g.o] ∧ GrAt N C g H G ∧ Gst G ∧ Ld G.n G.L rt rk ∧ Gdy G rt ∧ G.ks.length < 64 ∧
  (∀ H' L' p O, Fr g H H' → GrAt N C g H' { G with L := L' } → Ld G.n L' rt rk → H p = none → H' p = some (.lst (O.map natV)) → BI G rt O [] → (∀ v, v ∈ G.ks → rt (G.M v) ∈ O) → Q (.ref p) H') ∧
  (∀ H', Fr g H H' → (¬ ∃ θ, Resp G rt [] θ) → Q .non H')
theorem ok_bu (z1 : mg "sorted" = none) (z2 : mg "list" = none) (T : GrC K C) (D : DM K C "bottom_up" "TermGraph.bottom_up" s_G_bottom_up ["self"]) (G1 : OkM P w K mg base 1 C "leader" ["self", "node"] (spLead N C)) (G2 : OkM P w K mg base 2 C "below" ["self", "group"] (spBelow N C)) :
    OkM P w K mg base 3 C "bottom_up" ["self"] (spBU N C) := by
  refine D.ok sc_G_bottom_up (fun vs H Q E h => ?_) (fun f cdv A outer s H vs Q E hr h => ?_)
  · obtain ⟨g, G, rt, rk, rfl, _⟩ := h
    rfl
  obtain ⟨g, G, rt, rk, rfl, hG, hst, hL, hD, h64, qS, qN⟩ := h
  obtain ⟨f1, fd1, m1, b1, F1⟩ := G1
  obtain ⟨f2, fd2, m2, b2, F2⟩ := G2
  have hr1 : Room 1 _ := hr.mono (by decide)
  have hu := hu_of hr1
  have nd := sc_G_bottom_up.nd
  refine ⟨_, pss_cons (ps_set (i := 1) nd rfl (Or.inl rfl) pe_dnewK)
    (pss_cons (ps_set (i := 2) nd rfl (Or.inl rfl) (pe_lst pa_nil))
    (pss_cons (ps_for PassesOwn.never rfl (pi_list (pe_callB cr_sorted (by rfl) z1 (by decide +kernel) (pa_cons (pe_callTy (call_list_dK rfl) (by rfl) z2 (by decide +kernel) (pa_cons (pe_fld (pv 0) rfl) pa_nil)) pa_nil))) (pg_name (i := 3) nd rfl (.inl rfl))
      (pss_cons (ps_set (i := 4) nd rfl (Or.inl rfl) (pe_lst (pa_cons (pe_tup (pa_cons (pe_meth (pv 0) T.cl m1 F1 hr1 b1 .nil pass0 (pa_cons (pe_dget hu (pe_fld (pv 0) rfl) (pv 3) (fun _ _ => rfl)) pa_nil)) (pa_cons pe_bl pa_nil))) pa_nil)))
      (pss_one (ps_while PassesOwn.never (pt_truth (pv 4) (fun _ => rfl))
        (pss_cons (ps_asg (pe_bm0 PySem.F.plainAttrs_list PySem.F.slot_list_pop PySem.F.type_list_pop mt_pop (pv 4)) (pg_tup rfl (pgs_cons (pg_name (i := 5) nd rfl (.inl rfl)) (pgs_cons (pg_name (i := 6) nd rfl (.inl rfl)) pgs_nil))))
        (pss_cons (ps_if (pt_truth (pv 6) (fun _ => rfl)) (pss_cons (ps_dput hu (pv 1) (pv 5) pe_str rfl) (pss_cons (ps_expr (pe_bm PySem.F.plainAttrs_list PySem.F.slot_list_append PySem.F.type_list_append mt_append (pv 2) (pa_cons (pv 5) pa_nil))) (pss_one ps_continue))) pss_nil)
        (pss_cons (ps_if (pt_cmp (pc_din hu (pv 5) (pv 1))) (pss_cons (ps_if (pt_cmpR op_eq (pe_dget hu (pv 1) (pv 5) (fun _ _ => rfl)) pe_str (nomark _)) (pss_one (ps_ret pe_non)) pss_nil) (pss_one ps_continue)) pss_nil)
        (pss_cons (ps_dput hu (pv 1) (pv 5) pe_str rfl)
        (pss_cons (ps_expr (pe_bm PySem.F.plainAttrs_list PySem.F.slot_list_append PySem.F.type_list_append mt_append (pv 4) (pa_cons (pe_tup (pa_cons (pv 5) (pa_cons pe_bl pa_nil))) pa_nil)))
        (pss_one (ps_for PassesOwn.never rfl (pi_list (pe_meth (pv 0) T.cl m2 F2 hr b2 .nil pass0 (pa_cons (pv 5) pa_nil))) (pg_name (i := 7) nd rfl (.inl rfl))
          (pss_cons (ps_if (pt_cmpR op_eq (pe_dget1 hu (pv 1) (pv 7) ⟨rfl, rfl, rfl, rfl⟩) pe_str (nomark _)) (pss_one (ps_ret pe_non)) pss_nil)
          (pss_one (ps_expr (pe_bm PySem.F.plainAttrs_list PySem.F.slot_list_append PySem.F.type_list_append mt_append (pv 4) (pa_cons (pe_tup (pa_cons (pv 7) (pa_cons pe_bl pa_nil))) pa_nil))))))))))))))))
    (pss_one (ps_ret (pv 2))))), ?_⟩
  intro ds hds
  have s1 : Same H (upd H ds (.dK [])) := same_new hds _
  have hGa := hG.same s1
  refine ⟨(show 0 ≤ sizeLine by decide), fun od hod => ?_⟩
  have s2 := s1.trans (same_new hod (.lst []))
  have hGb := hGa.same (same_new hod (.lst []))
  obtain ⟨dx, ho⟩ := hGb.ob
  obtain ⟨kvs, hk, hk1, hk2, hk3⟩ := hGb.hm
  have dOff : Off g G H ds := hG.off (L := G.L) (fun _ _ _ h => h) hds
  have oOff : Off g G H od := hGa.off (L := G.L) (fun b o _ h => s1 b o h) hod
  have hdo : ds ≠ od := fun e => by rw [← e, upd_same] at hod; cases hod
  have hds2 : upd (upd H ds (.dK [])) od (.lst []) ds = some (.dK []) := kp hdo upd_same _
  have hod2 : upd (upd H ds (.dK [])) od (.lst []) od = some (.lst []) := upd_same
  generalize upd (upd H ds (.dK [])) od (.lst []) = Hb at s2 hGb ho hk hds2 hod2
  have ek : kvs.map (fun kv => kV kv.1) = (G.ks.map (fun (v : Nat) => (v : Int))).map V.int := by
    have : kvs.map (fun kv => kV kv.1) = (kvs.map (·.1)).map kV := by rw [List.map_map]; rfl
    rw [this, hk1, List.map_map, List.map_map]; rfl
  refine ⟨_, rfl, g.o, C, dx, _, _, rfl, ho, T.cl, T.nm, fs_m g, g.m, kvs, rfl, hk, fun l hl => ?_⟩
  rw [ek]
  refine ⟨l, G.ks.map (fun (v : Nat) => (v : Int)), rfl, SqL.of upd_same, by rw [List.length_map]; exact h64, fun ns sl hperm _ hsl => ?_⟩
  have s3 : Same Hb (upd Hb l (.lst ((G.ks.map (fun (v : Nat) => (v : Int))).map V.int))) := same_new hl _
  have s4 := s3.trans (same_new hsl (.lst (ns.map V.int)))
  have sOff : Off g G H sl := (hGb.same s3).off (L := G.L) (fun b o _ h => s3 _ _ (s2 b o h)) hsl
  have hsd : sl ≠ ds := fun e => by rw [e, s3 _ _ hds2] at hsl; cases hsl
  have hso : sl ≠ od := fun e => by rw [e, s3 _ _ hod2] at hsl; cases hsl
  refine ⟨sl, rfl, ⟨_, SqL.of upd_same⟩, ?_⟩
  have nsk : ∀ z, z ∈ ns → ∃ v, v ∈ G.ks ∧ (v : Int) = z := fun z hz => by
    have := hperm.mem_iff.mp hz
    obtain ⟨v, hv, e⟩ := List.mem_map.mp this
    exact ⟨v, hv, e⟩
  refine for_list (K := K) (a := sl) (xs := ns.map V.int) (fun i σ H1 => ∃ (L : Nat → Nat) (O vs : List Nat) (v3 v4 v5 v6 v7 : Option V), σ = [some (.ref g.o), some (.ref ds), some (.ref od), v3, v4, v5, v6, v7] ∧ BU N C g G rt rk H H1 ds od L O vs [] ∧ BI G rt O [] ∧ H1 sl = some (.lst (ns.map V.int)) ∧ ∀ v : Nat, (v : Int) ∈ ns.take i → rt (G.M v) ∈ O) ?_ ?_ ?_ ?_
  · refine ⟨G.L, [], [], none, none, none, none, none, rfl, ⟨fun b o _ h => s4 _ _ (s2 b o h), hGb.same s4, hL, ⟨[], s4 _ _ hds2, rfl, fun x => rfl⟩, s4 _ _ hod2, List.nodup_nil, fun x => by simp⟩, ⟨fun x h => (by cases h), List.nodup_nil, fun pre x post e => (by cases pre <;> cases e), fun e h => (by cases h), fun x h => (by cases h), List.Pairwise.nil, fun pre x post e => (by cases pre <;> cases e), fun θ _ => List.Pairwise.nil⟩, upd_same, fun v h => by cases h⟩
  · rintro i σ H1 _ ⟨L, O, vs, v3, v4, v5, v6, v7, _, _, _, h, _⟩
    exact SqL.of h
  · rintro i z σ H1 hi ⟨L, O, vs, v3, v4, v5, v6, v7, rfl, U, hB, hsl1, hO⟩
    rw [List.getElem?_map, Option.map_eq_some_iff] at hi
    obtain ⟨z', hz', rfl⟩ := hi
    obtain ⟨v, hv, rfl⟩ := nsk z' (List.mem_of_getElem? hz')
    obtain ⟨dx1, ho1⟩ := U.gr.ob
    obtain ⟨kv1, hm1, _, hm2, _⟩ := U.gr.hm
    obtain ⟨hMv, _⟩ := hst.mn v hv
    have hgv : DGet H1 g.m (natV v) (some (natV (G.M v))) := by rw [← hm2 v hv]; exact DGet.k (k := Sum.inl (v : Int)) hm1
    have nl := fs_no g (m := "leader") (by decide +kernel) (by decide +kernel) (by decide +kernel) (by decide +kernel) (by decide +kernel) (by decide +kernel)
    have nb := fs_no g (m := "below") (by decide +kernel) (by decide +kernel) (by decide +kernel) (by decide +kernel) (by decide +kernel) (by decide +kernel)
    refine ⟨_, rfl, g.o, dx1, _, rfl, ho1, nl, _, rfl, g.o, C, dx1, _, _, rfl, ho1, T.cl, T.nm, fs_m g, _, rfl, g.m, _, rfl, hgv, ?_⟩
    refine ⟨g, _, rt, rk, G.M v, rfl, U.gr, hMv, U.ld, fun H2 L2 f2 hG2 hL2 => ?_⟩
    have U2 := U.ask f2 dOff.m oOff.m hG2 hL2
    have hsl2 := f2 _ _ sOff.m hsl1
    refine ⟨(show 2 ≤ sizeLine by decide), fun p hp => ⟨(show 1 ≤ sizeLine by decide), fun wl hwl => ?_⟩⟩
    have pOff := U2.gr.off (L := L2) U2.fr hp
    have hpd : p ≠ ds := fun e => by obtain ⟨k0, k1, _⟩ := U2.sd; rw [e, k1] at hp; cases hp
    have hpo : p ≠ od := fun e => by rw [e, U2.hod] at hp; cases hp
    have hps : p ≠ sl := fun e => by rw [e, hsl2] at hp; cases hp
    have U3 := U2.write (o := .tup [natV (rt (G.M v)), .bl false]) pOff hpd hpo
    have hsl3 : upd H2 p (.tup [natV (rt (G.M v)), .bl false]) sl = some (.lst (ns.map V.int)) := kp hps.symm hsl2 _
    have hp3 : upd H2 p (.tup [natV (rt (G.M v)), .bl false]) p = some (.tup [natV (rt (G.M v)), .bl false]) := upd_same
    generalize upd H2 p (.tup [natV (rt (G.M v)), .bl false]) = H3 at hwl U3 hsl3 hp3
    have wOff := U3.gr.off (L := L2) U3.fr hwl
    have hwd : wl ≠ ds := fun e => by obtain ⟨k0, k1, _⟩ := U3.sd; rw [e, k1] at hwl; cases hwl
    have hwo : wl ≠ od := fun e => by rw [e, U3.hod] at hwl; cases hwl
    have hws : wl ≠ sl := fun e => by rw [e, hsl3] at hwl; cases hwl
    have hwp : wl ≠ p := fun e => by rw [e, hp3] at hwl; cases hwl
    have U4 := U3.write (o := .lst [.ref p]) wOff hwd hwo
    obtain ⟨r1, _, r3⟩ := hL2.lead hMv
    have hB4 := BI.start (G := G) r1 r3 hB
    have hz4 : AllAt (PBAt (upd H3 wl (.lst [.ref p]))) ([(rt (G.M v), false)] : Stk).reverse [.ref p] := ⟨_, _, rfl, ⟨p, rfl, kp hwp.symm hp3 _⟩, rfl⟩
    refine ⟨fun m σ H4 => ∃ (L : Nat → Nat) (O vs : List Nat) (Kk : Stk) (zs : List V) (v5 v6 v7 : Option V), σ = [some (.ref g.o), some (.ref ds), some (.ref od), some (natV v), some (.ref wl), v5, v6, v7] ∧ BU N C g G rt rk H H4 ds od L O vs Kk ∧ BI G rt O Kk ∧ H4 sl = some (.lst (ns.map V.int)) ∧ H4 wl = some (.lst zs) ∧ AllAt (PBAt H4) Kk.reverse zs ∧
      (∀ v : Nat, (v : Int) ∈ ns.take i → rt (G.M v) ∈ O) ∧ (rt (G.M v) ∈ O ∨ ∃ b, (rt (G.M v), b) ∈ Kk) ∧ 3 * (G.n - vs.length) + Kk.length ≤ m ∧ m ≤ 3 * G.n + 1,
      ⟨3 * G.n + 1, L2, O, vs, [(rt (G.M v), false)], [.ref p], v5, v6, v7, rfl, ⟨U4.fr, U4.gr, U4.ld, ?_, U4.hod, U4.vn, fun x => ?_⟩, hB4, kp hws.symm hsl3 _, upd_same, hz4, hO, .inr ⟨false, by simp⟩, ?_, Nat.le_refl _⟩, ?_⟩
    · obtain ⟨k0, k1, k2, k3⟩ := U4.sd
      exact ⟨k0, k1, k2, fun x => by rw [k3, stV_false]⟩
    · rw [U4.vm]; simp
    · simp only [List.length_singleton]; omega
    clear hz4 hB4 U4 U3 hsl3 hp3 hwl U2 hsl2 hp hgv hm2 hm1 hsl1 hO U hB
    rintro m σ H4 ⟨L, O, vs, Kk, zs, v5, v6, v7, rfl, U, hB, hsl1, hwl, hzs, hO, hroot, hm, hmm⟩
    refine ⟨_, rfl, !zs.isEmpty, .inl ⟨zs, SqL.of hwl, rfl⟩, ?_⟩
    cases Kk with
    | nil =>
      have ez : zs = [] := hzs
      subst ez
      refine iteF ?_
      refine ⟨L, O, vs, _, _, _, _, _, rfl, U, hB, hsl1, fun v' hv' => ?_⟩
      have hiv : ns[i]? = some (v : Int) := hz'
      rw [take_get hiv] at hv'
      rcases List.mem_append.mp hv' with hv' | hv'
      · exact hO v' hv'
      · rw [List.mem_singleton] at hv'
        have : v' = v := by omega
        subst this
        rcases hroot with q | ⟨b, q⟩
        · exact q
        · cases q
    | cons e Kk =>
    obtain ⟨x, bb⟩ := e
    rw [List.reverse_cons] at hzs
    obtain ⟨zs', z, rfl, hzs', q0, rfl, hq0⟩ := hzs.unsnoc
    have ene : (zs' ++ [V.ref q0]).isEmpty = false := by cases zs' <;> rfl
    rw [ene]
    refine iteT ?_
    have hm1 : 3 * (G.n - vs.length) + (Kk.length + 1) ≤ m := hm
    refine ⟨_, fun σ' H' h => ⟨m - 1, by omega, h⟩, ?_⟩
    have hlast : (zs' ++ [V.ref q0])[(zs' ++ [V.ref q0]).length - 1]? = some (.ref q0) := by
      rw [List.length_append, List.length_singleton, Nat.add_sub_cancel, List.getElem?_append_right (Nat.le_refl _), Nat.sub_self]; rfl
    refine ⟨_, rfl, .inl ⟨rfl, _, SqL.of hwl⟩, wl, _, _, rfl, rfl, hwl, hlast, ?_⟩
    rw [List.dropLast_concat]
    have t1 : TupSame H4 (upd H4 wl (.lst zs')) := tup_upd hwl
    have U5 := U.write (o := .lst zs') wOff hwd hwo
    have hsl5 : upd H4 wl (.lst zs') sl = some (.lst (ns.map V.int)) := kp hws.symm hsl1 _
    have hwl5 : upd H4 wl (.lst zs') wl = some (.lst zs') := upd_same
    have hq5 := t1 _ _ hq0
    have hzs5 : AllAt (PBAt (upd H4 wl (.lst zs'))) Kk.reverse zs' := AllAt.mono (fun e z h => h.tupS t1) hzs'
    generalize upd H4 wl (.lst zs') = H5 at U5 hsl5 hwl5 hq5 hzs5
    refine ⟨q0, _, rfl, SqT.of hq5, rfl, natV x, [.bl bb], rfl, .bl bb, [], rfl, rfl, ?_⟩
    have hxx : x < G.n ∧ rt x = x := hB.sin (x, bb) (List.mem_cons_self ..)
    obtain ⟨hxn, rx⟩ := hxx
    obtain ⟨kvs5, k1, k2, k3⟩ := U5.sd
    have hkl : kvs5.length = vs.length := by have := congrArg List.length k2; rw [List.length_map, List.length_map] at this; exact this
    have hvl := U5.vlen hB
    have hn1 := hG.small.1
    refine ⟨_, rfl, bb, rfl, ?_⟩
    cases bb with
    | true =>
      refine iteT ?_
      refine ⟨_, rfl, _, rfl, ds, _, rfl, DPut.k (k := Sum.inl (x : Int)) k1 (sz1000 (by omega)), ?_⟩
      have hxv : x ∈ vs := (U5.vm x).mpr (.inr (List.mem_cons_self ..))
      have hOl : O.length ≤ G.n := nodup_lt G.n O hB.nd fun m hm => (hB.inn m hm).1
      have t6 : TupSame H5 (upd H5 ds (.dK (putK kvs5 (Sum.inl (x : Int)) (.str "done")))) := tup_updD k1
      have od6 : upd H5 ds (.dK (putK kvs5 (Sum.inl (x : Int)) (.str "done"))) od = some (.lst (O.map natV)) := kp hdo.symm U5.hod _
      refine ⟨_, rfl, .inl ⟨rfl, _, SqL.of od6⟩, _, rfl, od, _, _, rfl, rfl, od6, (by rw [List.length_map]; exact sz1000 (by omega)), ?_⟩
      have t7 : TupSame (upd H5 ds (.dK (putK kvs5 (Sum.inl (x : Int)) (.str "done")))) (upd (upd H5 ds (.dK (putK kvs5 (Sum.inl (x : Int)) (.str "done")))) od (.lst (O.map natV ++ [natV x]))) := tup_upd od6
      have hmap : O.map natV ++ [natV x] = (O ++ [x]).map natV := by rw [List.map_append]; rfl
      refine ⟨L, O ++ [x], vs, Kk, zs', _, _, _, rfl, ⟨fun b o nb hb => kp (ne_of_none hb oOff.new) (kp (ne_of_none hb dOff.new) (U5.fr b o nb hb) _) _, (U5.gr.other dOff.m dOff.o dOff.r).other oOff.m oOff.o oOff.r, U5.ld, ?_, ?_, U5.vn, fun y => ?_⟩, hB.done, kp hso (kp hsd hsl5 _) _, kp hwo (kp hwd hwl5 _) _, AllAt.mono (fun e z h => (h.tupS t6).tupS t7) hzs5, fun v' hv' => List.mem_append.mpr (.inl (hO v' hv')), ?_, by omega, by omega⟩
      · refine ⟨_, kp hdo upd_same _, ?_, fun y => ?_⟩
        · rw [keys_put, if_pos (by rw [k2]; exact mem_keys.mpr hxv)]; exact k2
        · by_cases e : y = x
          · subst e
            rw [valV_put, if_pos rfl]
            unfold stV
            rw [if_pos (by simp)]
          · rw [valV_put, if_neg (fun q => e (inl_inj.mp q)), k3, stV_done _ _ e]
      · rw [upd_same, hmap]
      · rw [U5.vm]
        by_cases e : y = x
        · subst e; simp
        · simp [e]
      · rcases hroot with q | ⟨b, q⟩
        · exact .inl (List.mem_append.mpr (.inl q))
        · rcases List.mem_cons.mp q with q | q
          · refine .inl ?_
            rw [(Prod.mk.injEq .. ▸ q : rt (G.M v) = x ∧ b = true).1]
            simp
          · exact .inr ⟨b, q⟩
    | false =>
      refine iteF ?_
      refine ⟨_, rfl, _, rfl, ds, _, rfl, DGet.k (k := Sum.inl (x : Int)) k1, _, rfl, ?_⟩
      have hkx := k3 x
      rw [stV_false] at hkx
      unfold stV at hkx
      rw [hkx]
      have hgx : ∀ z, valV kvs5 (Sum.inl (x : Int) : Key) = some z → DGet H5 ds (natV x) (some z) := fun z hz => by rw [← hz]; exact DGet.k (k := Sum.inl (x : Int)) k1
      have hvm : ∀ y, y ∈ vs ↔ y ∈ O ∨ (y, true) ∈ Kk := fun y => by rw [U5.vm]; simp
      have sd5 : StD H5 ds vs O Kk := ⟨kvs5, k1, k2, fun y => by rw [k3, stV_false]⟩
      by_cases hxO : x ∈ O
      · rw [if_pos hxO] at hkx ⊢
        refine iteT ?_
        refine ⟨_, rfl, _, rfl, ds, _, rfl, hgx _ hkx, rfl, _, rfl, ?_⟩
        rw [decide_eq_false begun_ne]
        refine iteF ?_
        refine ⟨L, O, vs, Kk, zs', _, _, _, rfl, ⟨U5.fr, U5.gr, U5.ld, sd5, U5.hod, U5.vn, hvm⟩, hB.seen hxO, hsl5, hwl5, hzs5, hO, ?_, by omega, by omega⟩
        rcases hroot with q | ⟨b, q⟩
        · exact .inl q
        · rcases List.mem_cons.mp q with q | q
          · refine .inl ?_
            rw [(Prod.mk.injEq .. ▸ q : rt (G.M v) = x ∧ b = false).1]
            exact hxO
          · exact .inr ⟨b, q⟩
      · rw [if_neg hxO] at hkx ⊢
        by_cases hxK : (x, true) ∈ Kk
        · rw [if_pos hxK] at hkx ⊢
          refine iteT ?_
          refine ⟨_, rfl, _, rfl, ds, _, rfl, hgx _ hkx, rfl, _, rfl, ?_⟩
          rw [decide_eq_true rfl]
          refine iteT ?_
          exact qN H5 U5.fr (hB.cycle hxK)
        · rw [if_neg hxK] at hkx ⊢
          refine iteF ?_
          refine ⟨_, rfl, _, rfl, ds, _, rfl, DPut.k (k := Sum.inl (x : Int)) k1 (sz1000 (by omega)), ?_⟩
          have t6 : TupSame H5 (upd H5 ds (.dK (putK kvs5 (Sum.inl (x : Int)) (.str "begun")))) := tup_updD k1
          have hxv : ¬ x ∈ vs := fun q => by rcases (hvm x).mp q with h | h; exact hxO h; exact hxK h
          have U6 : BU N C g G rt rk H (upd H5 ds (.dK (putK kvs5 (Sum.inl (x : Int)) (.str "begun")))) ds od L O (vs ++ [x]) ((x, true) :: Kk) := by
            refine ⟨fun b o nb hb => kp (ne_of_none hb dOff.new) (U5.fr b o nb hb) _, U5.gr.other dOff.m dOff.o dOff.r, U5.ld, ⟨_, upd_same, ?_, fun y => ?_⟩, kp hdo.symm U5.hod _, ?_, fun y => ?_⟩
            · rw [keys_put, if_neg (by rw [k2]; exact fun q => hxv (mem_keys.mp q)), k2, List.map_append]; rfl
            · by_cases e : y = x
              · subst e
                rw [valV_put, if_pos rfl]
                unfold stV
                rw [if_neg hxO, if_pos (by simp)]
              · rw [valV_put, if_neg (fun q => e (inl_inj.mp q)), k3, stV_false, stV_push _ _ e]
            · rw [List.nodup_append]
              exact ⟨U5.vn, by simp, fun a ha b hb e => by rw [List.mem_singleton] at hb; subst hb; subst e; exact hxv ha⟩
            · rw [List.mem_append, hvm]
              by_cases e : y = x
              · subst e; simp
              · simp [e]
          have hsl6 : upd H5 ds (.dK (putK kvs5 (Sum.inl (x : Int)) (.str "begun"))) sl = some (.lst (ns.map V.int)) := kp hsd hsl5 _
          have hwl6 : upd H5 ds (.dK (putK kvs5 (Sum.inl (x : Int)) (.str "begun"))) wl = some (.lst zs') := kp hwd hwl5 _
          have hzs6 : AllAt (PBAt (upd H5 ds (.dK (putK kvs5 (Sum.inl (x : Int)) (.str "begun"))))) Kk.reverse zs' := AllAt.mono (fun e z h => h.tupS t6) hzs5
          generalize upd H5 ds (.dK (putK kvs5 (Sum.inl (x : Int)) (.str "begun"))) = H6 at U6 hsl6 hwl6 hzs6
          have hpush := hB.push hst hL hD hxO hxK
          have hvl6 : (vs ++ [x]).length ≤ G.n := by
            refine nodup_lt G.n _ U6.vn fun y hy => ?_
            rcases (U6.vm y).mp hy with h | h
            · exact (hB.inn y h).1
            · rcases List.mem_cons.mp h with h | h
              · cases h; exact hxn
              · exact (hB.sin _ (List.mem_cons_of_mem _ h)).1
          have hzl6 : zs'.length = Kk.length := by rw [hzs6.length, List.length_reverse]
          refine ⟨_, rfl, .inl ⟨rfl, _, SqL.of hwl6⟩, _, rfl, (show 2 ≤ sizeLine by decide), fun p2 hp2 => ⟨wl, _, _, rfl, rfl, same_new hp2 _ _ _ hwl6, Nat.lt_of_le_of_lt (show zs'.length ≤ 3003 by omega) (by decide), ?_⟩⟩
          have p2Off := U6.gr.off (L := L) U6.fr hp2
          have hp2d : p2 ≠ ds := fun e => by obtain ⟨k0, k1, _⟩ := U6.sd; rw [e, k1] at hp2; cases hp2
          have hp2o : p2 ≠ od := fun e => by rw [e, U6.hod] at hp2; cases hp2
          have hp2s : p2 ≠ sl := fun e => by rw [e, hsl6] at hp2; cases hp2
          have hp2w : p2 ≠ wl := fun e => by rw [e, hwl6] at hp2; cases hp2
          have U7 := (U6.write (o := .tup [natV x, .bl true]) p2Off hp2d hp2o).write (o := .lst (zs' ++ [.ref p2])) wOff hwd hwo
          have sp2 : Same H6 (upd H6 p2 (.tup [natV x, .bl true])) := same_new hp2 _
          have t7 : TupSame (upd H6 p2 (.tup [natV x, .bl true])) (upd (upd H6 p2 (.tup [natV x, .bl true])) wl (.lst (zs' ++ [.ref p2]))) := tup_upd (sp2 _ _ hwl6)
          have hsl7 : upd (upd H6 p2 (.tup [natV x, .bl true])) wl (.lst (zs' ++ [.ref p2])) sl = some (.lst (ns.map V.int)) := kp hws.symm (kp hp2s.symm hsl6 _) _
          have hwl7 : upd (upd H6 p2 (.tup [natV x, .bl true])) wl (.lst (zs' ++ [.ref p2])) wl = some (.lst (zs' ++ [.ref p2])) := upd_same
          have hzs7 : AllAt (PBAt (upd (upd H6 p2 (.tup [natV x, .bl true])) wl (.lst (zs' ++ [.ref p2])))) (((x, true) :: Kk : Stk).reverse) (zs' ++ [.ref p2]) := by
            rw [List.reverse_cons]
            exact AllAt.snoc (AllAt.mono (fun e z h => (h.tupS (TupSame.of sp2)).tupS t7) hzs6) ⟨p2, rfl, t7 _ _ upd_same⟩
          generalize upd (upd H6 p2 (.tup [natV x, .bl true])) wl (.lst (zs' ++ [.ref p2])) = H7 at U7 hsl7 hwl7 hzs7
          obtain ⟨dx7, ho7⟩ := U7.gr.ob
          have hshape : ∀ s, G.S x = some s → s < G.n ∧ (∀ j, j ∈ G.A s → j < G.n) ∧ (G.A s).length ≤ 2 := fun s hs => by
            obtain ⟨a1, a2, a3⟩ := hD.s1 x s hxn rx hs
            refine ⟨a1, fun j hj => (hst.kid a1 hj).1, ?_⟩
            have h1 := congrArg List.length (hst.ar s a1).1
            rw [List.length_map] at h1
            rw [h1]; exact kids_le _
          have hbl : (belowF G rt x).length ≤ 2 := by
            unfold belowF
            cases es : G.S x with
            | none => simp
            | some s => rw [List.length_map]; exact (hshape s es).2.2
          refine ⟨_, rfl, g.o, dx7, _, rfl, ho7, nb, _, rfl, g, _, rt, rk, x, rfl, U7.gr, hxn, U7.ld, hshape, fun H8 L8 pb f8 hG8 hL8 hpb hpbl => ?_⟩
          have U8 := U7.ask f8 dOff.m oOff.m hG8 hL8
          have hsl8 := f8 _ _ sOff.m hsl7
          have hwl8 := f8 _ _ wOff.m hwl7
          have hzs8 : AllAt (PBAt H8) (((x, true) :: Kk : Stk).reverse) (zs' ++ [.ref p2]) := AllAt.mono (fun e z h => h.tupS (U7.gr.tup f8)) hzs7
          have hpbl : H8 pb = some (.lst ((belowF G rt x).map natV)) := hpbl
          have pbw : pb ≠ wl := fun e => by rw [e, hwl7] at hpb; cases hpb
          refine ⟨pb, rfl, ⟨_, SqL.of hpbl⟩, ?_⟩
          refine for_list (K := K) (a := pb) (xs := (belowF G rt x).map natV) (fun j σ H9 => ∃ (L : Nat → Nat) (zs9 : List V) (v7 : Option V), σ = [some (.ref g.o), some (.ref ds), some (.ref od), some (natV v), some (.ref wl), some (natV x), some (.bl false), v7] ∧ BU N C g G rt rk H H9 ds od L O (vs ++ [x]) ((x, true) :: Kk) ∧ H9 sl = some (.lst (ns.map V.int)) ∧ H9 wl = some (.lst zs9) ∧
            AllAt (PBAt H9) (((x, true) :: Kk : Stk).reverse ++ ((belowF G rt x).take j).map fun c => (c, false)) zs9 ∧ H9 pb = some (.lst ((belowF G rt x).map natV))) ?_ ?_ ?_ ?_
          · exact ⟨L8, _, v7, rfl, U8, hsl8, hwl8, by rw [List.take_zero, List.map_nil, List.append_nil]; exact hzs8, hpbl⟩
          · rintro j σ H9 _ ⟨L9, zs9, v7', _, _, _, _, _, h⟩
            exact SqL.of h
          · rintro j z σ H9 hj ⟨L9, zs9, v7', rfl, U9, hsl9, hwl9, hzs9, hpb9⟩
            rw [List.getElem?_map, Option.map_eq_some_iff] at hj
            obtain ⟨c, hc, rfl⟩ := hj
            have hcm := List.mem_of_getElem? hc
            obtain ⟨kvs9, q1, q2, q3⟩ := U9.sd
            have e9 := q3 c
            unfold stV at e9
            refine ⟨_, rfl, ds, rfl, .inl ⟨kvs9, .inl q1⟩, _, rfl, _, DGet.k (k := Sum.inl (c : Int)) q1, ?_⟩
            rw [e9]
            by_cases hbg : ¬ c ∈ O ∧ (c, true) ∈ ((x, true) :: Kk : Stk)
            · rw [if_neg hbg.1, if_pos hbg.2, show (some (V.str "begun")).getD V.non = V.str "begun" from rfl]
              refine ⟨rfl, _, rfl, ?_⟩
              rw [decide_eq_true rfl]
              refine iteT ?_
              exact qN H9 U9.fr (hB.cycle2 hst hL hD hcm hbg.2)
            · have ev : ((if c ∈ O then some (V.str "done") else if (c, true) ∈ ((x, true) :: Kk : Stk) then some (V.str "begun") else none).getD V.non) = V.str "done" ∨ ((if c ∈ O then some (V.str "done") else if (c, true) ∈ ((x, true) :: Kk : Stk) then some (V.str "begun") else none).getD V.non) = V.non := by
                by_cases h1 : c ∈ O
                · rw [if_pos h1]; exact .inl rfl
                · rw [if_neg h1, if_neg (fun h2 => hbg ⟨h1, h2⟩)]; exact .inr rfl
              have hzl9 : zs9.length ≤ 3003 := by
                have h1 := hzs9.length
                have h2 := List.length_take_le j (belowF G rt x)
                rw [List.length_append, List.length_reverse, List.length_map, List.length_cons] at h1
                have h3 := List.length_take (i := j) (l := belowF G rt x)
                have h4 := Nat.min_le_right j (belowF G rt x).length
                omega
              have U9' : ∀ (p9 : Addr), H9 p9 = none → ∃ (L : Nat → Nat) (zs9' : List V) (v7 : Option V), [some (V.ref g.o), some (V.ref ds), some (V.ref od), some (natV v), some (V.ref wl), some (natV x), some (V.bl false), some (natV c)] = [some (.ref g.o), some (.ref ds), some (.ref od), some (natV v), some (.ref wl), some (natV x), some (.bl false), v7] ∧
                  BU N C g G rt rk H (upd (upd H9 p9 (.tup [natV c, .bl false])) wl (.lst (zs9 ++ [.ref p9]))) ds od L O (vs ++ [x]) ((x, true) :: Kk) ∧ upd (upd H9 p9 (.tup [natV c, .bl false])) wl (.lst (zs9 ++ [.ref p9])) sl = some (.lst (ns.map V.int)) ∧ upd (upd H9 p9 (.tup [natV c, .bl false])) wl (.lst (zs9 ++ [.ref p9])) wl = some (.lst zs9') ∧
                  AllAt (PBAt (upd (upd H9 p9 (.tup [natV c, .bl false])) wl (.lst (zs9 ++ [.ref p9])))) (((x, true) :: Kk : Stk).reverse ++ ((belowF G rt x).take (j + 1)).map fun c => (c, false)) zs9' ∧ upd (upd H9 p9 (.tup [natV c, .bl false])) wl (.lst (zs9 ++ [.ref p9])) pb = some (.lst ((belowF G rt x).map natV)) := by
                intro p9 hp9
                have p9Off := U9.gr.off (L := L9) U9.fr hp9
                have hp9d : p9 ≠ ds := fun e => by rw [e, q1] at hp9; cases hp9
                have hp9o : p9 ≠ od := fun e => by rw [e, U9.hod] at hp9; cases hp9
                have hp9s : p9 ≠ sl := fun e => by rw [e, hsl9] at hp9; cases hp9
                have hp9b : p9 ≠ pb := fun e => by rw [e, hpb9] at hp9; cases hp9
                have sp9 : Same H9 (upd H9 p9 (.tup [natV c, .bl false])) := same_new hp9 _
                have t9 : TupSame (upd H9 p9 (.tup [natV c, .bl false])) (upd (upd H9 p9 (.tup [natV c, .bl false])) wl (.lst (zs9 ++ [.ref p9]))) := tup_upd (sp9 _ _ hwl9)
                refine ⟨L9, _, _, rfl, (U9.write p9Off hp9d hp9o).write wOff hwd hwo, kp hws.symm (kp hp9s.symm hsl9 _) _, upd_same, ?_, kp pbw (kp hp9b.symm hpb9 _) _⟩
                rw [take_get hc, List.map_append, ← List.append_assoc]
                exact AllAt.snoc (AllAt.mono (fun e z h => (h.tupS (TupSame.of sp9)).tupS t9) hzs9) ⟨p9, rfl, t9 _ _ upd_same⟩
              rcases ev with e | e
              · rw [e]
                refine ⟨rfl, _, rfl, ?_⟩
                rw [decide_eq_false begun_ne]
                refine iteF ?_
                exact ⟨_, rfl, .inl ⟨rfl, _, SqL.of hwl9⟩, _, rfl, (show 2 ≤ sizeLine by decide), fun p9 hp9 => ⟨wl, _, _, rfl, rfl, same_new hp9 _ _ _ hwl9, Nat.lt_of_le_of_lt hzl9 (by decide), U9' p9 hp9⟩⟩
              · rw [e]
                refine ⟨rfl, _, rfl, ?_⟩
                rw [decide_eq_false (show ¬ V.non = V.str "begun" from fun h => by cases h)]
                refine iteF ?_
                exact ⟨_, rfl, .inl ⟨rfl, _, SqL.of hwl9⟩, _, rfl, (show 2 ≤ sizeLine by decide), fun p9 hp9 => ⟨wl, _, _, rfl, rfl, same_new hp9 _ _ _ hwl9, Nat.lt_of_le_of_lt hzl9 (by decide), U9' p9 hp9⟩⟩
          · rintro σ H9 ⟨L9, zs9, v7', rfl, U9, hsl9, hwl9, hzs9, hpb9⟩
            rw [List.length_map, List.take_length] at hzs9
            have hrev : ((x, true) :: Kk : Stk).reverse ++ (belowF G rt x).map (fun c => (c, false)) = (((belowF G rt x).map fun c => (c, false)).reverse ++ (x, true) :: Kk).reverse := by rw [List.reverse_append, List.reverse_reverse]
            rw [hrev] at hzs9
            refine ⟨L9, O, vs ++ [x], ((belowF G rt x).map fun c => (c, false)).reverse ++ (x, true) :: Kk, zs9, _, _, _, rfl, ⟨U9.fr, U9.gr, U9.ld, ?_, U9.hod, U9.vn, fun y => ?_⟩, hpush, hsl9, hwl9, hzs9, hO, ?_, ?_, by omega⟩
            · obtain ⟨k0, k1, k2, k3⟩ := U9.sd
              exact ⟨k0, k1, k2, fun y => by rw [k3, stV_kids]⟩
            · rw [U9.vm]; simp
            · rcases hroot with q | ⟨b, q⟩
              · exact .inl q
              · rcases List.mem_cons.mp q with q | q
                · refine .inr ⟨true, ?_⟩
                  rw [(Prod.mk.injEq .. ▸ q : rt (G.M v) = x ∧ b = false).1]
                  simp
                · exact .inr ⟨b, by simp [q]⟩
            · rw [List.length_append (as := (List.map (fun c => (c, false)) (belowF G rt x)).reverse), List.length_reverse, List.length_map, List.length_cons]
              rw [List.length_append, List.length_singleton] at hvl6
              rw [List.length_append, List.length_singleton]
              omega
  · rintro σ H1 ⟨L, O, vs, v3, v4, v5, v6, v7, rfl, U, hB, hsl1, hO⟩
    have hns : ∀ v, v ∈ G.ks → rt (G.M v) ∈ O := fun v hv => by
      refine hO v ?_
      rw [List.length_map, List.take_length]
      exact hperm.mem_iff.mpr (List.mem_map.mpr ⟨v, hv, rfl⟩)
    exact ⟨_, rfl, qS H1 L od O U.fr U.gr U.ld oOff.new U.hod hB hns⟩
end
end K78
end
section
set_option maxHeartbeats 4000000
namespace K78
open PySem PySem.Spec PyProof.Rows L2
open Classical
/-- a dict from classes to numbers -/
def MeasD (H : Hp) (d : Addr) (O : List Nat) (f : Nat → Nat) : Prop := ∃ kvs, H d = some (.dK kvs) ∧ kvs.map (·.1) = O.map (fun (m : Nat) => (Sum.inl (m : Int) : Key)) ∧ ∀ x, x ∈ O → valV kvs (Sum.inl (x : Int) : Key) = some (natV (f x))
theorem MeasD.get {H : Hp} {d : Addr} {O : List Nat} {f : Nat → Nat} (h : MeasD H d O f) {x : Nat} (hx : x ∈ O) : DGet H d (natV x) (some (natV (f x))) := by
  obtain ⟨kvs, h1, _, h3⟩ := h
  rw [← h3 x hx]; exact DGet.k (k := Sum.inl (x : Int)) h1
theorem MeasD.put {H : Hp} {d : Addr} {O : List Nat} {f : Nat → Nat} {kvs : List (Key × V)} (h1 : H d = some (.dK kvs)) (h2 : kvs.map (·.1) = O.map (fun (m : Nat) => (Sum.inl (m : Int) : Key))) (h3 : ∀ x, x ∈ O → valV kvs (Sum.inl (x : Int) : Key) = some (natV (f x))) {x : Nat} (hx : ¬ x ∈ O) :
    MeasD (upd H d (.dK (putK kvs (Sum.inl (x : Int)) (natV (f x))))) d (O ++ [x]) f := by
  refine ⟨_, upd_same, ?_, fun y hy => ?_⟩
  · rw [keys_put, if_neg (by rw [h2]; exact fun q => hx (mem_keys.mp q)), h2, List.map_append]; rfl
  · by_cases e : y = x
    · subst e; rw [valV_put, if_pos rfl]
    · rw [valV_put, if_neg (fun q => e (inl_inj.mp q))]
      exact h3 y ((List.mem_append.mp hy).resolve_right fun q => e (List.mem_singleton.mp q))
section
variable {P : Program} {w : World} {K : PySem.W.Frag} {mg : Str → Option Value} {base : Heap} {N : List Str} {C : Addr}
theorem shape_of {G : Gr} {rt rk : Nat → Nat} (g : Gst G) (d : Gdy G rt) {x : Nat} (hx : x < G.n) (rx : rt x = x) : ∀ s, G.S x = some s → s < G.n ∧ (∀ j, j ∈ G.A s → j < G.n) ∧ (G.A s).length ≤ 2 := fun s hs => by
  obtain ⟨a1, a2, a3⟩ := d.s1 x s hx rx hs
  refine ⟨a1, fun j hj => (g.kid a1 hj).1, ?_⟩
  have h1 := congrArg List.length (g.ar s a1).1
  rw [List.length_map] at h1
  rw [h1]; exact kids_le _
theorem below_le {G : Gr} {rt rk : Nat → Nat} (g : Gst G) (d : Gdy G rt) {x : Nat} (hx : x < G.n) (rx : rt x = x) : (belowF G rt x).length ≤ 2 := by
  unfold belowF
  cases es : G.S x with
  | none => simp
  | some s => rw [List.length_map]; exact (shape_of (rk := rk) g d hx rx s es).2.2
theorem mxl_fold : ∀ (l : List Nat) (a : Nat), l.foldl max a = max a (mxl l)
  | [], a => by simp [mxl]
  | b :: l, a => by
    unfold mxl
    rw [List.foldl_cons, List.foldl_cons, mxl_fold l, mxl_fold l]
    simp only [Nat.zero_max]
    omega
theorem mxl_cons (b : Nat) (l : List Nat) : mxl (b :: l) = max b (mxl l) := by
  show (b :: l).foldl max 0 = _
  rw [List.foldl_cons, mxl_fold]; simp
theorem mxl_mem : ∀ {l : List Nat}, mxl l = 0 ∨ mxl l ∈ l
  | [] => .inl rfl
  | b :: l => by
    rw [mxl_cons]
    rcases mxl_mem (l := l) with h | h
    · rw [h, Nat.max_zero]; exact .inr (List.mem_cons_self ..)
    · by_cases q : b ≤ mxl l
      · rw [Nat.max_eq_right q]; exact .inr (List.mem_cons_of_mem _ h)
      · rw [Nat.max_eq_left (by omega)]; exact .inr (List.mem_cons_self ..)
theorem mxl_ge : ∀ {l : List Nat} {b : Nat}, b ∈ l → b ≤ mxl l
  | a :: l, b, h => by
    rw [mxl_cons]
    rcases List.mem_cons.mp h with rfl | h
    · exact Nat.le_max_left ..
    · exact Nat.le_trans (mxl_ge h) (Nat.le_max_right ..)
theorem max_mxl {l : List Nat} {m : Int} (h1 : m ∈ (0 : Int) :: l.map fun (b : Nat) => (b : Int)) (h2 : ∀ y, y ∈ (0 : Int) :: l.map (fun (b : Nat) => (b : Int)) → y ≤ m) : m = (mxl l : Nat) := by
  have h3 : (mxl l : Int) ≤ m := by
    rcases mxl_mem (l := l) with h | h
    · rw [h]; exact h2 _ (List.mem_cons_self ..)
    · exact h2 _ (List.mem_cons_of_mem _ (List.mem_map.mpr ⟨_, h, rfl⟩))
  rcases List.mem_cons.mp h1 with h | h
  · omega
  · obtain ⟨b, hb, e⟩ := List.mem_map.mp h
    have := mxl_ge hb
    omega
def spMeas (N : List Str) (C : Addr) : Sp := fun vs H Q _ => ∃ (g : GA) (G : Gr) (rt rk : Nat → Nat) (O : List Nat) (od : Addr) (B : Nat → Tm), vs = [.ref g.o, .ref od] ∧ GrAt N C g H G ∧ Gst G ∧ Ld G.n G.L rt rk ∧ Gdy G rt ∧ BI G rt O [] ∧ H od = some (.lst (O.map natV)) ∧ ¬ od ∈ g.mut ∧ (∀ x, x ∈ O → BEq G rt B x) ∧
  ∀ H' L' p d1 d2, Fr g H H' → GrAt N C g H' { G with L := L' } → Ld G.n L' rt rk → H' p = some (.tup [.ref d1, .ref d2]) → MeasD H' d1 O (fun x => (B x).size) → MeasD H' d2 O (fun x => (B x).nest) → Q (.ref p) H'
theorem ok_meas (z1 : mg "sum" = none) (z2 : mg "max" = none) (T : GrC K C) (D : DM K C "measures" "TermGraph.measures" s_G_measures ["self", "order"]) (G2 : OkM P w K mg base 2 C "below" ["self", "group"] (spBelow N C)) :
    OkM P w K mg base 3 C "measures" ["self", "order"] (spMeas N C) := by
  refine D.ok sc_G_measures (fun vs H Q E h => ?_) (fun f cdv A outer s H vs Q E hr h => ?_)
  · obtain ⟨g, G, rt, rk, O, od, B, rfl, _⟩ := h
    rfl
  obtain ⟨g, G, rt, rk, O, od, B, rfl, hG, hst, hL, hD, hB, hod, odm, hE, q⟩ := h
  obtain ⟨f2, fd2, m2, b2, F2⟩ := G2
  have hr1 : Room 1 _ := hr.mono (by decide)
  have hu := hu_of hr1
  have nd := sc_G_measures.nd
  refine ⟨_, pss_cons (ps_set (i := 2) nd rfl (Or.inr rfl) pe_dnewK)
    (pss_cons (ps_set (i := 3) nd rfl (Or.inr rfl) pe_dnewK)
    (pss_cons (ps_for PassesOwn.never rfl (pi_list (pv 1)) (pg_name (i := 4) nd rfl (.inl rfl))
      (pss_cons (ps_set (i := 5) nd rfl (Or.inl rfl) (pe_meth (pv 0) T.cl m2 F2 hr b2 .nil pass0 (pa_cons (pv 4) pa_nil)))
      (pss_cons (ps_dput hu (pv 2) (pv 4) (pe_op op_add pe_int (pe_callB (cr_sum rfl) (by rfl) z1 (by decide +kernel) (pa_cons
          (pe_lc (own := [("part", 6)]) (g := gName 6) (tt := tYes) rfl nd (pi_list (pv 5)) (blkOk_by (N := ["self", "order", "sizes", "nestings", "group", "parts", "part"]) (sc := defScope s_G_measures) (by decide +kernel)) (fun _ _ _ _ _ => pg_name (i := 6) nd rfl (Or.inl rfl)) (fun _ _ _ _ _ => pts_nil)
            (fun _ _ _ _ _ => pe_dget hu (pv 2) (pv 6) (fun _ _ => rfl))) pa_nil))) rfl)
      (pss_one (ps_dput hu (pv 3) (pv 4) (pe_op op_add pe_int (pe_callB (cr_max rfl) (by rfl) z2 (by decide +kernel) (pa_cons (pe_op op_cat (pe_lst (pa_cons pe_int pa_nil))
          (pe_lc (own := [("part", 6)]) (g := gName 6) (tt := tYes) rfl nd (pi_list (pv 5)) (blkOk_by (N := ["self", "order", "sizes", "nestings", "group", "parts", "part"]) (sc := defScope s_G_measures) (by decide +kernel)) (fun _ _ _ _ _ => pg_name (i := 6) nd rfl (Or.inl rfl)) (fun _ _ _ _ _ => pts_nil)
            (fun _ _ _ _ _ => pe_dget hu (pv 3) (pv 6) (fun _ _ => rfl)))) pa_nil))) rfl)))))
    (pss_one (ps_ret (pe_tup (pa_cons (pv 2) (pa_cons (pv 3) pa_nil))))))), ?_⟩
  intro d1 hd1
  have s1 : Same H (upd H d1 (.dK [])) := same_new hd1 _
  have d1Off : Off g G H d1 := hG.off (L := G.L) (fun _ _ _ h => h) hd1
  intro d2 hd2
  have s2 := s1.trans (same_new hd2 (.dK []))
  have d2Off : Off g G H d2 := (hG.same s1).off (L := G.L) (fun b o _ h => s1 b o h) hd2
  have h12 : d1 ≠ d2 := fun e => by rw [← e, upd_same] at hd2; cases hd2
  have m1 : MeasD (upd (upd H d1 (.dK [])) d2 (.dK [])) d1 [] (fun x => (B x).size) := ⟨[], kp h12 upd_same _, rfl, fun x h => by cases h⟩
  have m2' : MeasD (upd (upd H d1 (.dK [])) d2 (.dK [])) d2 [] (fun x => (B x).nest) := ⟨[], upd_same, rfl, fun x h => by cases h⟩
  have nb := fs_no g (m := "below") (by decide +kernel) (by decide +kernel) (by decide +kernel) (by decide +kernel) (by decide +kernel) (by decide +kernel)
  have hOl : O.length ≤ G.n := nodup_lt G.n O hB.nd fun m hm => (hB.inn m hm).1
  have hn1 := hG.small.1
  refine ⟨_, rfl, od, rfl, ⟨_, SqL.of (s2 _ _ hod)⟩, ?_⟩
  refine for_list (K := K) (a := od) (xs := O.map natV) (fun i σ H1 => ∃ (L : Nat → Nat) (v4 v5 v6 : Option V), σ = [some (.ref g.o), some (.ref od), some (.ref d1), some (.ref d2), v4, v5, v6] ∧ (∀ b o, ¬ b ∈ g.mut → H b = some o → H1 b = some o) ∧ GrAt N C g H1 { G with L := L } ∧ Ld G.n L rt rk ∧
    MeasD H1 d1 (O.take i) (fun x => (B x).size) ∧ MeasD H1 d2 (O.take i) (fun x => (B x).nest)) ?_ ?_ ?_ ?_
  · exact ⟨G.L, none, none, none, rfl, fun b o _ h => s2 _ _ h, hG.same s2, hL, m1, m2'⟩
  · rintro i σ H1 _ ⟨L, v4, v5, v6, _, fr, _⟩
    exact SqL.of (fr _ _ odm hod)
  · rintro i z σ H1 hi ⟨L, v4, v5, v6, rfl, fr, hG1, hL1, hm1, hm2⟩
    rw [List.getElem?_map, Option.map_eq_some_iff] at hi
    obtain ⟨x, hx, rfl⟩ := hi
    have hxO := List.mem_of_getElem? hx
    obtain ⟨hxn, rx⟩ := hB.inn x hxO
    obtain ⟨dx1, ho1⟩ := hG1.ob
    have hxt : ¬ x ∈ O.take i := by
      intro hin
      have hnd := hB.nd
      rw [← List.take_append_drop i O, drop_at hx, List.nodup_append] at hnd
      exact hnd.2.2 _ hin _ (List.mem_cons_self ..) rfl
    have hbt : ∀ c, c ∈ belowF G rt x → c ∈ O.take i := fun c hc => hB.topo (O.take i) x (O.drop (i + 1)) (by rw [← drop_at hx, List.take_append_drop]) c hc
    have hbl := below_le (rk := rk) hst hD hxn rx
    refine ⟨_, rfl, g.o, dx1, _, rfl, ho1, nb, _, rfl, g, _, rt, rk, x, rfl, hG1, hxn, hL1, shape_of (rk := rk) hst hD hxn rx, fun H2 L2 pb f2 hG2 hL2 hpb hpbl => ?_⟩
    have hpbl : H2 pb = some (.lst ((belowF G rt x).map natV)) := hpbl
    have hG2 : GrAt N C g H2 { G with L := L2 } := hG2
    have fr2 : ∀ b o, ¬ b ∈ g.mut → H b = some o → H2 b = some o := fun b o nb hb => f2 _ _ nb (fr b o nb hb)
    have hm1' : MeasD H2 d1 (O.take i) (fun x => (B x).size) := by obtain ⟨k, a, b, c⟩ := hm1; exact ⟨k, f2 _ _ d1Off.m a, b, c⟩
    have hm2' : MeasD H2 d2 (O.take i) (fun x => (B x).nest) := by obtain ⟨k, a, b, c⟩ := hm2; exact ⟨k, f2 _ _ d2Off.m a, b, c⟩
    have hkd := (hE x hxO).kids
    have pb1 : pb ≠ d1 := fun e => by obtain ⟨k, a, _⟩ := hm1; rw [e, a] at hpb; cases hpb
    refine ⟨_, rfl, pb, rfl, ⟨_, SqL.of hpbl⟩, fun D1 hD1 => lc_map_lst (R := fun _ b z => z = natV b) (bs := (belowF G rt x).map fun c => (B c).size) (fun _ _ _ _ e h => h) (by rw [List.length_map, List.length_map]) (by rw [List.length_map]; omega) (SqL.of hpbl) ?_ hD1 ?_⟩
    · intro k y b H3 Q' hy hb s3 q'
      rw [List.getElem?_map, Option.map_eq_some_iff] at hb hy
      obtain ⟨c, hc, rfl⟩ := hb
      obtain ⟨c', hc', rfl⟩ := hy
      rw [hc] at hc'; cases hc'
      have hcm := List.mem_of_getElem? hc
      have hgd : DGet H3 d1 (natV c) (some (natV (B c).size)) := by
        obtain ⟨k, a, b, d⟩ := hm1'
        exact MeasD.get ⟨k, s3 _ _ a, b, d⟩ (hbt c hcm)
      exact ⟨_, rfl, _, rfl, d1, _, rfl, hgd, q' _ H3 (Same.refl _) rfl⟩
    · intro zs H3 s3 hd3 ha3
      rw [all_nat ha3] at hd3
      obtain ⟨k1, a1, b1', c1⟩ := hm1'
      have hkl : k1.length ≤ O.length := by
        have := congrArg List.length b1'
        rw [List.length_map, List.length_map, List.length_take] at this
        omega
      have e2 : V.int ((1 : Int) + (((belowF G rt x).map fun c => (B c).size).map fun (b : Nat) => (b : Int)).sum) = natV (B x).size := by
        rw [sum_cast, size_kids (B x), hkd, List.map_map]
        show V.int _ = V.int _
        rw [Int.natCast_add]; rfl
      have hput : DPut H3 d1 (natV x) (V.int ((1 : Int) + (((belowF G rt x).map fun c => (B c).size).map fun (b : Nat) => (b : Int)).sum)) (upd H3 d1 (.dK (putK k1 (Sum.inl (x : Int)) (natV (B x).size)))) := by
        rw [e2]; exact DPut.k (k := Sum.inl (x : Int)) (s3 _ _ a1) (sz1000 (by omega))
      refine ⟨D1, _, rfl, SqL.of hd3, 1, _, rfl, rfl, _, rfl, _, rfl, d1, _, rfl, hput, ?_⟩
      have hm3 := MeasD.put (f := fun x => (B x).size) (s3 _ _ a1) b1' c1 hxt
      have hpb4 : upd H3 d1 (.dK (putK k1 (Sum.inl (x : Int)) (natV (B x).size))) pb = some (.lst ((belowF G rt x).map natV)) := kp pb1 (s3 _ _ hpbl) _
      have hm4 : MeasD (upd H3 d1 (.dK (putK k1 (Sum.inl (x : Int)) (natV (B x).size)))) d2 (O.take i) (fun x => (B x).nest) := by obtain ⟨k, a, b, c⟩ := hm2'; exact ⟨k, kp h12.symm (s3 _ _ a) _, b, c⟩
      have hG4 := (hG2.same s3).other (o := .dK (putK k1 (Sum.inl (x : Int)) (natV (B x).size))) d1Off.m d1Off.o d1Off.r
      have fr4 : ∀ b o, ¬ b ∈ g.mut → H b = some o → upd H3 d1 (.dK (putK k1 (Sum.inl (x : Int)) (natV (B x).size))) b = some o := fun b o nb hb => kp (ne_of_none hb d1Off.new) (s3 _ _ (fr2 b o nb hb)) _
      generalize upd H3 d1 (.dK (putK k1 (Sum.inl (x : Int)) (natV (B x).size))) = H4 at hm3 hpb4 hm4 hG4 fr4
      refine ⟨(show 1 ≤ sizeLine by decide), fun l0 hl0 => ?_⟩
      have s5 : Same H4 (upd H4 l0 (.lst [.int 0])) := same_new hl0 _
      refine ⟨_, rfl, pb, rfl, ⟨_, SqL.of (s5 _ _ hpb4)⟩, fun D2 hD2 => lc_map_lst (R := fun _ b z => z = natV b) (bs := (belowF G rt x).map fun c => (B c).nest) (fun _ _ _ _ e h => h) (by rw [List.length_map, List.length_map]) (by rw [List.length_map]; omega) (SqL.of (s5 _ _ hpb4)) ?_ hD2 ?_⟩
      · intro k y b H6 Q' hy hb s6 q'
        rw [List.getElem?_map, Option.map_eq_some_iff] at hb hy
        obtain ⟨c, hc, rfl⟩ := hb
        obtain ⟨c', hc', rfl⟩ := hy
        rw [hc] at hc'; cases hc'
        have hcm := List.mem_of_getElem? hc
        have hgd : DGet H6 d2 (natV c) (some (natV (B c).nest)) := by
          obtain ⟨k, a, b, d⟩ := hm4
          exact MeasD.get ⟨k, s6 _ _ (s5 _ _ a), b, d⟩ (hbt c hcm)
        exact ⟨_, rfl, _, rfl, d2, _, rfl, hgd, q' _ H6 (Same.refl _) rfl⟩
      · intro zs6 H6 s6 hd6 ha6
        rw [all_nat ha6] at hd6
        have hl6 : ((((belowF G rt x).map fun c => (B c).nest).map fun (b : Nat) => (b : Int)).map V.int).length ≤ 2 := by rw [List.length_map, List.length_map, List.length_map]; exact hbl
        refine ⟨l0, D2, [.int 0], _, rfl, rfl, s6 _ _ upd_same, hd6, Nat.le_trans (show 1 + _ ≤ 3 by omega) (by decide), fun l7 hl7 => ?_⟩
        have s7 : Same H6 (upd H6 l7 (.lst ([.int 0] ++ (((belowF G rt x).map fun c => (B c).nest).map fun (b : Nat) => (b : Int)).map V.int))) := same_new hl7 _
        refine ⟨l7, 0 :: (((belowF G rt x).map fun c => (B c).nest).map fun (b : Nat) => (b : Int)), rfl, SqL.of upd_same, by simp, fun m hmm hmx => ?_⟩
        have em : m = ((mxl ((belowF G rt x).map fun c => (B c).nest) : Nat) : Int) := max_mxl hmm hmx
        subst em
        obtain ⟨k2, a2, b2', c2⟩ := hm4
        have hkl2 : k2.length ≤ O.length := by
          have := congrArg List.length b2'
          rw [List.length_map, List.length_map, List.length_take] at this
          omega
        have e3 : V.int ((1 : Int) + ((mxl ((belowF G rt x).map fun c => (B c).nest) : Nat) : Int)) = natV (B x).nest := by
          rw [nest_kids (B x), hkd, List.map_map]
          show V.int _ = V.int _
          rw [Int.natCast_add]; rfl
        have s8 := s5.trans (s6.trans s7)
        have hput2 : ∀ H8, H8 d2 = some (.dK k2) → DPut H8 d2 (natV x) (V.int ((1 : Int) + ((mxl ((belowF G rt x).map fun c => (B c).nest) : Nat) : Int))) (upd H8 d2 (.dK (putK k2 (Sum.inl (x : Int)) (natV (B x).nest)))) := fun H8 h8 => by
          rw [e3]; exact DPut.k (k := Sum.inl (x : Int)) h8 (sz1000 (by omega))
        refine ⟨1, _, rfl, rfl, _, rfl, _, rfl, d2, _, rfl, hput2 _ (s8 _ _ a2), ?_⟩
        refine ⟨L2, _, _, _, rfl, fun b o nb hb => kp (ne_of_none hb d2Off.new) (s8 _ _ (fr4 b o nb hb)) _, (hG4.same s8).other d2Off.m d2Off.o d2Off.r, hL2, ?_, ?_⟩
        · rw [take_get hx]
          obtain ⟨k, a, b, c⟩ := hm3
          exact ⟨k, kp h12 (s8 _ _ a) _, b, c⟩
        · rw [take_get hx]
          exact MeasD.put (f := fun x => (B x).nest) (s8 _ _ a2) b2' c2 hxt
  · rintro σ H1 ⟨L, v4, v5, v6, rfl, fr, hG1, hL1, hm1, hm2⟩
    rw [List.length_map, List.take_length] at hm1 hm2
    refine ⟨_, rfl, _, rfl, (show 2 ≤ sizeLine by decide), fun p hp => ?_⟩
    have s9 : Same H1 (upd H1 p (.tup [.ref d1, .ref d2])) := same_new hp _
    obtain ⟨k, a, b, c⟩ := hm1
    obtain ⟨k', a', b', c'⟩ := hm2
    exact q _ L p d1 d2 (fun b o nb hb => s9 _ _ (fr b o nb hb)) (hG1.same s9) hL1 upd_same ⟨k, s9 _ _ a, b, c⟩ ⟨k', s9 _ _ a', b', c'⟩
end
end K78
end
section
set_option maxHeartbeats 4000000
namespace K78
open PySem PySem.Spec PyProof.Rows L2
open Classical
/-- a dict from classes to terms -/
def FoundD (N : List Str) (H : Hp) (d : Addr) (O : List Nat) (B : Nat → Tm) : Prop := ∃ kvs, H d = some (.dK kvs) ∧ kvs.map (·.1) = O.map (fun (m : Nat) => (Sum.inl (m : Int) : Key)) ∧ ∀ x, x ∈ O → ∃ z, valV kvs (Sum.inl (x : Int) : Key) = some z ∧ TmAt N H (B x) z
theorem FoundD.put {N : List Str} {H : Hp} {d : Addr} {O : List Nat} {B : Nat → Tm} {kvs : List (Key × V)} (h1 : H d = some (.dK kvs)) (h2 : kvs.map (·.1) = O.map (fun (m : Nat) => (Sum.inl (m : Int) : Key))) (h3 : ∀ x, x ∈ O → ∃ z, valV kvs (Sum.inl (x : Int) : Key) = some z ∧ TmAt N H (B x) z) {x : Nat} (hx : ¬ x ∈ O) {z : V} (hz : TmAt N H (B x) z) :
    FoundD N (upd H d (.dK (putK kvs (Sum.inl (x : Int)) z))) d (O ++ [x]) B := by
  have t : TupSame H (upd H d (.dK (putK kvs (Sum.inl (x : Int)) z))) := tup_updD h1
  refine ⟨_, upd_same, ?_, fun y hy => ?_⟩
  · rw [keys_put, if_neg (by rw [h2]; exact fun q => hx (mem_keys.mp q)), h2, List.map_append]; rfl
  · by_cases e : y = x
    · subst e; exact ⟨z, by rw [valV_put, if_pos rfl], hz.tupS t⟩
    · obtain ⟨z', a, b⟩ := h3 y ((List.mem_append.mp hy).resolve_right fun q => e (List.mem_singleton.mp q))
      exact ⟨z', by rw [valV_put, if_neg (fun q => e (inl_inj.mp q))]; exact a, b.tupS t⟩
section
variable {P : Program} {w : World} {K : PySem.W.Frag} {mg : Str → Option Value} {base : Heap} {N : List Str} {C : Addr}
theorem FoundD.fr {g : GA} {H H1 : Hp} {G : Gr} {d : Addr} {O : List Nat} {B : Nat → Tm} (h : FoundD N H d O B) (hG : GrAt N C g H G) (f : Fr g H H1) (hd : ¬ d ∈ g.mut) : FoundD N H1 d O B := by
  obtain ⟨k, a, b, c⟩ := h
  exact ⟨k, f _ _ hd a, b, fun x hx => by obtain ⟨z, p, q⟩ := c x hx; exact ⟨z, p, q.tupS (hG.tup f)⟩⟩
theorem FoundD.same {H H1 : Hp} {d : Addr} {O : List Nat} {B : Nat → Tm} (h : FoundD N H d O B) (f : Same H H1) : FoundD N H1 d O B := by
  obtain ⟨k, a, b, c⟩ := h
  exact ⟨k, f _ _ a, b, fun x hx => by obtain ⟨z, p, q⟩ := c x hx; exact ⟨z, p, q.same f⟩⟩
def spBuilt (N : List Str) (C : Addr) : Sp := fun vs H Q _ => ∃ (g : GA) (G : Gr) (rt rk : Nat → Nat) (O : List Nat) (od : Addr) (B : Nat → Tm), vs = [.ref g.o, .ref od] ∧ GrAt N C g H G ∧ Gst G ∧ Ld G.n G.L rt rk ∧ Gdy G rt ∧ BI G rt O [] ∧ H od = some (.lst (O.map natV)) ∧ ¬ od ∈ g.mut ∧ (∀ x, x ∈ O → BEq G rt B x) ∧
  ∀ H' L' d, Fr g H H' → GrAt N C g H' { G with L := L' } → Ld G.n L' rt rk → H d = none → FoundD N H' d O B → Q (.ref d) H'
theorem ok_built (z1 : mg "tuple" = none) (T : GrC K C) (D : DM K C "built" "TermGraph.built" s_G_built ["self", "order"]) (G2 : OkM P w K mg base 2 C "below" ["self", "group"] (spBelow N C)) :
    OkM P w K mg base 3 C "built" ["self", "order"] (spBuilt N C) := by
  refine D.ok sc_G_built (fun vs H Q E h => ?_) (fun f cdv A outer s H vs Q E hr h => ?_)
  · obtain ⟨g, G, rt, rk, O, od, B, rfl, _⟩ := h
    rfl
  obtain ⟨g, G, rt, rk, O, od, B, rfl, hG, hst, hL, hD, hB, hod, odm, hE, q⟩ := h
  obtain ⟨f2, fd2, m2, b2, F2⟩ := G2
  have hr1 : Room 1 _ := hr.mono (by decide)
  have hu := hu_of hr1
  have nd := sc_G_built.nd
  refine ⟨_, pss_cons (ps_set (i := 2) nd rfl (Or.inr rfl) pe_dnewK)
    (pss_cons (ps_for PassesOwn.never rfl (pi_list (pv 1)) (pg_name (i := 3) nd rfl (.inl rfl))
      (pss_cons (ps_set (i := 4) nd rfl (Or.inl rfl) (pe_ix ix_list (pe_fld (pv 0) rfl) (pv 3) (fun _ _ => rfl)))
      (pss_one (ps_if (pt_cmpR op_lt (pv 4) pe_int (nomark _))
        (pss_one (ps_dput hu (pv 2) (pv 3) (pe_ix ix_list (pe_fld (pv 0) rfl) (pv 3) (fun _ _ => rfl)) rfl))
        (pss_one (ps_dput hu (pv 2) (pv 3) (pe_op op_catN (pe_tup (pa_cons (pe_ix ix_list (pe_fld (pv 0) rfl) (pv 4) (fun _ _ => rfl)) pa_nil)) (pe_callTy call_tuple_of (by rfl) z1 (by decide +kernel) (pa_cons
          (pe_lc (own := [("part", 5)]) (g := gName 5) (tt := tYes) rfl nd (pi_list (pe_meth (pv 0) T.cl m2 F2 hr b2 .nil pass0 (pa_cons (pv 3) pa_nil))) (blkOk_by (N := ["self", "order", "found", "group", "shape", "part"]) (sc := defScope s_G_built) (by decide +kernel)) (fun _ _ _ _ _ => pg_name (i := 5) nd rfl (Or.inl rfl)) (fun _ _ _ _ _ => pts_nil)
            (fun _ _ _ _ _ => pe_dget hu (pv 2) (pv 5) (fun _ _ => rfl))) pa_nil))) rfl))))))
    (pss_one (ps_ret (pv 2)))), ?_⟩
  intro d1 hd1
  have s1 : Same H (upd H d1 (.dK [])) := same_new hd1 _
  have d1Off : Off g G H d1 := hG.off (L := G.L) (fun _ _ _ h => h) hd1
  have nb := fs_no g (m := "below") (by decide +kernel) (by decide +kernel) (by decide +kernel) (by decide +kernel) (by decide +kernel) (by decide +kernel)
  have hOl : O.length ≤ G.n := nodup_lt G.n O hB.nd fun m hm => (hB.inn m hm).1
  have hn1 := hG.small.1
  refine ⟨_, rfl, od, rfl, ⟨_, SqL.of (s1 _ _ hod)⟩, ?_⟩
  refine for_list (K := K) (a := od) (xs := O.map natV) (fun i σ H1 => ∃ (L : Nat → Nat) (v3 v4 v5 : Option V), σ = [some (.ref g.o), some (.ref od), some (.ref d1), v3, v4, v5] ∧ (∀ b o, ¬ b ∈ g.mut → H b = some o → H1 b = some o) ∧ GrAt N C g H1 { G with L := L } ∧ Ld G.n L rt rk ∧ FoundD N H1 d1 (O.take i) B) ?_ ?_ ?_ ?_
  · exact ⟨G.L, none, none, none, rfl, fun b o _ h => s1 _ _ h, hG.same s1, hL, ⟨[], upd_same, rfl, fun x h => by cases h⟩⟩
  · rintro i σ H1 _ ⟨L, v3, v4, v5, _, fr, _⟩
    exact SqL.of (fr _ _ odm hod)
  · rintro i z σ H1 hi ⟨L, v3, v4, v5, rfl, fr, hG1, hL1, hm1⟩
    rw [List.getElem?_map, Option.map_eq_some_iff] at hi
    obtain ⟨x, hx, rfl⟩ := hi
    have hxO := List.mem_of_getElem? hx
    obtain ⟨hxn, rx⟩ := hB.inn x hxO
    obtain ⟨dx1, ho1⟩ := hG1.ob
    have hxt : ¬ x ∈ O.take i := by
      intro hin
      have hnd := hB.nd
      rw [← List.take_append_drop i O, drop_at hx, List.nodup_append] at hnd
      exact hnd.2.2 _ hin _ (List.mem_cons_self ..) rfl
    have hbt : ∀ c, c ∈ belowF G rt x → c ∈ O.take i := fun c hc => hB.topo (O.take i) x (O.drop (i + 1)) (by rw [← drop_at hx, List.take_append_drop]) c hc
    have hbl := below_le (rk := rk) hst hD hxn rx
    have hEx := hE x hxO
    have hkd := hEx.kids
    refine ⟨_, rfl, g.o, C, dx1, _, _, rfl, ho1, T.cl, T.ns, fs_s g, _, rfl, g.s, _, (x : Int), _, rfl, rfl, SqL.of hG1.hs, at_of (j := x) rfl (rg_get hxn), ?_⟩
    cases es : G.S x with
    | none =>
      refine ⟨_, rfl, -1, 0, rfl, rfl, _, rfl, ?_⟩
      refine iteT ?_
      obtain ⟨m, e1, e2⟩ := hEx.b0 es
      obtain ⟨k1, a1, b1', c1⟩ := hm1
      have hkl : k1.length ≤ O.length := by
        have := congrArg List.length b1'
        rw [List.length_map, List.length_map, List.length_take] at this
        omega
      have hput : DPut H1 d1 (natV x) (leV (G.E x)) (upd H1 d1 (.dK (putK k1 (Sum.inl (x : Int)) (natV m)))) := by
        rw [e1]; exact DPut.k (k := Sum.inl (x : Int)) a1 (sz1000 (by omega))
      refine ⟨_, rfl, g.o, C, dx1, _, _, rfl, ho1, T.cl, T.ne, fs_e g, _, rfl, g.e, _, (x : Int), _, rfl, rfl, SqL.of hG1.he, at_of (j := x) rfl (rg_get hxn), _, rfl, _, rfl, d1, _, rfl, hput, ?_⟩
      refine ⟨L, _, _, _, rfl, fun b o nb hb => kp (ne_of_none hb d1Off.new) (fr b o nb hb) _, hG1.other d1Off.m d1Off.o d1Off.r, hL1, ?_⟩
      rw [take_get hx]
      exact FoundD.put a1 b1' c1 hxt (by rw [e2]; rfl)
    | some sh =>
      refine ⟨_, rfl, (sh : Int), 0, rfl, rfl, _, rfl, ?_⟩
      rw [decide_eq_false (by omega)]
      refine iteF ?_
      obtain ⟨p1, p2, p3⟩ := hD.s1 _ _ hxn rx es
      obtain ⟨q1, q2, q3⟩ := hEx.b1 sh es
      have g1 : (rg G.n fun i => hdV N (G.T i))[sh]? = some (V.str (sy N (G.T sh))) := by rw [rg_get p1]; unfold hdV; rw [show (G.T sh).isV = false from p3]; rfl
      refine ⟨_, rfl, g.o, C, dx1, _, _, rfl, ho1, T.cl, T.nh, fs_h g, _, rfl, g.h, _, (sh : Int), _, rfl, rfl, SqL.of hG1.hh, at_of (j := sh) rfl g1, (show 1 ≤ sizeLine by decide), fun c hc => ?_⟩
      have s2 : Same H1 (upd H1 c (.tup [V.str (sy N (G.T sh))])) := same_new hc _
      have hG2 := hG1.same s2
      have hm2 := hm1.same s2
      have hc2 : upd H1 c (.tup [V.str (sy N (G.T sh))]) c = some (.tup [V.str (sy N (G.T sh))]) := upd_same
      generalize upd H1 c (.tup [V.str (sy N (G.T sh))]) = H2 at s2 hG2 hm2 hc2
      obtain ⟨dx2, ho2⟩ := hG2.ob
      refine ⟨_, rfl, g.o, dx2, _, rfl, ho2, nb, _, rfl, g, _, rt, rk, x, rfl, hG2, hxn, hL1, shape_of (rk := rk) hst hD hxn rx, fun H3 L3 pb f3 hG3 hL3 hpb hpbl => ?_⟩
      have hpbl : H3 pb = some (.lst ((belowF G rt x).map natV)) := hpbl
      have hG3 : GrAt N C g H3 { G with L := L3 } := hG3
      have hm3 := hm2.fr hG2 f3 d1Off.m
      have hc3 := hG2.tup f3 _ _ hc2
      have fr3 : ∀ b o, ¬ b ∈ g.mut → H b = some o → H3 b = some o := fun b o nb hb => f3 _ _ nb (s2 _ _ (fr b o nb hb))
      refine ⟨pb, rfl, ⟨_, SqL.of hpbl⟩, fun D1 hD1 => lc_map_lst (R := TmAt N) (bs := (belowF G rt x).map B) (fun _ _ _ _ e h => h.tupS e) (by rw [List.length_map, List.length_map]) (by rw [List.length_map]; omega) (SqL.of hpbl) ?_ hD1 ?_⟩
      · intro k y b H4 Q' hy hb s4 q'
        rw [List.getElem?_map, Option.map_eq_some_iff] at hb hy
        obtain ⟨c', hc', rfl⟩ := hb
        obtain ⟨c'', hc'', rfl⟩ := hy
        rw [hc'] at hc''; cases hc''
        have hcm := List.mem_of_getElem? hc'
        obtain ⟨k4, a4, b4, c4⟩ := hm3.same s4
        obtain ⟨z, hz1, hz2⟩ := c4 c' (hbt c' hcm)
        have hgd : DGet H4 d1 (natV c') (some z) := by rw [← hz1]; exact DGet.k (k := Sum.inl (c' : Int)) a4
        exact ⟨_, rfl, _, rfl, d1, _, rfl, hgd, q' _ H4 (Same.refl _) hz2⟩
      · intro zs H4 s4 hd4 ha4
        refine ⟨D1, zs, rfl, .inl ⟨SqL.of hd4, fun l hl => ?_⟩⟩
        have s5 : Same H4 (upd H4 l (.tup zs)) := same_new hl _
        have hzl : zs.length ≤ 2 := by rw [ha4.length, List.length_map]; exact hbl
        refine ⟨c, l, _, _, rfl, rfl, s5 _ _ (s4 _ _ hc3), upd_same, by simp, by rw [List.length_singleton]; omega, fun r H5 s6 hr5 => ?_⟩
        have s7 := s4.trans (s5.trans s6)
        have hm5 := hm3.same s7
        have hBr : TmAt N H5 (B x) (.ref r) := by
          refine TmAt.mk q1 (ys := zs) ?_ ?_
          · rw [hr5]; unfold sy; rw [q2]; rfl
          · rw [hkd]; exact TmsAt.same ha4 (s5.trans s6)
        obtain ⟨k5, a5, b5, c5⟩ := hm5
        have hkl : k5.length ≤ O.length := by
          have := congrArg List.length b5
          rw [List.length_map, List.length_map, List.length_take] at this
          omega
        refine ⟨_, rfl, _, rfl, d1, _, rfl, DPut.k (k := Sum.inl (x : Int)) a5 (sz1000 (by omega)), ?_⟩
        refine ⟨L3, _, _, _, rfl, fun b o nb hb => kp (ne_of_none hb d1Off.new) (s7 _ _ (fr3 b o nb hb)) _, (hG3.same s7).other d1Off.m d1Off.o d1Off.r, hL3, ?_⟩
        rw [take_get hx]
        exact FoundD.put a5 b5 c5 hxt hBr
  · rintro σ H1 ⟨L, v3, v4, v5, rfl, fr, hG1, hL1, hm1⟩
    rw [List.length_map, List.take_length] at hm1
    exact ⟨_, rfl, q H1 L d1 fr hG1 hL1 d1Off.new hm1⟩
end
end K78
end
section
set_option maxHeartbeats 4000000
namespace K78
open PySem PySem.Spec PyProof.Rows L2
open Classical
section
variable {P : Program} {w : World} {K : PySem.W.Frag} {mg : Str → Option Value} {base : Heap} {N : List Str} {C : Addr}
/-- the graph after the only pair was united -/
structure Post (N : List Str) (C : Addr) (g : GA) (H1 : Hp) (s t : Tm) (G : Gr) (rt rk : Nat → Nat) (a b : Nat) : Prop where
  gr : GrAt N C g H1 G
  st : Gst G
  ld : Ld G.n G.L rt rk
  dy : Gdy G rt
  cg : Cong G rt []
  go : Goes G rt [] a b
  an : a < G.n
  bn : b < G.n
  ta : G.T a = s
  tb : G.T b = t
  rs : ∀ θ, Unif s t θ → Resp G rt [] θ
  sb : ∀ i, i < G.n → Sb (G.T i) s ∨ Sb (G.T i) t
  kl : G.ks.length < 64
theorem Sb.size {u t : Tm} (h : Sb u t) (θ : Nat → Tm) : (u.ap θ).size ≤ (t.ap θ).size := by
  refine h (fun a => (a.ap θ).size ≤ (t.ap θ).size) (Nat.le_refl _) fun a ha b hb => ?_
  cases hv : a.isV with
  | true => cases a with
    | v _ => cases hb
    | c _ => cases hv
    | f _ => cases hv
    | g _ _ => cases hv
  | false =>
    obtain ⟨_, _, k⟩ := ap_kids' a θ hv
    have : b.ap θ ∈ (a.ap θ).kids := by rw [k]; exact List.mem_map.mpr ⟨_, hb, rfl⟩
    have := kid_size this
    have ha' : (a.ap θ).size ≤ (t.ap θ).size := ha
    show (b.ap θ).size ≤ _
    omega
theorem Gst.setL {G : Gr} (h : Gst G) (L : Nat → Nat) : Gst { G with L := L } := ⟨h.ar, h.nd, h.mn, h.mv⟩
theorem Gdy.setL {G : Gr} {rt : Nat → Nat} (h : Gdy G rt) (L : Nat → Nat) : Gdy { G with L := L } rt := ⟨h.s0, h.s1, h.e0, h.e1⟩
theorem BI.setL {G : Gr} {rt : Nat → Nat} {O : List Nat} {K : Stk} (h : BI G rt O K) (L : Nat → Nat) : BI { G with L := L } rt O K := ⟨h.inn, h.nd, h.topo, h.sin, h.mk0, h.mk1, h.ch, h.sz⟩
theorem BEq.setL {G : Gr} {rt : Nat → Nat} {B : Nat → Tm} {x : Nat} (h : BEq G rt B x) (L : Nat → Nat) : BEq { G with L := L } rt B x := ⟨h.b0, h.b1⟩
/-- what the result stands for, after some variables -/
noncomputable def resP (G : Gr) (rt : Nat → Nat) (B : Nat → Tm) (vs : List Int) : PSub := fun v => if (v : Int) ∈ vs ∧ B (rt (G.M v)) ≠ .v v then some (B (rt (G.M v))) else none
def spUAll (N : List Str) : Sp := fun vs H Q _ => ∃ (s t : Tm) (x y : V) (pl pp : Addr), vs = [.ref pl] ∧ H pl = some (.lst [.ref pp]) ∧ H pp = some (.tup [x, y]) ∧ TmAt N H s x ∧ TmAt N H t y ∧ s.nest ≤ 4 ∧ t.nest ≤ 4 ∧
  (∀ θ, Unif s t θ → ∃ θ', Unif s t θ' ∧ (s.ap θ').size ≤ 90) ∧ UnQ N s t H Q
theorem size_nest4 {t : Tm} (h : t.nest ≤ 4) : t.size ≤ 15 := by
  have key : ∀ (n : Nat) (t : Tm), t.nest ≤ n → t.size + 1 ≤ 2 ^ n := by
    intro n
    induction n with
    | zero => intro t h; have := nest_pos' t; omega
    | succ n ih =>
      intro t h
      have hp : 0 < 2 ^ n := Nat.pow_pos (by decide)
      cases t with
      | v _ => simp only [Tm.size, Nat.pow_succ]; omega
      | c _ => simp only [Tm.size, Nat.pow_succ]; omega
      | f a => have := ih a (by simp only [Tm.nest] at h; omega); simp only [Tm.size, Nat.pow_succ]; omega
      | g a b => have := ih a (by simp only [Tm.nest] at h; omega); have := ih b (by simp only [Tm.nest] at h; omega); simp only [Tm.size, Nat.pow_succ]; omega
  have := key 4 t h
  omega
theorem ok_uall {tk1 tk2 : Tok} (hN : NmOk N) (z1 : mg "sorted" = none) (z2 : mg "list" = none) (hC : mg "TermGraph" = some (.ref C)) (c1 : mg "MAX_SIZE" = some (.int 1000 tk1)) (c2 : mg "MAX_NESTING" = some (.int 100 tk2)) (T : GrC K C) (D : DF K mg "unify_all" s_unify_all ["pairs"])
    (G0 : OkI P w K mg base 1 C ["self"] (spGInit N C)) (G1 : OkM P w K mg base 5 C "add_term" ["self", "term"] (spAdd N C 4)) (G2 : OkM P w K mg base 2 C "unite" ["self", "first", "second"] (spUnite N C)) (G3 : OkM P w K mg base 3 C "bottom_up" ["self"] (spBU N C))
    (G4 : OkM P w K mg base 3 C "measures" ["self", "order"] (spMeas N C)) (G5 : OkM P w K mg base 3 C "built" ["self", "order"] (spBuilt N C)) (G6 : OkM P w K mg base 1 C "leader" ["self", "node"] (spLead N C)) : OkD P w K mg base 6 "unify_all" ["pairs"] (spUAll N) := by
  refine D.ok (k := 5) sc_unify_all (fun vs H Q E h => ?_) (fun f cdv A outer s H vs Q E hr h => ?_)
  · obtain ⟨s, t, x, y, pl, pp, rfl, _⟩ := h
    rfl
  obtain ⟨s0, t0, x, y, pl, pp, rfl, hpl, hpp, hs0, ht0, hsn, htn, hB, qS, qN⟩ := h
  obtain ⟨f0, fd0, M0, b0, F0⟩ := G0
  obtain ⟨f1, fd1, m1, b1, F1⟩ := G1
  obtain ⟨f2, fd2, m2, b2, F2⟩ := G2
  obtain ⟨f3, fd3, m3, b3, F3⟩ := G3
  obtain ⟨f4, fd4, m4, b4, F4⟩ := G4
  obtain ⟨f5, fd5, m5, b5, F5⟩ := G5
  obtain ⟨f6, fd6, m6, b6, F6⟩ := G6
  have hr1 : Room 1 _ := hr.mono (by decide)
  have hr2 : Room 2 _ := hr.mono (by decide)
  have hr3 : Room 3 _ := hr.mono (by decide)
  have hu := hu_of hr1
  have nd := sc_unify_all.nd
  refine ⟨_, pss_cons (ps_set (i := 1) nd rfl (Or.inl rfl) (pe_make0 M0 F0 hr2 rfl hC b0 .nil pass0))
    (pss_cons (ps_for PassesOwn.never rfl (pi_list (pv 0)) (pg_tup rfl (pgs_cons (pg_name (i := 2) nd rfl (.inl rfl)) (pgs_cons (pg_name (i := 3) nd rfl (.inl rfl)) pgs_nil)))
      (pss_one (ps_if (pt_not (pt_val (pe_meth (pv 1) T.cl m2 F2 hr2 b2 .nil pass0 (pa_cons (pe_meth (pv 1) T.cl m1 F1 hr b1 .nil pass0 (pa_cons (pv 2) pa_nil)) (pa_cons (pe_meth (pv 1) T.cl m1 F1 hr b1 .nil pass0 (pa_cons (pv 3) pa_nil)) pa_nil))))) (pss_one (ps_ret pe_non)) pss_nil)))
    (pss_cons (ps_set (i := 4) nd rfl (Or.inl rfl) (pe_meth0 (pv 1) T.cl m3 F3 hr3 b3 .nil pass0))
    (pss_cons (ps_if (pt_cmpR op_isN (pv 4) pe_non (nomark _)) (pss_one (ps_ret pe_non)) pss_nil)
    (pss_cons (ps_asg (pe_meth (pv 1) T.cl m4 F4 hr3 b4 .nil pass0 (pa_cons (pv 4) pa_nil)) (pg_tup rfl (pgs_cons (pg_name (i := 5) nd rfl (.inl rfl)) (pgs_cons (pg_name (i := 6) nd rfl (.inl rfl)) pgs_nil))))
    (pss_cons (ps_for PassesOwn.never rfl (pi_list (pv 4)) (pg_name (i := 7) nd rfl (.inl rfl))
      (pss_one (ps_if (PW.pt (pw_or (pt_cmpR op_gt (pe_dget hu (pv 5) (pv 7) (fun _ _ => rfl)) (pe_glob (v := .int 1000) rfl c1 ⟨_, rfl⟩) (nomark _)) (pw_or1 (pt_cmpR op_gt (pe_dget hu (pv 6) (pv 7) (fun _ _ => rfl)) (pe_glob (v := .int 100) rfl c2 ⟨_, rfl⟩) (nomark _))))) (pss_one ps_never) pss_nil)))
    (pss_cons (ps_set (i := 8) nd rfl (Or.inl rfl) (pe_meth (pv 1) T.cl m5 F5 hr3 b5 .nil pass0 (pa_cons (pv 4) pa_nil)))
    (pss_cons (ps_set (i := 9) nd rfl (Or.inl rfl) pe_dnewK)
    (pss_cons (ps_for PassesOwn.never rfl (pi_list (pe_callB cr_sorted (by rfl) z1 (by decide +kernel) (pa_cons (pe_callTy (call_list_dK rfl) (by rfl) z2 (by decide +kernel) (pa_cons (pe_fld (pv 1) rfl) pa_nil)) pa_nil))) (pg_name (i := 10) nd rfl (.inl rfl))
      (pss_cons (ps_set (i := 11) nd rfl (Or.inl rfl) (pe_dget hu (pv 8) (pe_meth (pv 1) T.cl m6 F6 hr1 b6 .nil pass0 (pa_cons (pe_dget hu (pe_fld (pv 1) rfl) (pv 10) (fun _ _ => rfl)) pa_nil)) (fun _ _ => rfl)))
      (pss_one (ps_if (pt_cmpR (op_neTm hN (hu2 hr)) (pv 11) (pv 10) (nomark _)) (pss_one (ps_dput hu (pv 9) (pv 10) (pv 11) rfl)) pss_nil))))
    (pss_one (ps_ret (pv 9))))))))))), ?_⟩
  intro o dx ho hdx hne
  refine ⟨o, dx, rfl, upd_same, fun g H1 hgo hfr hnew hG1 => ⟨rfl, ?_⟩⟩
  subst hgo
  have mnew : ∀ x, x ∈ g.mut → H x = none := fun x hx => by
    have h1 := hnew x hx
    by_cases q1 : x = g.o
    · rw [q1]; exact ho
    · rw [upd_ne q1] at h1
      by_cases q2 : x = dx
      · rw [q2]; exact hdx
      · rw [upd_ne q2] at h1; exact h1
  have S1 : Same H H1 := fun b v hb => hfr b v (ne_of_none hb ho) (by rw [upd_ne (ne_of_none hb ho), upd_ne (ne_of_none hb hdx)]; exact hb)
  have fS : ∀ {Hj Hk : Hp}, Same H Hj → Fr g Hj Hk → Same H Hk := fun {Hj Hk} a f b v hb => f b v (fun q => by rw [mnew b q] at hb; cases hb) (a b v hb)
  have no : ∀ {m : Str}, (m == ("heads" : Str)) = false → (m == ("arguments" : Str)) = false → (m == ("leaders" : Str)) = false → (m == ("shapes" : Str)) = false → (m == ("least" : Str)) = false → (m == ("nodes" : Str)) = false → g.fs.lookup m = none := fun h1 h2 h3 h4 h5 h6 => fs_no g h1 h2 h3 h4 h5 h6
  have n1 := no (m := "unite") (by decide +kernel) (by decide +kernel) (by decide +kernel) (by decide +kernel) (by decide +kernel) (by decide +kernel)
  have n2 := no (m := "add_term") (by decide +kernel) (by decide +kernel) (by decide +kernel) (by decide +kernel) (by decide +kernel) (by decide +kernel)
  have n3 := no (m := "bottom_up") (by decide +kernel) (by decide +kernel) (by decide +kernel) (by decide +kernel) (by decide +kernel) (by decide +kernel)
  have n4 := no (m := "measures") (by decide +kernel) (by decide +kernel) (by decide +kernel) (by decide +kernel) (by decide +kernel) (by decide +kernel)
  have n5 := no (m := "built") (by decide +kernel) (by decide +kernel) (by decide +kernel) (by decide +kernel) (by decide +kernel) (by decide +kernel)
  have n6 := no (m := "leader") (by decide +kernel) (by decide +kernel) (by decide +kernel) (by decide +kernel) (by decide +kernel) (by decide +kernel)
  have hz1 := size_nest4 hsn
  have hz2 := size_nest4 htn
  refine ⟨_, rfl, pl, rfl, ⟨_, SqL.of (S1 _ _ hpl)⟩, ?_⟩
  refine for_list (K := K) (a := pl) (xs := [.ref pp]) (fun i σ H2 => ∃ (v2 v3 : Option V), σ = [some (.ref pl), some (.ref g.o), v2, v3, none, none, none, none, none, none, none, none] ∧ Same H H2 ∧ ((i = 0 ∧ GrAt N C g H2 empG) ∨ (i = 1 ∧ ∃ G rt rk a b, Post N C g H2 s0 t0 G rt rk a b))) ?_ ?_ ?_ ?_
  · exact ⟨none, none, rfl, S1, .inl ⟨rfl, hG1⟩⟩
  · rintro i σ H2 _ ⟨v2, v3, _, S2, _⟩
    exact SqL.of (S2 _ _ hpl)
  · rintro i z σ H2 hi ⟨v2, v3, rfl, S2, hst⟩
    have hi0 : i = 0 := by have := (List.getElem?_eq_some_iff.mp hi).1; simp at this; omega
    subst hi0
    have hzz : V.ref pp = z := Option.some.inj hi
    subst hzz
    have hG2 : GrAt N C g H2 empG := by
      rcases hst with ⟨_, h⟩ | ⟨q0, _⟩
      · exact h
      · cases q0
    refine ⟨pp, _, rfl, SqT.of (S2 _ _ hpp), rfl, x, [y], rfl, y, [], rfl, rfl, ?_⟩
    obtain ⟨dx2, ho2⟩ := hG2.ob
    refine ⟨_, rfl, g.o, dx2, _, rfl, ho2, n1, _, rfl, g.o, dx2, _, rfl, ho2, n2, _, rfl, g, empG, s0, x, rfl, hG2, gst_emp, fresh_emp, hs0.same S2, hsn, (by show 0 + _ ≤ 1000; omega), (by show 0 + _ ≤ 1000; omega), fun H3 G3 a f3 hG3 hst3 hfr3 hx3 ha3 hta3 hnew3 hn3 hk3 => ?_⟩
    have S3 := fS S2 f3
    obtain ⟨dx3, ho3⟩ := hG3.ob
    have hn3' : G3.n ≤ 15 := by have : G3.n ≤ 0 + s0.size := hn3; omega
    have hk3' : G3.ks.length ≤ 15 := by have : G3.ks.length ≤ 0 + s0.size := hk3; omega
    refine ⟨_, rfl, g.o, dx3, _, rfl, ho3, n2, _, rfl, g, G3, t0, y, rfl, hG3, hst3, hfr3, ht0.same S3, htn, by omega, by omega, fun H4 G4 b f4 hG4 hst4 hfr4 hx4 hb4 htb4 hnew4 hn4 hk4 => ?_⟩
    have S4 := fS S3 f4
    have ha4 : a < G4.n := Nat.lt_of_lt_of_le ha3 hx4.n
    have hta4 : G4.T a = s0 := by rw [hx4.T a ha3, hta3]
    have hsb4 : ∀ i, i < G4.n → Sb (G4.T i) s0 ∨ Sb (G4.T i) t0 := fun i hi => by
      by_cases q : i < G3.n
      · rw [hx4.T i q]; exact .inl (hnew3 i (Nat.zero_le _) q).1
      · exact .inr (hnew4 i (by omega) hi).1
    have hres : ∀ θ, Resp G4 id [(a, b)] θ ↔ Unif s0 t0 θ := fun θ => by
      constructor
      · intro h
        have := h.2 (a, b) (List.mem_cons_self ..)
        rw [hta4, htb4] at this
        exact this
      · intro h
        refine ⟨fun _ _ => rfl, fun e he => ?_⟩
        rw [List.mem_singleton] at he
        subst he
        show (G4.T a).ap θ = (G4.T b).ap θ
        rw [hta4, htb4]; exact h
    refine ⟨g, G4, id, fun _ => 0, a, b, rfl, hG4, hst4, ha4, hb4, hfr4.ld, hfr4.gdy, hfr4.cong _, fun H5 L S E' rt' rk' f5 hG5 hL5 hD5 hC5 hO5 hR5 => ?_, fun H5 f5 hno => ?_⟩
    · refine ⟨_, rfl, ?_⟩
      refine iteF ?_
      exact ⟨_, _, rfl, fS S4 f5, .inr ⟨rfl, _, rt', rk', a, b, ⟨hG5, ⟨hst4.ar, hst4.nd, hst4.mn, hst4.mv⟩, hL5, hD5, hC5, hO5, ha4, hb4, hta4, htb4, fun θ h => hR5 θ ((hres θ).mpr h), hsb4, by show G4.ks.length < 64; omega⟩⟩⟩
    · refine ⟨_, rfl, ?_⟩
      refine iteT ?_
      exact qN H5 (fS S4 f5) fun ⟨θ, h⟩ => hno ⟨θ, (hres θ).mpr h⟩
  · rintro σ H2 ⟨v2, v3, rfl, S2, hst⟩
    obtain ⟨G, rt, rk, a, b, Z⟩ : ∃ G rt rk a b, Post N C g H2 s0 t0 G rt rk a b := by
      rcases hst with ⟨q0, _⟩ | ⟨_, h⟩
      · cases q0
      · exact h
    have hno : (¬ ∃ θ, Resp G rt [] θ) → ¬ ∃ θ, Unif s0 t0 θ := fun h ⟨θ, hθ⟩ => h ⟨θ, Z.rs θ hθ⟩
    obtain ⟨dx2, ho2⟩ := Z.gr.ob
    refine ⟨_, rfl, g.o, dx2, _, rfl, ho2, n3, g, G, rt, rk, rfl, Z.gr, Z.st, Z.ld, Z.dy, Z.kl, fun H3 L3 od O f3 hG3 hL3 hodn hod hBI hvar => ?_, fun H3 f3 hn => ?_⟩
    rotate_left
    · refine ⟨_, rfl, rfl, _, rfl, ?_⟩
      refine iteT ?_
      exact qN H3 (fS S2 f3) (hno hn)
    have S3 := fS S2 f3
    have odm := Z.gr.new hodn
    obtain ⟨B, hBq⟩ := build_exists Z.st Z.dy hBI
    have Zs := sol_of hBI hBq hvar
    have hmgu := Zs.mgu Z.st Z.ld Z.dy Z.cg Z.an Z.bn Z.go (fun θ h => Z.rs θ (by rw [Z.ta, Z.tb] at h; exact h))
    rw [Z.ta, Z.tb] at hmgu
    obtain ⟨θ, hθ, hθ90⟩ := hB _ hmgu.un
    have hBsz : ∀ r, r ∈ O → (B r).size ≤ 90 := fun r hr => by
      have h1 := Zs.under Z.st Z.ld Z.dy (Z.rs θ hθ) _ r (Nat.le_refl _) hr
      have h2 := size_ap_le θ (B r)
      rw [h1] at h2
      have h3 : ((G.T r).ap θ).size ≤ (s0.ap θ).size := by
        rcases Z.sb r (hBI.inn r hr).1 with h | h
        · exact h.size θ
        · rw [show s0.ap θ = t0.ap θ from hθ]; exact h.size θ
      omega
    refine ⟨_, rfl, rfl, _, rfl, ?_⟩
    refine iteF ?_
    obtain ⟨dx3, ho3⟩ := hG3.ob
    refine ⟨_, rfl, g.o, dx3, _, rfl, ho3, n4, _, rfl, g, _, rt, rk, O, od, B, rfl, hG3, Z.st.setL _, hL3, Z.dy.setL _, hBI.setL _, hod, odm, fun x hx => (hBq x hx).setL _, fun H4 L4 p d1 d2 f4 hG4 hL4 hp4 hd1 hd2 => ?_⟩
    have hG4 : GrAt N C g H4 { G with L := L4 } := hG4
    have S4 := fS S3 f4
    have hod4 := f4 _ _ odm hod
    refine ⟨p, _, rfl, SqT.of hp4, rfl, .ref d1, [.ref d2], rfl, .ref d2, [], rfl, rfl, ?_⟩
    refine ⟨_, rfl, od, rfl, ⟨_, SqL.of hod4⟩, ?_⟩
    refine for_list (K := K) (a := od) (xs := O.map natV) (fun i σ Hx => ∃ (v7 : Option V), σ = [some (.ref pl), some (.ref g.o), v2, v3, some (.ref od), some (.ref d1), some (.ref d2), v7, none, none, none, none] ∧ Hx = H4) ?_ ?_ ?_ ?_
    · exact ⟨none, rfl, rfl⟩
    · rintro i σ Hx _ ⟨v7, _, rfl⟩
      exact SqL.of hod4
    · rintro i z σ Hx hi ⟨v7, rfl, rfl⟩
      rw [List.getElem?_map, Option.map_eq_some_iff] at hi
      obtain ⟨r, hr, rfl⟩ := hi
      have hrO := List.mem_of_getElem? hr
      have h90 := hBsz r hrO
      have h91 := nest_le_size (B r)
      refine ⟨_, rfl, _, rfl, d1, _, rfl, hd1.get hrO, _, _, rfl, rfl, _, rfl, ?_⟩
      rw [decide_eq_false (show ¬ (1000 : Int) < ((B r).size : Int) by omega)]
      refine iteF ?_
      refine ⟨_, rfl, _, rfl, d2, _, rfl, hd2.get hrO, _, _, rfl, rfl, _, rfl, ?_⟩
      rw [decide_eq_false (show ¬ (100 : Int) < ((B r).nest : Int) by omega)]
      refine iteF ?_
      exact ⟨_, rfl, rfl⟩
    rintro σ Hx ⟨v7, rfl, rfl⟩
    obtain ⟨dx4, ho4⟩ := hG4.ob
    refine ⟨_, rfl, g.o, dx4, _, rfl, ho4, n5, _, rfl, g, _, rt, rk, O, od, B, rfl, hG4, Z.st.setL _, hL4, Z.dy.setL _, hBI.setL _, hod4, odm, fun x hx => (hBq x hx).setL _, fun H5 L5 d3 f5 hG5 hL5 hd3n hd3 => ?_⟩
    have hG5 : GrAt N C g H5 { G with L := L5 } := hG5
    have S5 := fS S4 f5
    have d3m := hG4.new hd3n
    intro rd hrd
    have s6 : Same H5 (upd H5 rd (.dK [])) := same_new hrd _
    have rdm := hG5.new hrd
    have rdo : rd ≠ g.o := fun e => by obtain ⟨_, h⟩ := hG5.ob; rw [e, h] at hrd; cases hrd
    have rdR : ∀ i, i < G.n → G.R i ≠ rd := fun i hi e => by have h := (hG5.ha.2 i hi).2; rw [show ({ G with L := L5 } : Gr).R i = G.R i from rfl, e, hrd] at h; cases h
    have rd3 : d3 ≠ rd := fun e => by obtain ⟨k, a, _⟩ := hd3; rw [e, hrd] at a; cases a
    have hrdH : H rd = none := by
      cases h : H rd with
      | none => rfl
      | some v => rw [S5 _ _ h] at hrd; cases hrd
    have hG6 := hG5.same s6
    have S6 := S5.trans s6
    have hd6 := hd3.same s6
    have hrd6 : upd H5 rd (.dK []) rd = some (.dK []) := upd_same
    generalize upd H5 rd (.dK []) = H6 at hG6 S6 hd6 hrd6
    obtain ⟨dx6, ho6⟩ := hG6.ob
    obtain ⟨kvm, hk, hk1, hk2, hk3⟩ := hG6.hm
    have ek : kvm.map (fun kv => kV kv.1) = (G.ks.map (fun (v : Nat) => (v : Int))).map V.int := by
      have : kvm.map (fun kv => kV kv.1) = (kvm.map (·.1)).map kV := by rw [List.map_map]; rfl
      rw [this, hk1, List.map_map, List.map_map]; rfl
    refine ⟨_, rfl, g.o, C, dx6, _, _, rfl, ho6, T.cl, T.nm, fs_m g, g.m, kvm, rfl, hk, fun l hl => ?_⟩
    rw [ek]
    refine ⟨l, G.ks.map (fun (v : Nat) => (v : Int)), rfl, SqL.of upd_same, by rw [List.length_map]; exact Z.kl, fun ns sl hperm _ hsl => ?_⟩
    have s7 := (same_new hl (.lst ((G.ks.map (fun (v : Nat) => (v : Int))).map V.int))).trans (same_new hsl (.lst (ns.map V.int)))
    have slr : sl ≠ rd := fun e => by rw [e, same_new hl _ _ _ hrd6] at hsl; cases hsl
    have slm := (hG6.same (same_new hl (.lst ((G.ks.map (fun (v : Nat) => (v : Int))).map V.int)))).new hsl
    refine ⟨sl, rfl, ⟨_, SqL.of upd_same⟩, ?_⟩
    have nsk : ∀ z, z ∈ ns → ∃ v, v ∈ G.ks ∧ (v : Int) = z := fun z hz => by
      have := hperm.mem_iff.mp hz
      obtain ⟨v, hv, e⟩ := List.mem_map.mp this
      exact ⟨v, hv, e⟩
    have nsl : ns.length = G.ks.length := by rw [hperm.length_eq, List.length_map]
    refine for_list (K := K) (a := sl) (xs := ns.map V.int) (fun i σ Hx => ∃ (L : Nat → Nat) (k : Nat) (v7 v10 v11 : Option V), σ = [some (.ref pl), some (.ref g.o), v2, v3, some (.ref od), some (.ref d1), some (.ref d2), v7, some (.ref d3), some (.ref rd), v10, v11] ∧ Same H Hx ∧ GrAt N C g Hx { G with L := L } ∧ Ld G.n L rt rk ∧ FoundD N Hx d3 O B ∧ SubAt N Hx rd (resP G rt B (ns.take i)) k ∧ k ≤ i ∧ Hx sl = some (.lst (ns.map V.int))) ?_ ?_ ?_ ?_
    · refine ⟨L5, 0, _, none, none, rfl, S6.trans s7, hG6.same s7, hL5, hd6.same s7, ⟨[], s7 _ _ hrd6, Nat.le_refl _, fun n => ?_⟩, Nat.le_refl _, upd_same⟩
      unfold resP
      rw [List.take_zero, if_neg (fun h => by cases h.1)]
      rfl
    · rintro i σ Hx _ ⟨L, k, v7, v10, v11, _, _, _, _, _, _, _, h⟩
      exact SqL.of h
    · rintro i z σ Hx hi ⟨L, k, v7, v10, v11, rfl, Sx, hGx, hLx, hFx, hRx, hki, hslx⟩
      rw [List.getElem?_map, Option.map_eq_some_iff] at hi
      obtain ⟨z', hz', rfl⟩ := hi
      obtain ⟨v, hv, rfl⟩ := nsk z' (List.mem_of_getElem? hz')
      obtain ⟨dxx, hox⟩ := hGx.ob
      obtain ⟨kvx, hmx, _, hmx2, _⟩ := hGx.hm
      obtain ⟨hMv, _⟩ := Z.st.mn v hv
      have hgv : DGet Hx g.m (natV v) (some (natV (G.M v))) := by rw [← hmx2 v hv]; exact DGet.k (k := Sum.inl (v : Int)) hmx
      have hil : i < ns.length := (List.getElem?_eq_some_iff.mp hz').1
      refine ⟨_, rfl, _, rfl, g.o, dxx, _, rfl, hox, n6, _, rfl, g.o, C, dxx, _, _, rfl, hox, T.cl, T.nm, fs_m g, _, rfl, g.m, _, rfl, hgv, g, _, rt, rk, G.M v, rfl, hGx, hMv, hLx, fun Hy Ly fy hGy hLy => ?_⟩
      have hGy : GrAt N C g Hy { G with L := Ly } := hGy
      have Sy := fS Sx fy
      have hFy := hFx.fr hGx fy d3m
      obtain ⟨kr, hr1', hr2', hr3'⟩ := hRx
      have hry := fy _ _ rdm hr1'
      have hsly := fy _ _ slm hslx
      have hry3 : SubK N Hy kr (resP G rt B (ns.take i)) := hr3'.tupS (hGx.tup fy)
      obtain ⟨k3, a3, b3', c3⟩ := hFy
      obtain ⟨zt, hzt1, hzt2⟩ := c3 (rt (G.M v)) (hvar v hv)
      have hgd : DGet Hy d3 (natV (rt (G.M v))) (some zt) := by rw [← hzt1]; exact DGet.k (k := Sum.inl (rt (G.M v) : Int)) a3
      refine ⟨d3, zt, rfl, hgd, ?_⟩
      refine ⟨_, rfl, _, rfl, B (rt (G.M v)), .v v, hzt2, rfl, ?_, _, rfl, ?_⟩
      · simp only [Tm.nest]; omega
      by_cases eB : B (rt (G.M v)) = .v v
      · rw [decide_eq_true eB]
        refine iteF ?_
        refine ⟨Ly, k, _, _, _, rfl, Sy, hGy, hLy, ⟨k3, a3, b3', c3⟩, ⟨kr, hry, hr2', ?_⟩, by omega, hsly⟩
        have e1 : resP G rt B (ns.take (i + 1)) = resP G rt B (ns.take i) := by
          funext u
          unfold resP
          by_cases q : u = v
          · subst q
            rw [if_neg (fun h => h.2 eB), if_neg (fun h => h.2 eB)]
          · have : ((u : Int) ∈ ns.take (i + 1)) ↔ (u : Int) ∈ ns.take i := by
              rw [take_get hz', List.mem_append, List.mem_singleton]
              constructor
              · rintro (h | h)
                · exact h
                · exact absurd (by omega) q
              · exact .inl
            simp only [this]
        rw [e1]; exact hry3
      · rw [decide_eq_false eB]
        refine iteT ?_
        have hn1 := Z.kl
        refine ⟨_, rfl, _, rfl, _, rfl, rd, _, rfl, DPut.k (k := Sum.inl (v : Int)) hry (sz1000 (by omega)), ?_⟩
        have tS : TupSame Hy (upd Hy rd (.dK (putK kr (Sum.inl (v : Int)) zt))) := tup_updD hry
        refine ⟨Ly, k + 1, _, _, _, rfl, fun b o hb => kp (ne_of_none hb hrdH) (Sy b o hb) _, hGy.other rdm rdo rdR, hLy, ⟨k3, kp rd3 a3 _, b3', fun x hx => by obtain ⟨z, p, q⟩ := c3 x hx; exact ⟨z, p, q.tupS tS⟩⟩, ⟨_, upd_same, ?_, ?_⟩, by omega, kp slr hsly _⟩
        · have := length_putK kr (Sum.inl (v : Int) : Key) zt; omega
        · have e1 : resP G rt B (ns.take (i + 1)) = (resP G rt B (ns.take i)).set v (B (rt (G.M v))) := by
            funext u
            unfold PSub.set
            by_cases q : u = v
            · subst q
              rw [if_pos rfl]
              unfold resP
              rw [if_pos ⟨by rw [take_get hz']; simp, eB⟩]
            · rw [if_neg q]
              unfold resP
              have : ((u : Int) ∈ ns.take (i + 1)) ↔ (u : Int) ∈ ns.take i := by
                rw [take_get hz', List.mem_append, List.mem_singleton]
                constructor
                · rintro (h | h)
                  · exact h
                  · exact absurd (by omega) q
                · exact .inl
              simp only [this]
          rw [e1]
          exact SubK.put (hry3.tupS tS) (hzt2.tupS tS)
    · rintro σ Hx ⟨L, k, v7, v10, v11, rfl, Sx, hGx, hLx, hFx, hRx, hki, hslx⟩
      rw [List.length_map, List.take_length] at hRx
      refine ⟨_, rfl, qS rd Hx _ k Sx ?_ hRx⟩
      have e1 : (resP G rt B ns).tot = solF G rt B := by
        funext u
        unfold PSub.tot resP solF
        by_cases q : u ∈ G.ks
        · have q2 : (u : Int) ∈ ns := hperm.mem_iff.mpr (List.mem_map.mpr ⟨u, q, rfl⟩)
          rw [if_pos q]
          by_cases eB : B (rt (G.M u)) = .v u
          · rw [if_neg (fun h => h.2 eB), eB]; rfl
          · rw [if_pos ⟨q2, eB⟩]; rfl
        · have q2 : ¬ (u : Int) ∈ ns := fun h => by
            obtain ⟨v, hv, e⟩ := nsk _ h
            have : v = u := by omega
            exact q (this ▸ hv)
          rw [if_neg q, if_neg (fun h => q2 h.1)]; rfl
      rw [e1]
      exact hmgu
/-! ### unify -/
def spUnify (N : List Str) : Sp := fun vs H Q _ => ∃ (s t : Tm) (x y : V), vs = [x, y] ∧ TmAt N H s x ∧ TmAt N H t y ∧ s.nest ≤ 4 ∧ t.nest ≤ 4 ∧ (∀ θ, Unif s t θ → ∃ θ', Unif s t θ' ∧ (s.ap θ').size ≤ 90) ∧ UnQ N s t H Q
theorem ok_unify (D : DF K mg "unify" s_unify ["first", "second"]) (G : OkD P w K mg base 6 "unify_all" ["pairs"] (spUAll N)) : OkD P w K mg base 7 "unify" ["first", "second"] (spUnify N) := by
  refine D.ok (k := 6) sc_unify (fun vs H Q E h => ?_) (fun f cdv A outer s H vs Q E hr h => ?_)
  · obtain ⟨s, t, x, y, rfl, _⟩ := h
    rfl
  obtain ⟨s0, t0, x, y, rfl, hs0, ht0, hsn, htn, hB, qS, qN⟩ := h
  obtain ⟨f1, fd1, m1, k1, b1, F1, _⟩ := G
  refine ⟨_, pss_one (ps_ret (pe_call F1 hr rfl m1 k1 b1 .nil pass0 (pa_cons (pe_lst (pa_cons (pe_tup (pa_cons (pv 0) (pa_cons (pv 1) pa_nil))) pa_nil)) pa_nil))), ?_⟩
  refine ⟨_, rfl, _, rfl, (show 2 ≤ sizeLine by decide), fun p hp => ⟨(show 1 ≤ sizeLine by decide), fun l hl => ?_⟩⟩
  have s1 : Same H (upd H p (.tup [x, y])) := same_new hp _
  have s2 := s1.trans (same_new hl (.lst [.ref p]))
  have hpl : p ≠ l := ne_of_none upd_same hl
  refine ⟨s0, t0, x, y, l, p, rfl, upd_same, kp hpl upd_same _, hs0.same s2, ht0.same s2, hsn, htn, hB, fun d H' q k s3 hm hsub => qS d H' q k (s2.trans s3) hm hsub, fun H' s3 hn => qN H' (s2.trans s3) hn⟩
end
end K78
end
section
set_option maxHeartbeats 4000000
namespace K78
open PySem PySem.Spec PyProof.Rows L2
/-- the weights as the program asks them to be -/
def WtOk (kvs : List (Key × V)) : Prop := kvs.length ≤ 100 ∧ ∀ kv, kv ∈ kvs → ∃ (a : Str) (n : Nat), kv.1 = Sum.inr a ∧ kv.2 = natV n ∧ 1 ≤ n ∧ a ≠ "true"
theorem valV_memv {kvs : List (Key × V)} {k : Key} : ∀ {v : V}, valV kvs k = some v → (k, v) ∈ kvs := by
  induction kvs with
  | nil => intro v h; cases h
  | cons e r ih =>
    intro v h
    unfold valV at h
    rw [List.find?_cons] at h
    by_cases q : decide (e.1 = k) = true
    · rw [q] at h
      have e1 : e.1 = k := of_decide_eq_true q
      have e2 : e.2 = v := by simpa using h
      rw [← e1, ← e2]
      exact List.mem_cons_self ..
    · rw [Bool.eq_false_iff.mpr q] at h
      exact List.mem_cons_of_mem _ (ih h)
section
variable {P : Program} {w : World} {K : PySem.W.Frag} {mg : Str → Option Value} {base : Heap} {N : List Str} {C : Addr}
/-- isinstance(x, bool), isinstance(x, int) of an int -/
def rIsB : List V → Hp → VK → Prop := fun xs H Q => ∃ i : Int, xs = [.int i, .ty "bool"] ∧ Q (.bl false) H
theorem call_isB {X : Cx} : CallR X (.builtin "isinstance") rIsB := by
  intro pins s σ H xs us Q I r h
  obtain ⟨i, rfl, q⟩ := h
  exact call_isi pins s σ H _ us Q I r ⟨_, _, _, _, false, rfl, .ty "bool", .base (.int _), kit_ty (by decide +kernel), q⟩
def rIsI : List V → Hp → VK → Prop := fun xs H Q => ∃ i : Int, xs = [.int i, .ty "int"] ∧ Q (.bl true) H
theorem call_isI {X : Cx} : CallR X (.builtin "isinstance") rIsI := by
  intro pins s σ H xs us Q I r h
  obtain ⟨i, rfl, q⟩ := h
  exact call_isi pins s σ H _ us Q I r ⟨_, _, _, _, true, rfl, .ty "int", .base (.int _), kit_ty (by decide +kernel), q⟩
def spCW : Sp := fun vs H Q _ => ∃ (d : Addr) (kvs : List (Key × V)), vs = [.ref d] ∧ H d = some (.dK kvs) ∧ WtOk kvs ∧ ∀ H', Same H H' → Q .non H'
theorem ok_cw {tk : Tok} (z0 : mg "isinstance" = none) (zb : mg "bool" = none) (zi : mg "int" = none) (c1 : mg "TRUE_SYMBOL" = some (.str "true" tk)) (D : DF K mg "check_weights" s_check_weights ["weights"]) : OkD P w K mg base 2 "check_weights" ["weights"] spCW := by
  refine D.ok (k := 1) sc_check_weights (fun vs H Q E h => ?_) (fun f cdv A outer s H vs Q E hr h => ?_)
  · obtain ⟨d, kvs, rfl, _⟩ := h
    rfl
  obtain ⟨d, kvs, rfl, hd, ⟨hl, hw⟩, q⟩ := h
  have hu := hu_of hr
  have nd := sc_check_weights.nd
  refine ⟨_, pss_one (ps_lock (ps_for PassesOwn.never rfl (pi_keys (pv 0)) (pg_name (i := 1) nd rfl (Or.inl rfl))
      (pss_cons (ps_set (i := 2) nd rfl (Or.inl rfl) (pe_dget hu (pv 0) (pv 1) (fun _ _ => rfl)))
      (pss_cons (ps_if (PW.pt (pw_or (pt_val (pe_callB call_isB (by rfl) z0 (by decide +kernel) (pa_cons (pv 2) (pa_cons (pe_bltn (v := .ty "bool") (by rfl) zb (by decide +kernel) rfl) pa_nil))))
          (pw_or (pt_not (pt_val (pe_callB call_isI (by rfl) z0 (by decide +kernel) (pa_cons (pv 2) (pa_cons (pe_bltn (v := .ty "int") (by rfl) zi (by decide +kernel) rfl) pa_nil))))) (pw_or1 (pt_cmpR op_lt (pv 2) pe_int (nomark _)))))) (pss_one ps_never) pss_nil)
      (pss_one (ps_if (pt_cmpR op_eq (pv 1) (pe_glob (v := .str "true") rfl c1 ⟨_, rfl⟩) (nomark _)) (pss_one ps_never) pss_nil)))))), ?_⟩
  refine ⟨d, _, hd, trivial, fun od => ?_⟩
  refine ⟨_, rfl, d, od, rfl, .inl ⟨kvs, upd_same, ?_⟩⟩
  refine for_it (walk_keys (d := d) (o := od) (kvs := kvs)) (fun j σ H3 => ∃ (v v' : Option V), σ = [some (.ref d), v, v'] ∧ H3 = upd H d (.frz od (.dK kvs))) ?_ ?_ ?_ ?_
  · exact ⟨none, none, rfl, rfl⟩
  · rintro j σ H3 _ ⟨v, v', _, rfl⟩
    exact upd_same
  · rintro j z σ H3 H4 hj ⟨v, v', rfl, rfl⟩ ⟨rfl, k0, v0, hkj, rfl⟩
    have hkm := List.mem_of_getElem? hkj
    obtain ⟨a, n, e1, e2, h1, h2⟩ := hw _ hkm
    have e1 : k0 = Sum.inr a := e1
    subst e1
    have hv : ∃ n' : Nat, valV kvs (Sum.inr a : Key) = some (natV n') ∧ 1 ≤ n' := by
      obtain ⟨v1, hv1⟩ := valV_mem.mp (List.mem_map.mpr ⟨_, hkm, rfl⟩ : (Sum.inr a : Key) ∈ kvs.map (·.1))
      obtain ⟨a', n', f1, f2, f3, f4⟩ := hw _ (valV_memv hv1)
      have f2 : v1 = natV n' := f2
      subst f2
      exact ⟨n', hv1, f3⟩
    obtain ⟨n', hv, hn'⟩ := hv
    refine ⟨_, rfl, _, rfl, d, natV n', rfl, .inl ⟨kvs, Sum.inr a, .inr ⟨od, upd_same⟩, rfl, hv.symm⟩, ?_⟩
    refine ⟨_, rfl, (n' : Int), rfl, _, rfl, ?_⟩
    refine iteF ?_
    refine ⟨_, rfl, (n' : Int), rfl, _, rfl, ?_⟩
    refine iteF ?_
    refine ⟨_, rfl, _, _, rfl, rfl, _, rfl, ?_⟩
    rw [decide_eq_false (show ¬ (n' : Int) < 1 by omega)]
    refine iteF ?_
    refine ⟨_, rfl, rfl, _, rfl, ?_⟩
    rw [decide_eq_false (show ¬ kV (Sum.inr a : Key) = V.str "true" from fun e => h2 (V.str.inj e))]
    refine iteF ?_
    exact ⟨_, _, rfl, rfl⟩
  · rintro σ H3 ⟨v, v', rfl, rfl⟩
    refine ⟨upd_same, q _ fun b o h => ?_⟩
    rw [upd_upd]
    by_cases e : b = d
    · subst e; rw [upd_same]; rw [hd] at h; exact h
    · rw [upd_ne e]; exact h
/-! ### check_precedence -/
def rSlLk (K : PySem.W.Frag) : V → Option Int → Option Int → Hp → VK → Prop := fun x lo hi H Q => ∃ (a : Addr) (xs : List V) (k : Nat), x = .ref a ∧ lo = none ∧ hi = some (k : Int) ∧ SqL K H a xs ∧ ∀ p, H p = none → Q (.ref p) (upd H p (.lst (xs.take k)))
theorem cut_tk {xs : List V} {k : Nat} : cutV xs none (some (k : Int)) = xs.take k := by
  unfold cutV
  rw [six_some, HT.sIx_none, List.drop_zero, Nat.sub_zero]
  by_cases h : k ≤ xs.length
  · rw [Nat.min_eq_left h]
  · rw [Nat.min_eq_right (by omega), List.take_of_length_le (Nat.le_refl _), List.take_of_length_le (by omega)]
theorem sl_lk {X : Cx} : SlR X (rSlLk X.K) := by
  intro pins s σ H x v vl vu lo hi sl Q I rx hs pl pu h
  obtain ⟨a, xs, k, rfl, rfl, rfl, hx, q⟩ := h
  exact sl_list pins s σ H _ v vl vu _ _ sl Q I rx hs pl pu ⟨a, _, rfl, hx, fun p hp => by rw [cut_tk]; exact q p hp⟩
def rSlLd (K : PySem.W.Frag) : V → Option Int → Option Int → Hp → VK → Prop := fun x lo hi H Q => ∃ (a : Addr) (xs : List V) (k : Nat), x = .ref a ∧ lo = some (k : Int) ∧ hi = none ∧ k ≤ xs.length ∧ SqL K H a xs ∧ ∀ p, H p = none → Q (.ref p) (upd H p (.lst (xs.drop k)))
theorem sl_ld {X : Cx} : SlR X (rSlLd X.K) := by
  intro pins s σ H x v vl vu lo hi sl Q I rx hs pl pu h
  obtain ⟨a, xs, k, rfl, rfl, rfl, hk, hx, q⟩ := h
  refine sl_list pins s σ H _ v vl vu _ _ sl Q I rx hs pl pu ⟨a, _, rfl, hx, fun p hp => ?_⟩
  have e : cutV xs (some (k : Int)) none = xs.drop k := by
    unfold cutV
    rw [six_some, HT.sIx_none, Nat.min_eq_left hk, List.take_of_length_le (by rw [List.length_drop]; omega)]
  rw [e]; exact q p hp
def spCP : Sp := fun vs H Q _ => ∃ (d : Addr) (pr : List Str), vs = [.ref d] ∧ H d = some (.lst (pr.map V.str)) ∧ pr.Nodup ∧ (∀ a, a ∈ pr → a ≠ "true") ∧ ∀ H', Same H H' → Q .non H'
theorem ok_cp {tk : Tok} (z0 : mg "enumerate" = none) (c1 : mg "TRUE_SYMBOL" = some (.str "true" tk)) (D : DF K mg "check_precedence" s_check_precedence ["precedence"]) : OkD P w K mg base 2 "check_precedence" ["precedence"] spCP := by
  refine D.ok (k := 1) sc_check_precedence (fun vs H Q E h => ?_) (fun f cdv A outer s H vs Q E hr h => ?_)
  · obtain ⟨d, pr, rfl, _⟩ := h
    rfl
  obtain ⟨d, pr, rfl, hd, hnd, hnt, q⟩ := h
  have nd := sc_check_precedence.nd
  refine ⟨_, pss_one (ps_for PassesOwn.never rfl (pi_enum (by rfl) z0 (pa_cons (pv 0) pa_nil)) (pg_tup rfl (pgs_cons (pg_name (i := 1) nd rfl (.inl rfl)) (pgs_cons (pg_name (i := 2) nd rfl (.inl rfl)) pgs_nil)))
      (pss_cons (ps_if (pt_cmpR op_eq (pv 2) (pe_glob (v := .str "true") rfl c1 ⟨_, rfl⟩) (nomark _)) (pss_one ps_never) pss_nil)
      (pss_one (ps_if (pt_cmpR op_in_seq (pv 2) (pe_slice sl_lk (pv 0) po_none (po_some (pv 1))) (by rfl)) (pss_one ps_never) pss_nil)))), ?_⟩
  refine ⟨_, rfl, d, _, rfl, SqL.of hd, ?_⟩
  refine for_it (walk_enum (K := K) (a := d) (xs := pr.map V.str)) (fun j σ H3 => ∃ (v v' : Option V), σ = [some (.ref d), v, v'] ∧ Same H H3) ?_ ?_ ?_ ?_
  · exact ⟨none, none, rfl, Same.refl H⟩
  · rintro j σ H3 _ ⟨v, v', _, s1⟩
    exact SqL.of (s1 _ _ hd)
  · rintro j z σ H3 H4 hj ⟨v, v', rfl, s1⟩ ⟨T, x0, y0, rfl, hT, rfl, e1, e2⟩
    cases e1
    have e2 : (pr.map V.str)[j]? = some y0 := e2
    rw [List.getElem?_map, Option.map_eq_some_iff] at e2
    obtain ⟨a, ha, rfl⟩ := e2
    have ham := List.mem_of_getElem? ha
    have s2 : Same H3 (upd H3 T (.tup [.int (j : Nat), .str a])) := same_new hT _
    refine ⟨T, _, rfl, SqT.of upd_same, rfl, _, [.str a], rfl, .str a, [], rfl, rfl, ?_⟩
    refine ⟨_, rfl, rfl, _, rfl, ?_⟩
    rw [decide_eq_false (fun e => hnt a ham (V.str.inj e))]
    refine iteF ?_
    have s3 := s1.trans s2
    refine ⟨_, rfl, _, rfl, _, rfl, _, rfl, d, _, j, rfl, rfl, rfl, SqL.of (s3 _ _ hd), fun p hp => ?_⟩
    have s4 := s3.trans (same_new hp (.lst ((pr.map V.str).take j)))
    refine ⟨p, _, rfl, .inl (SqL.of upd_same), rfl, ?_, _, rfl, ?_⟩
    · rw [← List.map_take]; exact strV_flat _
    rw [if_neg (by decide), ← List.map_take, inV_str]
    have hno : ¬ a ∈ pr.take j := by
      intro hin
      have := hnd
      rw [← List.take_append_drop j pr, drop_at ha, List.nodup_append] at this
      exact this.2.2 _ hin _ (List.mem_cons_self ..) rfl
    rw [decide_eq_false hno]
    refine iteF ?_
    rw [← List.map_take] at s4
    exact ⟨_, _, rfl, s4⟩
  · rintro σ H3 ⟨v, v', rfl, s1⟩
    exact q H3 s1
/-! ### Ordering(weights, precedence) -/
/-- the ordering as an object, with the dict of its weights -/
def OrdRaw (C : Addr) (H : Hp) (o : Addr) (kvs : List (Key × V)) (pr : List Str) : Prop := ∃ dx td ad, H o = some (.ins C dx (ordFs td ad)) ∧ H td = some (.dK kvs) ∧ H ad = some (.lst (pr.map V.str))
theorem OrdRaw.at {N : List Str} {C : Addr} {H : Hp} {o : Addr} {kvs : List (Key × V)} {pr : List Str} {ww : Nat → Nat} (h : OrdRaw C H o kvs pr) (hw : ∀ i, i < 5 → (valV kvs (Sum.inr (N.getD i "") : Key)).getD (.int 1) = natV (ww i)) : OrdAt N C H o ww pr := by
  obtain ⟨dx, td, ad, h1, h2, h3⟩ := h
  exact ⟨dx, td, ad, h1, ⟨kvs, h2, hw⟩, h3⟩
def spOInit (C : Addr) : Sp := fun vs H Q _ => ∃ (o dx wd pd : Addr) (kvs : List (Key × V)) (pr : List Str), vs = [.ref o, .ref wd, .ref pd] ∧ H o = some (.ins C dx []) ∧ H wd = some (.dK kvs) ∧ WtOk kvs ∧ H pd = some (.lst (pr.map V.str)) ∧ pr.Nodup ∧ (∀ a, a ∈ pr → a ≠ "true") ∧
  ∀ H', (∀ b ob, b ≠ o → H b = some ob → H' b = some ob) → OrdRaw C H' o kvs pr → Q .non H'
theorem ok_oinit (z1 : mg "dict" = none) (z2 : mg "list" = none) (T : OrdC K C) (D : DI K C "Ordering.__init__" s_O_init ["self", "weights", "precedence"]) (G1 : OkD P w K mg base 2 "check_weights" ["weights"] spCW) (G2 : OkD P w K mg base 2 "check_precedence" ["precedence"] spCP) : OkI P w K mg base 3 C ["self", "weights", "precedence"] (spOInit C) := by
  refine D.ok (k := 2) sc_O_init (fun vs H Q E h => ?_) (fun f cdv A outer s H vs Q E hr h => ?_)
  · obtain ⟨o, dx, wd, pd, kvs, pr, rfl, _⟩ := h
    rfl
  obtain ⟨o, dx, wd, pd, kvs, pr, rfl, ho, hwd, hok, hpd, hnd, hnt, q⟩ := h
  obtain ⟨f1, fd1, m1, k1, b1, F1, _⟩ := G1
  obtain ⟨f2, fd2, m2, k2, b2, F2, _⟩ := G2
  refine ⟨_, pss_cons (ps_expr (pe_call F1 hr rfl m1 k1 b1 .nil pass0 (pa_cons (pv 1) pa_nil)))
    (pss_cons (ps_expr (pe_call F2 hr rfl m2 k2 b2 .nil pass0 (pa_cons (pv 2) pa_nil)))
    (pss_cons (ps_fld (pv 0) (pe_callTy call_dictD (by rfl) z1 (by decide +kernel) (pa_cons (pv 1) pa_nil)) rfl)
    (pss_one (ps_fld (pv 0) (pe_callTy call_list_of (by rfl) z2 (by decide +kernel) (pa_cons (pv 2) pa_nil)) rfl)))), ?_⟩
  refine ⟨_, rfl, wd, kvs, rfl, hwd, hok, fun H1 s1 => ?_⟩
  refine ⟨_, rfl, pd, pr, rfl, s1 _ _ hpd, hnd, hnt, fun H2 s2 => ?_⟩
  have s3 := s1.trans s2
  refine ⟨_, rfl, wd, kvs, rfl, .inl (s3 _ _ hwd), fun td htd => ?_⟩
  refine ⟨_, rfl, o, C, dx, _, rfl, kp (ne_of_none (s3 _ _ ho) htd) (s3 _ _ ho) _, T.cl, T.nT, by decide, ?_⟩
  obtain ⟨a1, a2, a3, a4⟩ := ini_step (X := .dK kvs) (O := .ins C dx (putF "table" (.ref td) [])) (s3 _ _ ho) htd
  have pdo : pd ≠ o := fun e => by rw [e, ho] at hpd; cases hpd
  have hpd1 := a3 _ _ pdo (s3 _ _ hpd)
  generalize upd (upd H2 td (.dK kvs)) o (.ins C dx (putF "table" (.ref td) [])) = H3 at a1 a2 a3 hpd1
  refine ⟨_, rfl, pd, _, rfl, .inl (SqL.of hpd1), fun ad had => ?_⟩
  refine ⟨_, rfl, o, C, dx, _, rfl, kp (ne_of_none a1 had) a1 _, T.cl, T.nA, Nat.lt_of_le_of_lt (pfl (Nat.le_refl 0)) (by decide), ?_⟩
  obtain ⟨b1', b2', b3', b4'⟩ := ini_step (X := .lst (pr.map V.str)) (O := .ins C dx (putF "ascending" (.ref ad) (putF "table" (.ref td) []))) a1 had
  have e1 : ¬ (("table" : Str) = "ascending") := by decide +kernel
  have e2 : putF "ascending" (.ref ad) (putF "table" (.ref td) []) = ordFs td ad := by simp only [putF, if_neg e1, ordFs]
  refine q _ (fun b ob hb hob => b3' _ _ hb (a3 _ _ hb (s3 _ _ hob))) ⟨dx, td, ad, by rw [← e2]; exact b1', b3' _ _ a4 a2, b2'⟩
end
end K78
end
section
set_option maxHeartbeats 4000000
namespace K78
open PySem PySem.Spec PyProof.Rows L2
/-! ### max(ints, default=0) -/
theorem reads_nats {h : Heap} : ∀ {ns : List Nat} {us : List Value}, Vals (ns.map natV) us → ReadsAll h us (ns.map fun (n : Nat) => PyData.int (n : Int)) []
  | [], _, .nil => .nil
  | n :: ns, _, .cons r rr => by
    obtain ⟨t, rfl⟩ := r
    exact ReadsAll.cons (as := []) (bs := []) (.int _ t) (reads_nats rr)
theorem depth_nats : ∀ ns : List Nat, PyData.depthAll (ns.map fun (n : Nat) => PyData.int (n : Int)) = 0
  | [] => by simp [PyData.depthAll]
  | n :: ns => by simp only [List.map_cons, PyData.depthAll, PyData.depth, depth_nats ns]; rfl
theorem fold_cast : ∀ (ns : List Nat) (n : Nat), (ns.map fun (n : Nat) => (n : Int)).foldl max (n : Int) = ((ns.foldl max n : Nat) : Int)
  | [], n => rfl
  | m :: ns, n => by
    rw [List.map_cons, List.foldl_cons, List.foldl_cons, ← fold_cast ns]
    congr 1
    omega
def rMaxD : List V → List V → Hp → VK → Prop := fun xs zs H Q => ∃ (a : Addr) (ns : List Nat), xs = [.ref a] ∧ zs = [.int 0] ∧ H a = some (.lst (ns.map natV)) ∧ Q (natV (mxl ns)) H
theorem call_maxD {X : Cx} (hc : X.calm = true) (hu : X.A.units + 200 < cLine) : CallRK X (.builtin "max") ["default"] rMaxD := by
  intro pins s σ H xs zs us ws Q I rx rz ⟨a, ns, e1, e2, ha, q⟩
  subst e1; subst e2
  cases rx with
  | cons r rr =>
    cases rr
    cases r
    cases rz with
    | cons r2 rr2 =>
      cases rr2
      obtain ⟨t, rfl⟩ := r2
      obtain ⟨its, rv, hl, _⟩ := I.list (SqL.of ha : SqL X.K H a (ns.map natV))
      show wpAny _ _ (call (.builtin "max") [.ref a] [(Str.ofString "default", .int 0 t)]) _ _ _
      have hr := reads_nats (h := s.heap) rv
      refine PySem.W.max_list_default (I.ok.hd hc) hl.isList (by simpa using hr) ?_ (by rw [depth_nats]; omega) (fun h0 h' tk hk => ?_) fun y ys i v h' tk bs hxs hv hrd hk => ?_
      · refine ⟨fun x hx y hy => ?_, fun x hx => ?_⟩
        · obtain ⟨i, _, rfl⟩ := List.mem_map.mp hx
          obtain ⟨j, _, rfl⟩ := List.mem_map.mp hy
          rfl
        · obtain ⟨i, _, rfl⟩ := List.mem_map.mp hx
          intro z; cases z
      · have e0 : ns = [] := by cases ns with
          | nil => rfl
          | cons _ _ => cases h0
        subst e0
        exact ⟨natV 0, H, I.kept hk, ⟨t, rfl⟩, q⟩
      · cases ns with
        | nil => cases hxs
        | cons n ns =>
          rw [List.map_cons, List.cons.injEq] at hxs
          obtain ⟨e1, e2⟩ := hxs
          subst e1; subst e2
          have em : PySem.W.maxD (PyData.int (n : Int)) (ns.map fun (n : Nat) => PyData.int (n : Int)) = PyData.int (mxl (n :: ns) : Nat) := by
            have := PySem.W.maxD_ints (n : Int) (ns.map fun (n : Nat) => (n : Int))
            rw [List.map_map, fold_cast, mxl_fold, ← mxl_cons] at this
            exact this
          rw [em] at hrd
          cases hrd with
          | int _ t' => exact ⟨natV (mxl (n :: ns)), H, I.kept hk, ⟨t', rfl⟩, q⟩
section
variable {P : Program} {w : World} {K : PySem.W.Frag} {mg : Str → Option Value} {base : Heap} {N : List Str}
/-- the least number above all variables of a rule -/
def IsBy (r : Rule) (b : Nat) : Prop := (∀ m, r.1.has m ∨ r.2.has m → m < b) ∧ ∀ B, (∀ m, r.1.has m ∨ r.2.has m → m < B) → b ≤ B
theorem IsBy.uniq {r : Rule} {b b' : Nat} (h : IsBy r b) (h' : IsBy r b') : b = b' := by
  have := h.2 b' h'.1; have := h'.2 b h.1; omega
theorem isBy_mxl {r : Rule} {ns : List Nat} (h : ∀ m, m ∈ ns ↔ r.1.has m ∨ r.2.has m) : IsBy r (mxl (ns.map (· + 1))) := by
  refine ⟨fun m hm => ?_, fun B hB => ?_⟩
  · have := mxl_ge (List.mem_map.mpr ⟨m, (h m).mpr hm, rfl⟩ : m + 1 ∈ ns.map (· + 1))
    omega
  · rcases mxl_mem (l := ns.map (· + 1)) with q | q
    · omega
    · obtain ⟨m, hm, e⟩ := List.mem_map.mp q
      have := hB m ((h m).mp hm)
      have e : m + 1 = _ := e
      omega
def spRen (N : List Str) : Sp := fun vs H Q _ => ∃ (r1 r2 : Rule) (x y : V), vs = [x, y] ∧ RuleAt N H r1 x ∧ RuleAt N H r2 y ∧ r1.1.nest ≤ 4 ∧ r1.2.nest ≤ 4 ∧ r2.1.nest ≤ 4 ∧ r2.2.nest ≤ 4 ∧
  ∀ p x1 y1 b H', Same H H' → IsBy r1 b → H' p = some (.tup [x1, y1]) → TmAt N H' (r2.1.shift b) x1 → TmAt N H' (r2.2.shift b) y1 → Q (.ref p) H'
theorem ok_renamed (z1 : mg "max" = none) (D : DF K mg "renamed" s_renamed ["first", "second"]) (G1 : OkD P w K mg base 5 "variables" ["term"] (spVars N 4)) (G2 : OkD P w K mg base 5 "shift" ["term", "by"] (spShift N 4)) : OkD P w K mg base 6 "renamed" ["first", "second"] (spRen N) := by
  refine D.ok (k := 5) sc_renamed (fun vs H Q E h => ?_) (fun f cdv A outer s H vs Q E hr h => ?_)
  · obtain ⟨r1, r2, x, y, rfl, _⟩ := h
    rfl
  obtain ⟨r1, r2, x, y, rfl, ⟨a1, xl, xr, rfl, ha1, hxl, hxr⟩, ⟨a2, yl, yr, rfl, ha2, hyl, hyr⟩, n1, n2, n3, n4, q⟩ := h
  obtain ⟨f1, fd1, m1, k1, b1, F1, _⟩ := G1
  obtain ⟨f2, fd2, m2, k2, b2, F2, _⟩ := G2
  have nd := sc_renamed.nd
  refine ⟨_, pss_cons (ps_set (i := 2) nd rfl (Or.inl rfl) (pe_op op_cat (pe_call F1 hr rfl m1 k1 b1 .nil pass0 (pa_cons (pe_ix ix_tup (pv 0) pe_int (fun _ _ => rfl)) pa_nil)) (pe_call F1 hr rfl m1 k1 b1 .nil pass0 (pa_cons (pe_ix ix_tup (pv 0) pe_int (fun _ _ => rfl)) pa_nil))))
    (pss_cons (ps_set (i := 3) nd rfl (Or.inl rfl) (pe_callBK (call_maxD rfl (hu2 hr)) (by rfl) z1 (by decide +kernel) (pa_cons (pe_lc (own := [("name", 4)]) (g := gName 4) (tt := tYes) rfl nd (pi_list (pv 2)) (blkOk_by (N := ["first", "second", "names", "by", "name"]) (sc := defScope s_renamed) (by decide +kernel)) (fun _ _ _ _ _ => pg_name (i := 4) nd rfl (Or.inl rfl)) (fun _ _ _ _ _ => pts_nil)
        (fun _ _ _ _ _ => pe_op op_add (pv 4) pe_int)) pa_nil) (pk_cons pe_int pk_nil)))
    (pss_one (ps_ret (pe_tup (pa_cons (pe_call F2 hr rfl m2 k2 b2 .nil pass0 (pa_cons (pe_ix ix_tup (pv 1) pe_int (fun _ _ => rfl)) (pa_cons (pv 3) pa_nil))) (pa_cons (pe_call F2 hr rfl m2 k2 b2 .nil pass0 (pa_cons (pe_ix ix_tup (pv 1) pe_int (fun _ _ => rfl)) (pa_cons (pv 3) pa_nil))) pa_nil)))))), ?_⟩
  have z1 := size_nest4 n1
  have z2 := size_nest4 n2
  refine ⟨_, rfl, a1, _, 0, xl, rfl, rfl, SqT.of ha1, atI_nat (j := 0) rfl, r1.1, xl, rfl, hxl, n1, by omega, fun p1 ns1 H1 hp1 s1 hV1 hl1 => ?_⟩
  refine ⟨_, rfl, a1, _, 1, xr, rfl, rfl, SqT.of (s1 _ _ ha1), atI_nat (j := 1) rfl, r1.2, xr, rfl, hxr.same s1, n2, by omega, fun p2 ns2 H2 hp2 s2 hV2 hl2 => ?_⟩
  have hln : ns1.length + ns2.length ≤ 30 := by have := hV1.2; have := hV2.2; omega
  refine ⟨p1, p2, _, _, rfl, rfl, s2 _ _ hl1, hl2, (by rw [List.length_map, List.length_map]; exact szT (by omega)), fun p3 hp3 => ?_⟩
  have s3 : Same H2 (upd H2 p3 (.lst (ns1.map natV ++ ns2.map natV))) := same_new hp3 _
  have e3 : ns1.map natV ++ ns2.map natV = (ns1 ++ ns2).map natV := (List.map_append ..).symm
  rw [e3] at s3 ⊢
  refine ⟨_, rfl, p3, rfl, ⟨_, SqL.of upd_same⟩, fun D1 hD1 => lc_map_lst (R := fun _ b z => z = natV b) (bs := (ns1 ++ ns2).map (· + 1)) (fun _ _ _ _ e h => h) (by rw [List.length_map, List.length_map]) (by rw [List.length_map, List.length_append]; omega) (SqL.of upd_same) ?_ hD1 ?_⟩
  · intro k z b H4 Q' hz hb s4 q'
    rw [List.getElem?_map, Option.map_eq_some_iff] at hb hz
    obtain ⟨c, hc, rfl⟩ := hb
    obtain ⟨c', hc', rfl⟩ := hz
    rw [hc] at hc'; cases hc'
    exact ⟨_, rfl, _, _, rfl, rfl, q' _ H4 (Same.refl _) (by show V.int ((c : Int) + 1) = V.int ((c + 1 : Nat) : Int); rw [Int.natCast_add]; rfl)⟩
  · intro zs H4 s4 hd4 ha4
    have ez : zs = ((ns1 ++ ns2).map (· + 1)).map natV := by
      have := all_nat ha4
      rw [this, List.map_map]; rfl
    rw [ez] at hd4
    have s5 := s1.trans (s2.trans (s3.trans s4))
    have hby : IsBy r1 (mxl ((ns1 ++ ns2).map (· + 1))) := isBy_mxl fun m => by rw [List.mem_append, hV1.1, hV2.1]
    refine ⟨D1, _, rfl, rfl, hd4, ?_⟩
    refine ⟨_, rfl, a2, _, 0, yl, rfl, rfl, SqT.of (s5 _ _ ha2), atI_nat (j := 0) rfl, _, rfl, r2.1, _, yl, rfl, hyl.same s5, n3, fun z1 H5 s6 hz1 => ?_⟩
    have s7 := s5.trans s6
    refine ⟨_, rfl, a2, _, 1, yr, rfl, rfl, SqT.of (s7 _ _ ha2), atI_nat (j := 1) rfl, _, rfl, r2.2, _, yr, rfl, hyr.same s7, n4, fun z2 H6 s8 hz2 => ?_⟩
    refine ⟨(show 2 ≤ sizeLine by decide), fun p hp => ?_⟩
    have s9 : Same H6 (upd H6 p (.tup [z1, z2])) := same_new hp _
    exact q p z1 z2 _ _ (s7.trans (s8.trans s9)) hby upd_same ((hz1.same s8).same s9) (hz2.same s9)
end
end K78
end
section
set_option maxHeartbeats 4000000
namespace K78
open PySem PySem.Spec PyProof.Rows L2
/-! ### equality of rules -/
section
variable {X : Cx} {N : List Str}
theorem pairD_eqv (hN : NmOk N) (e f : Tm × Tm) : PyData.eqv (pairD N e) (pairD N f) = decide (e = f) := by
  simp only [pairD, PyData.eqv, PyData.eqvAll, tmD_eqv hN, Bool.and_true]
  rw [Bool.eq_iff_iff, Bool.and_eq_true, decide_eq_true_eq, decide_eq_true_eq, decide_eq_true_eq]
  obtain ⟨a, b⟩ := e
  obtain ⟨c, d⟩ := f
  exact ⟨fun ⟨h1, h2⟩ => by rw [show a = c from h1, show b = d from h2], fun h => by cases h; exact ⟨rfl, rfl⟩⟩
def rNeRu (N : List Str) : R2 := fun x y H Q => ∃ e f, RuleAt N H e x ∧ RuleAt N H f y ∧ e.1.nest ≤ 180 ∧ e.2.nest ≤ 180 ∧ Q (.bl (!decide (e = f))) H
theorem op_neRu (hN : NmOk N) (hu : X.A.units + 200 < cLine) : OpR X (compareOp .NotEq) (rNeRu N) := by
  intro pins s σ H x y v u Q I rx ry ⟨e, f, he, hf, n1, n2, q⟩
  refine op_neX hu pins s σ H x y v u Q I rx ry ⟨_, _, dp_pair he, dp_pair hf, pairD_lay hN e, pairD_lay hN f, ?_, ?_⟩
  · have h1 := tmD_depth (N := N) e.1; have h2 := tmD_depth (N := N) e.2
    simp only [pairD, PyData.depth, PyData.depthAll]
    omega
  · rw [pairD_eqv hN]; exact q
end
/-! ### critical pairs, plainly -/
/-- where two rules may meet -/
def CPat (r1 r2 : Rule) (p : List Nat) : Prop := p ∈ r1.1.plc ∧ (p ≠ [] ∨ r1 ≠ r2)
def cpX (r1 r2 : Rule) (b : Nat) (p : List Nat) : Tm := r1.1.put p (r2.2.shift b)
def cpE (r1 r2 : Rule) (b : Nat) (p : List Nat) (σ : Nat → Tm) : Tm × Tm := ((cpX r1 r2 b p).ap σ, r1.2.ap σ)
structure PairsOk (r1 r2 : Rule) (b : Nat) (ps : List (List Nat)) (cs : List (Tm × Tm)) : Prop where
  of : ∀ e, e ∈ cs → ∃ p σ, p ∈ ps ∧ CPat r1 r2 p ∧ IsMgu (r1.1.sat p) (r2.1.shift b) σ ∧ e = cpE r1 r2 b p σ
  all : ∀ p, p ∈ ps → CPat r1 r2 p → (∃ θ, Unif (r1.1.sat p) (r2.1.shift b) θ) → ∃ σ, IsMgu (r1.1.sat p) (r2.1.shift b) σ ∧ cpE r1 r2 b p σ ∈ cs
  small : ∀ e, e ∈ cs → e.1.size ≤ 90 ∧ e.2.size ≤ 90
  ln : cs.length ≤ ps.length
/-- unifiers are small -/
def CPB (r1 r2 : Rule) : Prop := ∀ b, IsBy r1 b → ∀ p, p ∈ r1.1.plc → (∃ θ, Unif (r1.1.sat p) (r2.1.shift b) θ) → ∃ θ, Unif (r1.1.sat p) (r2.1.shift b) θ ∧ ((r1.1.sat p).ap θ).size ≤ 90 ∧ ((cpX r1 r2 b p).ap θ).size ≤ 90 ∧ (r1.2.ap θ).size ≤ 90
theorem mgu_small {s t X : Tm} {σ θ : Nat → Tm} (h : IsMgu s t σ) (hθ : Unif s t θ) : (X.ap σ).size ≤ (X.ap θ).size := by
  have h1 := size_ap_le θ (X.ap σ)
  rw [ap_ap] at h1
  rw [ap_congr (s := fun n => (σ n).ap θ) (s' := θ) (fun m _ => h.most θ hθ m)] at h1
  exact h1
theorem nest_put : ∀ (t : Tm) (p : List Nat) (r : Tm), (t.put p r).nest ≤ t.nest + r.nest
  | t, [], r => by simp only [Tm.put]; omega
  | .f t, 1 :: p, r => by have := nest_put t p r; simp only [Tm.put, Tm.nest]; omega
  | .g t u, 1 :: p, r => by have := nest_put t p r; simp only [Tm.put, Tm.nest]; omega
  | .g t u, 2 :: p, r => by have := nest_put u p r; simp only [Tm.put, Tm.nest]; omega
  | .v n, k :: p, r => by simp only [Tm.put]; omega
  | .c n, k :: p, r => by simp only [Tm.put]; omega
  | .f t, 0 :: p, r => by simp only [Tm.put]; omega
  | .f t, (k + 2) :: p, r => by simp only [Tm.put]; omega
  | .g t u, 0 :: p, r => by simp only [Tm.put]; omega
  | .g t u, (k + 3) :: p, r => by simp only [Tm.put]; omega
theorem nest_shift (b : Nat) : ∀ t : Tm, (t.shift b).nest = t.nest
  | .v _ => rfl
  | .c _ => rfl
  | .f t => by simp only [Tm.shift, Tm.nest, nest_shift b t]
  | .g t u => by simp only [Tm.shift, Tm.nest, nest_shift b t, nest_shift b u]
section
variable {r1 r2 : Rule} {b : Nat} {ps : List (List Nat)} {p : List Nat} {cs : List (Tm × Tm)}
theorem PairsOk.nil : PairsOk r1 r2 b [] [] := ⟨fun e h => (by cases h), fun p h => (by cases h), fun e h => (by cases h), Nat.le_refl _⟩
theorem PairsOk.skip (h : PairsOk r1 r2 b ps cs) (hp : ¬ CPat r1 r2 p) : PairsOk r1 r2 b (ps ++ [p]) cs :=
  ⟨fun e he => by obtain ⟨p', σ, a, c⟩ := h.of e he; exact ⟨p', σ, List.mem_append.mpr (.inl a), c⟩, fun q hq hc hu => by
    rcases List.mem_append.mp hq with hq | hq
    · exact h.all q hq hc hu
    · rw [List.mem_singleton.mp hq] at hc; exact absurd hc hp, h.small, (by rw [List.length_append]; exact Nat.le_trans h.ln (Nat.le_add_right ..))⟩
theorem PairsOk.no (h : PairsOk r1 r2 b ps cs) (hp : ¬ ∃ θ, Unif (r1.1.sat p) (r2.1.shift b) θ) : PairsOk r1 r2 b (ps ++ [p]) cs :=
  ⟨fun e he => by obtain ⟨p', σ, a, c⟩ := h.of e he; exact ⟨p', σ, List.mem_append.mpr (.inl a), c⟩, fun q hq hc hu => by
    rcases List.mem_append.mp hq with hq | hq
    · exact h.all q hq hc hu
    · rw [List.mem_singleton.mp hq] at hu; exact absurd hu hp, h.small, (by rw [List.length_append]; exact Nat.le_trans h.ln (Nat.le_add_right ..))⟩
theorem PairsOk.yes (h : PairsOk r1 r2 b ps cs) (hc : CPat r1 r2 p) {σ : Nat → Tm} (hm : IsMgu (r1.1.sat p) (r2.1.shift b) σ) (s1 : (cpE r1 r2 b p σ).1.size ≤ 90) (s2 : (cpE r1 r2 b p σ).2.size ≤ 90) : PairsOk r1 r2 b (ps ++ [p]) (cs ++ [cpE r1 r2 b p σ]) := by
  refine ⟨fun e he => ?_, fun q hq hc' hu => ?_, fun e he => ?_, (by rw [List.length_append, List.length_append]; exact Nat.add_le_add_right h.ln 1)⟩
  · rcases List.mem_append.mp he with he | he
    · obtain ⟨p', σ', a, c⟩ := h.of e he; exact ⟨p', σ', List.mem_append.mpr (.inl a), c⟩
    · rw [List.mem_singleton] at he; exact ⟨p, σ, by simp, hc, hm, he⟩
  · rcases List.mem_append.mp hq with hq | hq
    · obtain ⟨σ', a, c⟩ := h.all q hq hc' hu; exact ⟨σ', a, List.mem_append.mpr (.inl c)⟩
    · rw [List.mem_singleton.mp hq]; exact ⟨σ, hm, by simp⟩
  · rcases List.mem_append.mp he with he | he
    · exact h.small e he
    · rw [List.mem_singleton] at he; subst he; exact ⟨s1, s2⟩
end
section
variable {P : Program} {w : World} {K : PySem.W.Frag} {mg : Str → Option Value} {base : Heap} {N : List Str}
def spCPs (N : List Str) : Sp := fun vs H Q _ => ∃ (r1 r2 : Rule) (x y : V), vs = [x, y] ∧ RuleAt N H r1 x ∧ RuleAt N H r2 y ∧ r1.1.nest ≤ 4 ∧ r1.2.nest ≤ 4 ∧ r2.1.nest ≤ 4 ∧ r2.2.nest ≤ 4 ∧ CPB r1 r2 ∧
  ∀ p ys cs b H', H p = none → Same H H' → H' p = some (.lst ys) → AllAt (RuleAt N H') cs ys → IsBy r1 b → PairsOk r1 r2 b r1.1.plc cs → Q (.ref p) H'
theorem plc_size {t : Tm} : t.plc.length ≤ t.size := by
  induction t with
  | v _ => simp [Tm.plc, Tm.size]
  | c _ => simp [Tm.plc, Tm.size]
  | f t ih => simp only [Tm.plc, Tm.size, List.length_cons, List.length_map]; omega
  | g t u ih1 ih2 => simp only [Tm.plc, Tm.size, List.length_cons, List.length_append, List.length_map]; omega
theorem sat_nest4 : ∀ {t : Tm} {p : List Nat}, (t.sat p).nest ≤ t.nest
  | t, [] => by simp [Tm.sat]
  | .f t, 1 :: p => by have := sat_nest4 (t := t) (p := p); simp only [Tm.sat, Tm.nest]; omega
  | .g t u, 1 :: p => by have := sat_nest4 (t := t) (p := p); simp only [Tm.sat, Tm.nest]; omega
  | .g t u, 2 :: p => by have := sat_nest4 (t := u) (p := p); simp only [Tm.sat, Tm.nest]; omega
  | .v n, k :: p => by simp only [Tm.sat]; omega
  | .c n, k :: p => by simp only [Tm.sat]; omega
  | .f t, 0 :: p => by simp only [Tm.sat]; omega
  | .f t, (k + 2) :: p => by simp only [Tm.sat]; omega
  | .g t u, 0 :: p => by simp only [Tm.sat]; omega
  | .g t u, (k + 3) :: p => by simp only [Tm.sat]; omega
def tCpB (N : List Str) (K : PySem.W.Frag) : TS := tSeq (tAsg (tCall (spUnify N) [] E0 (tCons (tCall (spSub N) [] E0 (tCons (tVar 2) (tCons (tVar 7) tNil))) (tCons (tVar 4) tNil))) (gName 8))
  (tIfS (tTest (tOp (fun x y H Q => y = V.non ∧ Q (V.bl !decide (x = V.non)) H) (tVar 8) (tC V.non)))
    (tSeq (tAsg (tCall (spApply N 10) [] E0 (tCons (tVar 8) (tCons (tCall (spExch N 10) [] E0 (tCons (tVar 2) (tCons (tVar 7) (tCons (tVar 5) tNil)))) tNil))) (gName 9))
      (tDrop (tBM K "list" rAppend (tVar 6) (tCons (tTup (tCons (tVar 9) (tCons (tCall (spApply N 10) [] E0 (tCons (tVar 8) (tCons (tVar 3) tNil))) tNil))) tNil)))) tNext)
theorem cp_body {De : Ends} {H3 : Hp} {r1 r2 : Rule} {v0 v1 v8 v9 : Option V} {xl xr yl yr z : V} {cl : Addr} {zs : List V} {cs : List (Tm × Tm)} {b : Nat} {pp : List Nat} {ps : List (List Nat)} (hB : CPB r1 r2) (hby : IsBy r1 b) (hcp : CPat r1 r2 pp) (n1 : r1.1.nest ≤ 4) (n2 : r1.2.nest ≤ 4) (n3 : r2.1.nest ≤ 4) (n4 : r2.2.nest ≤ 4)
    (hxl : TmAt N H3 r1.1 xl) (hxr : TmAt N H3 r1.2 xr) (hyl : TmAt N H3 (r2.1.shift b) yl) (hyr : TmAt N H3 (r2.2.shift b) yr) (hz : PosAt H3 pp z) (hcl : H3 cl = some (.lst zs)) (hzs : AllAt (RuleAt N H3) cs zs) (hzl : zs.length ≤ 1000) (hok : PairsOk r1 r2 b ps cs)
    (hNx : ∀ H4 zs' cs' v8' v9', (∀ b o, b ≠ cl → H3 b = some o → H4 b = some o) → H4 cl = some (.lst zs') → AllAt (RuleAt N H4) cs' zs' → zs'.length ≤ zs.length + 1 → PairsOk r1 r2 b (ps ++ [pp]) cs' → De.nx [v0, v1, some xl, some xr, some yl, some yr, some (.ref cl), some z, v8', v9'] H4) :
    tCpB N K De [v0, v1, some xl, some xr, some yl, some yr, some (.ref cl), some z, v8, v9] H3 := by
  obtain ⟨hip, _⟩ := isP_plc hcp.1
  have hsn : (r1.1.sat pp).nest ≤ 4 := Nat.le_trans sat_nest4 n1
  have hu1 : ∀ θ, Unif (r1.1.sat pp) (r2.1.shift b) θ → ∃ θ', Unif (r1.1.sat pp) (r2.1.shift b) θ' ∧ ((r1.1.sat pp).ap θ').size ≤ 90 := fun θ h => by
    obtain ⟨θ', a, c, _⟩ := hB b hby pp hcp.1 ⟨θ, h⟩
    exact ⟨θ', a, c⟩
  refine ⟨_, rfl, _, rfl, r1.1, pp, xl, z, rfl, hxl, hz, hip, fun zu H4 s4 hzu => ?_⟩
  refine ⟨_, rfl, r1.1.sat pp, r2.1.shift b, zu, yl, rfl, hzu, hyl.same s4, hsn, by rw [nest_shift]; exact n3, hu1, fun d H5 p k s5 hm hsub => ?_, fun H5 s5 hno => ?_⟩
  · refine ⟨_, rfl, rfl, _, rfl, ?_⟩
    refine iteT ?_
    have s6 := s4.trans s5
    obtain ⟨θ, hθ, _, c1, c2⟩ := hB b hby pp hcp.1 ⟨_, hm.un⟩
    have e1 := mgu_small (X := cpX r1 r2 b pp) hm hθ
    have e2 := mgu_small (X := r1.2) hm hθ
    have hXn : (cpX r1 r2 b pp).nest ≤ 10 := by
      have := nest_put r1.1 pp (r2.2.shift b)
      rw [nest_shift] at this
      unfold cpX
      omega
    have hXs := nest_le_size ((cpX r1 r2 b pp).ap p.tot)
    have hrs := nest_le_size (r1.2.ap p.tot)
    have hlen := isP_len hip
    refine ⟨_, rfl, _, rfl, _, rfl, _, rfl, r1.1, r2.2.shift b, pp, xl, z, yr, rfl, hxl.same s6, (by obtain ⟨a, e, h⟩ := hz; exact ⟨a, e, s6 _ _ h⟩), hyr.same s6, hip, by omega, fun zx H6 s7 hzx => ?_⟩
    refine ⟨cpX r1 r2 b pp, zx, d, p, k, rfl, hzx, hsub.same s7, hXn, by omega, by omega, fun za H7 s8 hza => ?_⟩
    have s9 := s6.trans (s7.trans s8)
    refine ⟨_, rfl, .inl ⟨rfl, _, SqL.of (s9 _ _ hcl)⟩, _, rfl, _, rfl, _, rfl, r1.2, xr, d, p, k, rfl, hxr.same s9, hsub.same (s7.trans s8), by omega, by omega, by omega, fun zb H8 s10 hzb => ?_⟩
    refine ⟨(show 2 ≤ sizeLine by decide), fun pn hpn => ?_⟩
    have s11 : Same H8 (upd H8 pn (.tup [za, zb])) := same_new hpn _
    have s12 := s9.trans (s10.trans s11)
    refine ⟨cl, zs, _, rfl, rfl, s12 _ _ hcl, sz1000 hzl, ?_⟩
    have t12 : TupSame (upd H8 pn (.tup [za, zb])) (upd (upd H8 pn (.tup [za, zb])) cl (.lst (zs ++ [.ref pn]))) := tup_upd (s12 _ _ hcl)
    refine hNx _ (zs ++ [.ref pn]) (cs ++ [cpE r1 r2 b pp p.tot]) _ _ (fun b o nb hb => kp nb (s12 _ _ hb) _) upd_same ?_ (by rw [List.length_append]; exact Nat.le_refl _) (hok.yes hcp hm (by show ((cpX r1 r2 b pp).ap p.tot).size ≤ 90; omega) (by show (r1.2.ap p.tot).size ≤ 90; omega))
    exact AllAt.snoc (AllAt.mono (fun e z h => rule_tupS (rule_same h s12) t12) hzs) ⟨pn, za, zb, rfl, t12 _ _ upd_same, ((hza.same s10).same s11).tupS t12, (hzb.same s11).tupS t12⟩
  · refine ⟨_, rfl, rfl, _, rfl, ?_⟩
    refine iteF ?_
    have s6 := s4.trans s5
    exact hNx H5 zs cs _ _ (fun b o _ hb => s6 _ _ hb) (s6 _ _ hcl) (AllAt.mono (fun e z h => rule_same h s6) hzs) (Nat.le_succ _) (hok.no hno)
theorem ok_cps (hN : NmOk N) (D : DF K mg "critical_pairs" s_critical_pairs ["first", "second"]) (G1 : OkD P w K mg base 6 "renamed" ["first", "second"] (spRen N)) (G2 : OkK P w K mg base 5 "positions" ["term", "with_variables"] 1 ["with_variables"] (spPos N 4)) (G3 : OkD P w K mg base 7 "unify" ["first", "second"] (spUnify N)) (G4 : OkD P w K mg base 2 "subterm_at" ["term", "position"] (spSub N))
    (G5 : OkD P w K mg base 114 "apply" ["substitution", "term"] (spApply N 10)) (G6 : OkD P w K mg base 11 "replace_at" ["term", "position", "new"] (spExch N 10)) : OkD P w K mg base 115 "critical_pairs" ["first", "second"] (spCPs N) := by
  refine D.ok (k := 114) sc_critical_pairs (fun vs H Q E h => ?_) (fun f cdv A outer s H vs Q E hr h => ?_)
  · obtain ⟨r1, r2, x, y, rfl, _⟩ := h
    rfl
  obtain ⟨r1, r2, x, y, rfl, hx, hy, n1, n2, n3, n4, hB, q⟩ := h
  obtain ⟨f1, fd1, m1, k1, b1, F1, _⟩ := G1
  obtain ⟨f2, fd2, m2, k2, b2, F2, _⟩ := G2
  obtain ⟨f3, fd3, m3, k3, b3, F3, _⟩ := G3
  obtain ⟨f4, fd4, m4, k4, b4, F4, _⟩ := G4
  obtain ⟨f5, fd5, m5, k5, b5, F5, _⟩ := G5
  obtain ⟨f6, fd6, m6, k6, b6, F6, _⟩ := G6
  have nd := sc_critical_pairs.nd
  refine ⟨_, pss_cons (ps_asg (pv 0) (pg_tup rfl (pgs_cons (pg_name (i := 2) nd rfl (.inl rfl)) (pgs_cons (pg_name (i := 3) nd rfl (.inl rfl)) pgs_nil))))
    (pss_cons (ps_asg (pe_call F1 (hr.mono (by decide)) rfl m1 k1 b1 .nil pass0 (pa_cons (pv 0) (pa_cons (pv 1) pa_nil))) (pg_tup rfl (pgs_cons (pg_name (i := 4) nd rfl (.inl rfl)) (pgs_cons (pg_name (i := 5) nd rfl (.inl rfl)) pgs_nil))))
    (pss_cons (ps_set (i := 6) nd rfl (Or.inl rfl) (pe_lst pa_nil))
    (pss_cons (ps_for PassesOwn.never rfl (pi_list (pe_callN F2 (hr.mono (by decide)) rfl m2 k2 b2 pass0 (pa_cons (pv 2) pa_nil) (pk_cons pe_bl pk_nil))) (pg_name (i := 7) nd rfl (.inl rfl))
      (pss_one (ps_if (PW.pt (pw_or (pt_cmpR (op_neP0 (hu2 hr)) (pv 7) (pe_tup pa_nil) (nomark _)) (pw_or1 (pt_cmpR (op_neRu hN (hu2 hr)) (pv 0) (pv 1) (nomark _)))))
        (pss_cons (ps_set (i := 8) nd rfl (Or.inl rfl) (pe_call F3 (hr.mono (by decide)) rfl m3 k3 b3 .nil pass0 (pa_cons (pe_call F4 (hr.mono (by decide)) rfl m4 k4 b4 .nil pass0 (pa_cons (pv 2) (pa_cons (pv 7) pa_nil))) (pa_cons (pv 4) pa_nil))))
        (pss_one (ps_if (pt_cmpR op_notN (pv 8) pe_non (nomark _))
          (pss_cons (ps_set (i := 9) nd rfl (Or.inl rfl) (pe_call F5 hr rfl m5 k5 b5 .nil pass0 (pa_cons (pv 8) (pa_cons (pe_call F6 (hr.mono (by decide)) rfl m6 k6 b6 .nil pass0 (pa_cons (pv 2) (pa_cons (pv 7) (pa_cons (pv 5) pa_nil)))) pa_nil))))
          (pss_one (ps_expr (pe_bm PySem.F.plainAttrs_list PySem.F.slot_list_append PySem.F.type_list_append mt_append (pv 6) (pa_cons (pe_tup (pa_cons (pv 9) (pa_cons (pe_call F5 hr rfl m5 k5 b5 .nil pass0 (pa_cons (pv 8) (pa_cons (pv 3) pa_nil))) pa_nil))) pa_nil))))) pss_nil))) pss_nil)))
    (pss_one (ps_ret (pv 6)))))), ?_⟩
  obtain ⟨a1, xl, xr, ex, ha1, hxl, hxr⟩ := id hx
  subst ex
  refine ⟨_, rfl, a1, _, rfl, SqT.of ha1, rfl, xl, [xr], rfl, xr, [], rfl, rfl, ?_⟩
  refine ⟨_, rfl, _, rfl, r1, r2, .ref a1, y, rfl, hx, hy, n1, n2, n3, n4, fun p0 yl yr b H1 s1 hby hp0 hyl hyr => ?_⟩
  refine ⟨p0, _, rfl, SqT.of hp0, rfl, yl, [yr], rfl, yr, [], rfl, rfl, ?_⟩
  refine ⟨(show 0 ≤ sizeLine by decide), fun cl hcl => ?_⟩
  have s2 := s1.trans (same_new hcl (.lst []))
  have sz1 := size_nest4 n1
  have hclH : H cl = none := by
    cases h : H cl with
    | none => rfl
    | some v => rw [s1 _ _ h] at hcl; cases hcl
  have hyl2 := hyl.same (same_new hcl (.lst []))
  have hyr2 := hyr.same (same_new hcl (.lst []))
  refine ⟨_, rfl, rfl, rfl, r1.1, xl, rfl, hxl.same s2, n1, by omega, fun pl ys H2 hpl s3 hPs hpl2 => ?_⟩
  have hcl2 := s3 _ _ (upd_same (H := H1) (a := cl) (o := .lst []))
  have plcl : pl ≠ cl := fun e => by rw [e, upd_same] at hpl; cases hpl
  refine ⟨pl, rfl, ⟨_, SqL.of hpl2⟩, ?_⟩
  refine for_list (K := K) (a := pl) (xs := ys) (fun i σ H3 => ∃ (zs : List V) (cs : List (Tm × Tm)) (v7 v8 v9 : Option V), σ = [some (.ref a1), some y, some xl, some xr, some yl, some yr, some (.ref cl), v7, v8, v9] ∧ (∀ b o, b ≠ cl → H2 b = some o → H3 b = some o) ∧ H3 cl = some (.lst zs) ∧ AllAt (RuleAt N H3) cs zs ∧ zs.length ≤ i ∧ PairsOk r1 r2 b (r1.1.plc.take i) cs) ?_ ?_ ?_ ?_
  · exact ⟨[], [], none, none, none, rfl, fun _ _ _ h => h, hcl2, rfl, Nat.le_refl _, PairsOk.nil⟩
  · rintro i σ H3 _ ⟨zs, cs, v7, v8, v9, _, hb, _⟩
    exact SqL.of (hb _ _ plcl hpl2)
  · rintro i z σ H3 hi ⟨zs, cs, v7, v8, v9, rfl, hb3, hcl3, hzs3, hzl, hok⟩
    obtain ⟨pp, hpi, hpz⟩ := hPs.get hi
    have hpm : pp ∈ r1.1.plc := List.mem_of_getElem? hpi
    obtain ⟨hip, _⟩ := isP_plc hpm
    have hil : i < r1.1.plc.length := (List.getElem?_eq_some_iff.mp hpi).1
    have hpl15 := plc_size (t := r1.1)
    -- what stands still
    have t23 : TupSame H2 H3 := fun b xs h => hb3 b _ (fun e => by rw [e, hcl2] at h; cases h) h
    have s12 : Same H H2 := s2.trans s3
    have tH3 : ∀ {u : Tm} {z : V}, TmAt N H2 u z → TmAt N H3 u z := fun h => h.tupS t23
    have hpz3 : PosAt H3 pp z := by obtain ⟨a, e, h⟩ := hpz; exact ⟨a, e, t23 _ _ h⟩
    have hx3 : RuleAt N H3 r1 (.ref a1) := rule_tupS (rule_same hx s12) t23
    have hy3 : RuleAt N H3 r2 y := rule_tupS (rule_same hy s12) t23
    have hxl3 : TmAt N H3 r1.1 xl := tH3 (hxl.same s12)
    have hxr3 : TmAt N H3 r1.2 xr := tH3 (hxr.same s12)
    have hyl3 : TmAt N H3 (r2.1.shift b) yl := tH3 (hyl2.same s3)
    have hyr3 : TmAt N H3 (r2.2.shift b) yr := tH3 (hyr2.same s3)
    refine ⟨_, rfl, (show 0 ≤ sizeLine by decide), fun e0 he0 => ?_⟩
    have s4 : Same H3 (upd H3 e0 (.tup [])) := same_new he0 _
    have hpz4 : PosAt (upd H3 e0 (.tup [])) pp z := by obtain ⟨a, e, h⟩ := hpz3; exact ⟨a, e, s4 _ _ h⟩
    have fin : ∀ H4 zs' cs' v8' v9', (∀ b o, b ≠ cl → upd H3 e0 (.tup []) b = some o → H4 b = some o) → H4 cl = some (.lst zs') → AllAt (RuleAt N H4) cs' zs' → zs'.length ≤ zs.length + 1 → PairsOk r1 r2 b (r1.1.plc.take i ++ [pp]) cs' → _ := fun H4 zs' cs' v8' v9' a1' a2' a3' a4' a5' =>
      (⟨zs', cs', some z, v8', v9', rfl, fun b o nb h => a1' b o nb (s4 _ _ (hb3 b o nb h)), a2', a3', by omega, by rw [take_get hpi]; exact a5'⟩ : ∃ (zs : List V) (cs : List (Tm × Tm)) (v7 v8 v9 : Option V), [some (V.ref a1), some y, some xl, some xr, some yl, some yr, some (V.ref cl), some z, v8', v9'] = [some (.ref a1), some y, some xl, some xr, some yl, some yr, some (.ref cl), v7, v8, v9] ∧ (∀ b o, b ≠ cl → H2 b = some o → H4 b = some o) ∧ H4 cl = some (.lst zs) ∧ AllAt (RuleAt N H4) cs zs ∧ zs.length ≤ i + 1 ∧ PairsOk r1 r2 b (r1.1.plc.take (i + 1)) cs)
    refine ⟨pp, hpz4, ⟨e0, rfl, upd_same⟩, _, rfl, ?_⟩
    have hzl' : zs.length ≤ 1000 := by omega
    have hzs4 : AllAt (RuleAt N (upd H3 e0 (.tup []))) cs zs := AllAt.mono (fun e z h => rule_same h s4) hzs3
    by_cases hpe : pp = []
    · rw [decide_eq_true hpe]
      refine iteF ?_
      refine ⟨_, rfl, _, rfl, r1, r2, rule_same hx3 s4, rule_same hy3 s4, by omega, by omega, _, rfl, ?_⟩
      by_cases hrr : r1 = r2
      · rw [decide_eq_true hrr]
        refine iteF ?_
        refine ⟨zs, cs, _, _, _, rfl, fun b o nb h => s4 _ _ (hb3 b o nb h), s4 _ _ hcl3, hzs4, by omega, ?_⟩
        rw [take_get hpi]
        exact hok.skip fun h => h.2.elim (fun q => q hpe) fun q => q hrr
      · rw [decide_eq_false hrr]
        refine iteT ?_
        exact cp_body hB hby ⟨hpm, .inr hrr⟩ n1 n2 n3 n4 (hxl3.same s4) (hxr3.same s4) (hyl3.same s4) (hyr3.same s4) hpz4 (s4 _ _ hcl3) hzs4 hzl' hok fin
    · rw [decide_eq_false hpe]
      refine iteT ?_
      exact cp_body hB hby ⟨hpm, .inl hpe⟩ n1 n2 n3 n4 (hxl3.same s4) (hxr3.same s4) (hyl3.same s4) (hyr3.same s4) hpz4 (s4 _ _ hcl3) hzs4 hzl' hok fin
  · rintro σ H3 ⟨zs, cs, v7, v8, v9, rfl, hb3, hcl3, hzs3, hzl, hok⟩
    rw [hPs.length, List.take_length] at hok
    refine ⟨_, rfl, q cl zs cs b H3 hclH (fun b o h => hb3 b o (fun e => by rw [e, hclH] at h; cases h) (s3 _ _ (s2 _ _ h))) hcl3 hzs3 hby hok⟩
end
end K78
end
section
set_option maxHeartbeats 4000000
namespace K78
open PySem PySem.Spec PyProof.Rows L2
open Classical
theorem nf_more {R : List Rule} : ∀ {k : Nat} {t u : Tm}, nf R k t = some u → ∀ j, nf R (k + j) t = some u
  | 0, t, u, h, j => by cases h
  | k + 1, t, u, h, j => by
    rw [show k + 1 + j = (k + j) + 1 by omega]
    unfold nf at h ⊢
    cases e : once R t with
    | none => rw [e] at h; exact h
    | some t2 => rw [e] at h; exact nf_more h j
theorem nf_det {R : List Rule} {k j : Nat} {t u v : Tm} (h1 : nf R k t = some u) (h2 : nf R j t = some v) : u = v := by
  have a := nf_more h1 j
  have b := nf_more h2 k
  rw [Nat.add_comm] at b
  rw [a] at b
  exact Option.some.inj b
/-- both sides have one normal form -/
def NFEq (R : List Rule) (e : Tm × Tm) : Prop := ∃ k u, nf R k e.1 = some u ∧ nf R k e.2 = some u
theorem nfEq_iff {R : List Rule} {e : Tm × Tm} {k1 k2 : Nat} {u1 u2 : Tm} (h1 : nf R k1 e.1 = some u1) (h2 : nf R k2 e.2 = some u2) : NFEq R e ↔ u1 = u2 := by
  constructor
  · rintro ⟨k, u, a, b⟩
    rw [nf_det h1 a, nf_det h2 b]
  · rintro rfl
    refine ⟨k1 + k2, u1, nf_more h1 k2, ?_⟩
    rw [Nat.add_comm]; exact nf_more h2 k1
/-- what is asked of the critical pairs of two rules -/
def PairsAre (R : List Rule) (r1 r2 : Rule) (d : Bool) : Prop := ∃ b cs, IsBy r1 b ∧ PairsOk r1 r2 b r1.1.plc cs ∧ (d = true → ∀ e, e ∈ cs → NFEq R e) ∧ (d = false → ∃ e, e ∈ cs ∧ ¬ NFEq R e)
/-- critical pairs have normal forms, within the bounds -/
def CPNf (R : List Rule) : Prop := ∀ r1 r2, r1 ∈ R → r2 ∈ R → ∀ b p σ, IsBy r1 b → CPat r1 r2 p → IsMgu (r1.1.sat p) (r2.1.shift b) σ → (cpE r1 r2 b p σ).1.size ≤ 90 → (cpE r1 r2 b p σ).2.size ≤ 90 →
  ∃ G k1 k2 u1 u2, Safe R true G ∧ G (cpE r1 r2 b p σ).1 ∧ G (cpE r1 r2 b p σ).2 ∧ nf R k1 (cpE r1 r2 b p σ).1 = some u1 ∧ nf R k2 (cpE r1 r2 b p σ).2 = some u2
section
variable {P : Program} {w : World} {K : PySem.W.Frag} {mg : Str → Option Value} {base : Heap} {N : List Str} {C : Addr}
def spConv (N : List Str) (C : Addr) : Sp := fun vs H Q _ => ∃ (o rl : Addr) (ww : Nat → Nat) (pr : List Str) (R : List Rule), vs = [.ref o, .ref rl] ∧ OrdAt N C H o ww pr ∧ RulesAt N H rl R ∧ (∀ r, r ∈ R → r.1.nest ≤ 4 ∧ r.2.nest ≤ 4) ∧
  (((∃ r, r ∈ R ∧ ¬ Gt ww (hiN N pr) r.1 r.2) ∧ ∀ H', Same H H' → Q (.bl false) H') ∨
   ((∀ r, r ∈ R → Gt ww (hiN N pr) r.1 r.2 ∧ r.1 ≠ r.2) ∧ RB R ∧ (∀ r1 r2, r1 ∈ R → r2 ∈ R → CPB r1 r2) ∧ CPNf R ∧
    (∀ H', Same H H' → (∀ r1 r2, r1 ∈ R → r2 ∈ R → PairsAre R r1 r2 true) → Q (.bl true) H') ∧ (∀ H', Same H H' → (∃ r1 r2, r1 ∈ R ∧ r2 ∈ R ∧ PairsAre R r1 r2 false) → Q (.bl false) H')))
theorem ok_conv (hN : NmOk N) (z1 : mg "all" = none) (T : OrdC K C) (D : DF K mg "converges" s_converges ["ordering", "rules"]) (G1 : OkM P w K mg base 8 C "compare" ["self", "first", "second"] (spCmp N C 4)) (G2 : OkD P w K mg base 115 "critical_pairs" ["first", "second"] (spCPs N)) (G3 : OkD P w K mg base 118 "joined" ["rules", "first", "second"] (spJoined N)) :
    OkD P w K mg base 119 "converges" ["ordering", "rules"] (spConv N C) := by
  refine D.ok (k := 118) sc_converges (fun vs H Q E h => ?_) (fun f cdv A outer s H vs Q E hr h => ?_)
  · obtain ⟨o, rl, ww, pr, R, rfl, _⟩ := h
    rfl
  obtain ⟨o, rl, ww, pr, R, rfl, hO, hR, h4, hq⟩ := h
  obtain ⟨f1, fd1, m1, b1, F1⟩ := G1
  obtain ⟨f2, fd2, m2, k2, b2, F2, _⟩ := G2
  obtain ⟨f3, fd3, m3, k3, b3, F3, _⟩ := G3
  have nd := sc_converges.nd
  refine ⟨_, pss_cons (ps_for PassesOwn.never rfl (pi_list (pv 1)) (pg_tup rfl (pgs_cons (pg_name (i := 2) nd rfl (.inl rfl)) (pgs_cons (pg_name (i := 3) nd rfl (.inl rfl)) pgs_nil)))
      (pss_one (ps_if (pt_cmpR op_ne (pe_meth (pv 0) T.cl m1 F1 (hr.mono (by decide)) b1 .nil pass0 (pa_cons (pv 2) (pa_cons (pv 3) pa_nil))) pe_str (nomark _)) (pss_one (ps_ret pe_bl)) pss_nil)))
    (pss_cons (ps_for PassesOwn.never rfl (pi_list (pv 1)) (pg_name (i := 4) nd rfl (.inl rfl))
      (pss_one (ps_for PassesOwn.never rfl (pi_list (pv 1)) (pg_name (i := 5) nd rfl (.inl rfl))
        (pss_one (ps_if (pt_not (pt_val (pe_callB (cr_all rfl) (by rfl) z1 (by decide +kernel) (pa_cons
          (pe_lc (own := [("pair", 6)]) (g := gName 6) (tt := tYes) rfl nd (pi_list (pe_call F2 (hr.mono (by decide)) rfl m2 k2 b2 .nil pass0 (pa_cons (pv 4) (pa_cons (pv 5) pa_nil)))) (blkOk_by (N := ["ordering", "rules", "left", "right", "first", "second", "pair"]) (sc := defScope s_converges) (by decide +kernel)) (fun _ _ _ _ _ => pg_name (i := 6) nd rfl (Or.inl rfl)) (fun _ _ _ _ _ => pts_nil)
            (fun _ _ _ _ _ => pe_call F3 hr rfl m3 k3 b3 .nil pass0 (pa_cons (pv 1) (pa_cons (pe_ix (r := rIxT K) ix_tup (pv 6) pe_int (fun _ _ => rfl)) (pa_cons (pe_ix (r := rIxT K) ix_tup (pv 6) pe_int (fun _ _ => rfl)) pa_nil))))) pa_nil)))) (pss_one (ps_ret pe_bl)) pss_nil)))))
    (pss_one (ps_ret pe_bl))), ?_⟩
  obtain ⟨ys, hl, hys⟩ := id hR
  obtain ⟨odx, otd, oad, oho, _⟩ := id hO
  refine ⟨_, rfl, rl, rfl, ⟨_, SqL.of hl⟩, ?_⟩
  refine for_list (K := K) (a := rl) (xs := ys) (fun i σ H1 => ∃ (v2 v3 : Option V), σ = [some (.ref o), some (.ref rl), v2, v3, none, none, none] ∧ Same H H1 ∧ ∀ r, r ∈ R.take i → Gt ww (hiN N pr) r.1 r.2) ?_ ?_ ?_ ?_
  · exact ⟨none, none, rfl, Same.refl H, fun r h => by cases h⟩
  · rintro i σ H1 _ ⟨v2, v3, _, s1, _⟩
    exact SqL.of (s1 _ _ hl)
  · rintro i z σ H1 hi ⟨v2, v3, rfl, s1, hgt⟩
    obtain ⟨r, hri, a, xl, xr, rfl, ha, hxl, hxr⟩ := hys.get hi
    have hrm := List.mem_of_getElem? hri
    obtain ⟨h41, h42⟩ := h4 r hrm
    refine ⟨a, _, rfl, SqT.of (s1 _ _ ha), rfl, xl, [xr], rfl, xr, [], rfl, rfl, ?_⟩
    have sz1 := size_nest4 h41
    have sz2 := size_nest4 h42
    refine ⟨_, rfl, o, odx, _, rfl, s1 _ _ oho, ord_no _ _ (by decide +kernel) (by decide +kernel), _, rfl, _, rfl, o, ww, pr, r.1, r.2, xl, xr, rfl, hO.same s1, hxl.same s1, hxr.same s1, h41, h42, by omega, by omega, fun sr H2 s2 hc => ?_⟩
    refine ⟨rfl, _, rfl, ?_⟩
    by_cases es : sr = "greater"
    · rw [decide_eq_true (by rw [es])]
      refine iteF ?_
      refine ⟨_, _, rfl, s1.trans s2, fun r' hr' => ?_⟩
      rw [take_get hri] at hr'
      rcases List.mem_append.mp hr' with hr' | hr'
      · exact hgt r' hr'
      · rw [List.mem_singleton.mp hr']
        rcases hc with ⟨e, _⟩ | ⟨_, _, h⟩ | ⟨e, _⟩ | ⟨e, _⟩
        · rw [es] at e; exact absurd e (by decide +kernel)
        · exact h
        · rw [es] at e; exact absurd e (by decide +kernel)
        · rw [es] at e; exact absurd e (by decide +kernel)
    · rw [decide_eq_false (fun e => es (V.str.inj e))]
      refine iteT ?_
      rcases hq with ⟨_, q⟩ | ⟨hall, _⟩
      · exact q H2 (s1.trans s2)
      · exfalso
        obtain ⟨g1, g2⟩ := hall r hrm
        rcases hc with ⟨_, e⟩ | ⟨e, _⟩ | ⟨_, _, e, _⟩ | ⟨_, _, e, _⟩
        · exact g2 e
        · exact es e
        · exact e g1
        · exact e g1
  · rintro σ H1 ⟨v2, v3, rfl, s1, hgt⟩
    rw [hys.length, List.take_length] at hgt
    have hq2 : (∀ r, r ∈ R → Gt ww (hiN N pr) r.1 r.2 ∧ r.1 ≠ r.2) ∧ RB R ∧ (∀ r1 r2, r1 ∈ R → r2 ∈ R → CPB r1 r2) ∧ CPNf R ∧
        (∀ H', Same H H' → (∀ r1 r2, r1 ∈ R → r2 ∈ R → PairsAre R r1 r2 true) → Q (.bl true) H') ∧ (∀ H', Same H H' → (∃ r1 r2, r1 ∈ R ∧ r2 ∈ R ∧ PairsAre R r1 r2 false) → Q (.bl false) H') := by
      rcases hq with ⟨⟨r, hr, hn⟩, _⟩ | h
      · exact absurd (hgt r hr) hn
      · exact h
    obtain ⟨_, hRB, hCPB, hNf, qT, qF⟩ := hq2
    refine ⟨_, rfl, rl, rfl, ⟨_, SqL.of (s1 _ _ hl)⟩, ?_⟩
    refine for_list (K := K) (a := rl) (xs := ys) (fun i σ H2 => ∃ (v4 v5 : Option V), σ = [some (.ref o), some (.ref rl), v2, v3, v4, v5, none] ∧ Same H H2 ∧ ∀ r1 r2, r1 ∈ R.take i → r2 ∈ R → PairsAre R r1 r2 true) ?_ ?_ ?_ ?_
    · exact ⟨none, none, rfl, s1, fun r1 r2 h => by cases h⟩
    · rintro i σ H2 _ ⟨v4, v5, _, s2, _⟩
      exact SqL.of (s2 _ _ hl)
    · rintro i z σ H2 hi ⟨v4, v5, rfl, s2, hP⟩
      obtain ⟨r1, hri, hz⟩ := hys.get hi
      have hrm := List.mem_of_getElem? hri
      refine ⟨_, rfl, rl, rfl, ⟨_, SqL.of (s2 _ _ hl)⟩, ?_⟩
      refine for_list (K := K) (a := rl) (xs := ys) (fun j σ H3 => ∃ (v5 : Option V), σ = [some (.ref o), some (.ref rl), v2, v3, some z, v5, none] ∧ Same H H3 ∧ ∀ r2, r2 ∈ R.take j → PairsAre R r1 r2 true) ?_ ?_ ?_ ?_
      · exact ⟨v5, rfl, s2, fun r2 h => by cases h⟩
      · rintro j σ H3 _ ⟨v5', _, s3, _⟩
        exact SqL.of (s3 _ _ hl)
      · rintro j z2 σ H3 hj ⟨v5', rfl, s3, hP2⟩
        obtain ⟨r2, hrj, hz2⟩ := hys.get hj
        have hrm2 := List.mem_of_getElem? hrj
        refine ⟨_, rfl, _, rfl, r1, r2, z, z2, rfl, rule_same hz s3, rule_same hz2 s3, (h4 r1 hrm).1, (h4 r1 hrm).2, (h4 r2 hrm2).1, (h4 r2 hrm2).2, hCPB r1 r2 hrm hrm2, fun pl zs cs b H4 hpl s4 hpl4 hcs hby hok => ?_⟩
        have s34 := s3.trans s4
        have hcl : cs.length ≤ 100000 := by
          have := hok.ln; have := plc_size (t := r1.1); have := size_nest4 (h4 r1 hrm).1; omega
        refine ⟨pl, rfl, ⟨_, SqL.of hpl4⟩, fun D1 hD1 => lc_map_lst (R := fun _ (b : Bool) z => z = .bl b) (bs := cs.map fun e => decide (NFEq R e)) (fun _ _ _ _ e h => h) (by rw [List.length_map, hcs.length]) (by rw [hcs.length]; exact hcl) (SqL.of hpl4) ?_ hD1 ?_⟩
        · intro k ze bb H5 Q' hze hb s5 q'
          rw [List.getElem?_map, Option.map_eq_some_iff] at hb
          obtain ⟨e, he, rfl⟩ := hb
          obtain ⟨e', he', a, xa, xb, rfl, ha, hxa, hxb⟩ := hcs.get hze
          rw [he] at he'; cases he'
          have hem := List.mem_of_getElem? he
          obtain ⟨p, σm, hpp, hcp, hm, ee⟩ := hok.of e hem
          obtain ⟨sm1, sm2⟩ := hok.small e hem
          rw [ee] at sm1 sm2
          obtain ⟨Gs, k1', k2', u1, u2, hS, g1, g2, e1, e2⟩ := hNf r1 r2 hrm hrm2 b p σm hby hcp hm sm1 sm2
          rw [← ee] at g1 g2 e1 e2
          refine ⟨_, rfl, _, rfl, a, _, 0, xa, rfl, rfl, SqT.of (s5 _ _ ha), atI_nat (j := 0) rfl, _, rfl, a, _, 1, xb, rfl, rfl, SqT.of (s5 _ _ ha), atI_nat (j := 1) rfl, R, e.1, e.2, u1, u2, rl, xa, xb, Gs, k1', k2', rfl, hR.same (s34.trans s5), hxa.same s5, hxb.same s5, hRB, hS, g1, g2, e1, e2, fun H6 s6 => ?_⟩
          refine q' _ H6 s6 ?_
          show V.bl _ = V.bl _
          congr 1
          rw [Bool.eq_iff_iff, decide_eq_true_eq, decide_eq_true_eq]
          exact (nfEq_iff e1 e2).symm
        · intro zs5 H5 s5 hd5 ha5
          have ez : zs5 = (cs.map fun e => decide (NFEq R e)).map V.bl := by
            have key : ∀ {bs : List Bool} {zs : List V}, AllAt (fun (b : Bool) z => z = V.bl b) bs zs → zs = bs.map V.bl := by
              intro bs
              induction bs with
              | nil => intro zs h; cases h; rfl
              | cons b bs ih => rintro zs ⟨z, zs', e1, e2, e3⟩; subst e1; subst e2; rw [ih e3]; rfl
            exact key ha5
          rw [ez] at hd5
          refine ⟨D1, _, rfl, SqL.of hd5, _, rfl, ?_⟩
          have s6 := s34.trans s5
          cases hal : (cs.map fun e => decide (NFEq R e)).all id with
          | true =>
            refine iteF ?_
            refine ⟨_, rfl, s6, fun r2' hr2' => ?_⟩
            rw [take_get hrj] at hr2'
            rcases List.mem_append.mp hr2' with h | h
            · exact hP2 r2' h
            · rw [List.mem_singleton.mp h]
              refine ⟨b, cs, hby, hok, fun _ e he => ?_, fun h => by cases h⟩
              have := List.all_eq_true.mp hal _ (List.mem_map.mpr ⟨e, he, rfl⟩)
              exact of_decide_eq_true this
          | false =>
            refine iteT ?_
            refine qF H5 s6 ⟨r1, r2, hrm, hrm2, b, cs, hby, hok, fun h => (by cases h), fun _ => ?_⟩
            have : ¬ ∀ x, x ∈ cs.map (fun e => decide (NFEq R e)) → id x = true := fun h => by rw [List.all_eq_true.mpr h] at hal; cases hal
            have h2 : ¬ ∀ e, e ∈ cs → NFEq R e := fun h => this fun x hx => by
              obtain ⟨e, he, rfl⟩ := List.mem_map.mp hx
              exact decide_eq_true (h e he)
            exact Classical.not_forall.mp h2 |>.elim fun e he => ⟨e, Classical.not_imp.mp he⟩
      · rintro σ H3 ⟨v5', rfl, s3, hP2⟩
        rw [hys.length, List.take_length] at hP2
        refine ⟨_, _, rfl, s3, fun r1' r2' hr1 hr2 => ?_⟩
        rw [take_get hri] at hr1
        rcases List.mem_append.mp hr1 with h | h
        · exact hP r1' r2' h hr2
        · rw [List.mem_singleton.mp h]; exact hP2 r2' hr2
    · rintro σ H2 ⟨v4, v5, rfl, s2, hP⟩
      rw [hys.length, List.take_length] at hP
      exact qT H2 s2 hP
end
end K78
end
section
set_option maxHeartbeats 4000000
namespace K78
open PySem PySem.Spec PyProof.Rows L2
/-! ### _law_pairs -/
/-- only the variables 0 and 1 -/
def V2 (r : Rule) : Prop := ∀ m, r.1.has m ∨ r.2.has m → m < 2
theorem has_shift {b m : Nat} : ∀ {t : Tm}, (t.shift b).has m → ∃ n, t.has n ∧ m = n + b
  | .v n, h => ⟨n, rfl, h.symm⟩
  | .c _, h => h.elim
  | .f t, h => has_shift (t := t) h
  | .g t u, h => h.elim (fun h => by obtain ⟨n, a, c⟩ := has_shift h; exact ⟨n, .inl a, c⟩) fun h => by obtain ⟨n, a, c⟩ := has_shift h; exact ⟨n, .inr a, c⟩
theorem has_sat {m : Nat} : ∀ {t : Tm} {p : List Nat}, (t.sat p).has m → t.has m
  | t, [], h => by simpa [Tm.sat] using h
  | .f t, 1 :: p, h => has_sat (t := t) (p := p) h
  | .g t u, 1 :: p, h => .inl (has_sat (t := t) (p := p) h)
  | .g t u, 2 :: p, h => .inr (has_sat (t := u) (p := p) h)
  | .v n, k :: p, h => by simpa only [Tm.sat] using h
  | .c n, k :: p, h => by simp only [Tm.sat] at h; exact h
  | .f t, 0 :: p, h => by simpa only [Tm.sat] using h
  | .f t, (k + 2) :: p, h => by simpa only [Tm.sat] using h
  | .g t u, 0 :: p, h => by simpa only [Tm.sat] using h
  | .g t u, (k + 3) :: p, h => by simpa only [Tm.sat] using h
theorem IsBy.le2 {r : Rule} {b : Nat} (h : IsBy r b) (v : V2 r) : b ≤ 2 := h.2 2 v
section
variable {P : Program} {w : World} {K : PySem.W.Frag} {mg : Str → Option Value} {base : Heap} {N : List Str}
def spLPs (N : List Str) : Sp := fun vs H Q _ => ∃ (r1 r2 : Rule) (x y : V), vs = [x, y] ∧ RuleAt N H r1 x ∧ RuleAt N H r2 y ∧ r1.1.nest ≤ 4 ∧ r1.2.nest ≤ 4 ∧ r2.1.nest ≤ 4 ∧ r2.2.nest ≤ 4 ∧ V2 r1 ∧ V2 r2 ∧ CPB r1 r2 ∧
  ∀ p ys cs b H', H p = none → Same H H' → H' p = some (.lst ys) → AllAt (RuleAt N H') cs ys → IsBy r1 b → PairsOk r1 r2 b r1.1.plc cs → Q (.ref p) H'
def tLpB (N : List Str) (K : PySem.W.Frag) : TS := tSeq (tAsg (tCall (spLUnify N) [] E0 (tCons (tCall (spSub N) [] E0 (tCons (tOp (rIxT K) (tVar 0) (tC (V.int 0))) (tCons (tVar 4) tNil))) (tCons (tCall (spShift N 4) [] E0 (tCons (tOp (rIxT K) (tVar 1) (tC (V.int 0))) (tCons (tVar 2) tNil))) tNil))) (gName 5))
  (tIfS (tTest (tOp (fun x y H Q => y = V.non ∧ Q (V.bl !decide (x = V.non)) H) (tVar 5) (tC V.non)))
    (tSeq (tAsg (tCall (spRep N 10) [] E0 (tCons (tVar 5) (tCons (tCall (spExch N 10) [] E0 (tCons (tOp (rIxT K) (tVar 0) (tC (V.int 0))) (tCons (tVar 4) (tCons (tCall (spShift N 4) [] E0 (tCons (tOp (rIxT K) (tVar 1) (tC (V.int 1))) (tCons (tVar 2) tNil))) tNil)))) tNil))) (gName 6))
      (tDrop (tBM K "list" rAppend (tVar 3) (tCons (tTup (tCons (tVar 6) (tCons (tCall (spRep N 10) [] E0 (tCons (tVar 5) (tCons (tOp (rIxT K) (tVar 0) (tC (V.int 1))) tNil))) tNil))) tNil)))) tNext)
theorem lp_body {De : Ends} {H3 : Hp} {r1 r2 : Rule} {v5 v6 v7 : Option V} {x y z : V} {cl : Addr} {zs : List V} {cs : List (Tm × Tm)} {b : Nat} {pp : List Nat} {ps : List (List Nat)} (hB : CPB r1 r2) (hby : IsBy r1 b) (hcp : CPat r1 r2 pp) (n1 : r1.1.nest ≤ 4) (n2 : r1.2.nest ≤ 4) (n3 : r2.1.nest ≤ 4) (n4 : r2.2.nest ≤ 4) (w1 : V2 r1) (w2 : V2 r2)
    (hx : RuleAt N H3 r1 x) (hy : RuleAt N H3 r2 y) (hz : PosAt H3 pp z) (hcl : H3 cl = some (.lst zs)) (hzs : AllAt (RuleAt N H3) cs zs) (hzl : zs.length ≤ 1000) (hok : PairsOk r1 r2 b ps cs)
    (hNx : ∀ H4 zs' cs' v5' v6', (∀ b o, b ≠ cl → H3 b = some o → H4 b = some o) → H4 cl = some (.lst zs') → AllAt (RuleAt N H4) cs' zs' → zs'.length ≤ zs.length + 1 → PairsOk r1 r2 b (ps ++ [pp]) cs' → De.nx [some x, some y, some (natV b), some (.ref cl), some z, v5', v6', v7] H4) :
    tLpB N K De [some x, some y, some (natV b), some (.ref cl), some z, v5, v6, v7] H3 := by
  obtain ⟨a1, xl, xr, rfl, ha1, hxl, hxr⟩ := hx
  obtain ⟨a2, yl, yr, rfl, ha2, hyl, hyr⟩ := hy
  obtain ⟨hip, _⟩ := isP_plc hcp.1
  have hsn : (r1.1.sat pp).nest ≤ 4 := Nat.le_trans sat_nest4 n1
  have hb2 := hby.le2 w1
  have hu1 : ∀ θ, Unif (r1.1.sat pp) (r2.1.shift b) θ → ∃ θ', Unif (r1.1.sat pp) (r2.1.shift b) θ' ∧ ((r1.1.sat pp).ap θ').size ≤ 2900 := fun θ h => by
    obtain ⟨θ', a, c, _⟩ := hB b hby pp hcp.1 ⟨θ, h⟩
    exact ⟨θ', a, by omega⟩
  refine ⟨_, rfl, a1, _, 0, xl, rfl, rfl, SqT.of ha1, atI_nat (j := 0) rfl, _, rfl, r1.1, pp, xl, z, rfl, hxl, hz, hip, fun zu H4 s4 hzu => ?_⟩
  refine ⟨_, rfl, a2, _, 0, yl, rfl, rfl, SqT.of (s4 _ _ ha2), atI_nat (j := 0) rfl, _, rfl, r2.1, b, yl, rfl, hyl.same s4, n3, fun zv H5 s5 hzv => ?_⟩
  have s45 := s4.trans s5
  refine ⟨r1.1.sat pp, r2.1.shift b, zu, zv, rfl, hzu.same s5, hzv, hsn, by rw [nest_shift]; exact n3, fun m hm => ?_, fun m hm => ?_, hu1, fun d H6 p k s6 hm hsub => ?_, fun H6 s6 hno => ?_⟩
  · have := w1 m (.inl (has_sat hm)); omega
  · obtain ⟨n, a, e⟩ := has_shift hm; have := w2 n (.inl a); omega
  · refine ⟨_, rfl, rfl, _, rfl, ?_⟩
    refine iteT ?_
    have s7 := s45.trans s6
    obtain ⟨θ, hθ, _, c1, c2⟩ := hB b hby pp hcp.1 ⟨_, hm.un⟩
    have e1 := mgu_small (X := cpX r1 r2 b pp) hm hθ
    have e2 := mgu_small (X := r1.2) hm hθ
    have hXn : (cpX r1 r2 b pp).nest ≤ 10 := by
      have := nest_put r1.1 pp (r2.2.shift b)
      rw [nest_shift] at this
      unfold cpX
      omega
    have hlen := isP_len hip
    refine ⟨_, rfl, _, rfl, a1, _, 0, xl, rfl, rfl, SqT.of (s7 _ _ ha1), atI_nat (j := 0) rfl, _, rfl, _, rfl, a2, _, 1, yr, rfl, rfl, SqT.of (s7 _ _ ha2), atI_nat (j := 1) rfl, _, rfl, r2.2, b, yr, rfl, hyr.same s7, n4, fun zw H7 s8 hzw => ?_⟩
    have s9 := s7.trans s8
    refine ⟨r1.1, r2.2.shift b, pp, xl, z, zw, rfl, hxl.same s9, (by obtain ⟨a, e, h⟩ := hz; exact ⟨a, e, s9 _ _ h⟩), hzw, hip, by omega, fun zx H8 s10 hzx => ?_⟩
    refine ⟨cpX r1 r2 b pp, zx, d, p, k, rfl, hzx, hsub.same (s8.trans s10), hXn, fun za H9 s11 hza => ?_⟩
    have s12 := s9.trans (s10.trans s11)
    refine ⟨_, rfl, .inl ⟨rfl, _, SqL.of (s12 _ _ hcl)⟩, _, rfl, _, rfl, _, rfl, a1, _, 1, xr, rfl, rfl, SqT.of (s12 _ _ ha1), atI_nat (j := 1) rfl, r1.2, xr, d, p, k, rfl, hxr.same s12, hsub.same (s8.trans (s10.trans s11)), by omega, fun zb H10 s13 hzb => ?_⟩
    refine ⟨(show 2 ≤ sizeLine by decide), fun pn hpn => ?_⟩
    have s14 : Same H10 (upd H10 pn (.tup [za, zb])) := same_new hpn _
    have s15 := s12.trans (s13.trans s14)
    refine ⟨cl, zs, _, rfl, rfl, s15 _ _ hcl, sz1000 hzl, ?_⟩
    have t12 : TupSame (upd H10 pn (.tup [za, zb])) (upd (upd H10 pn (.tup [za, zb])) cl (.lst (zs ++ [.ref pn]))) := tup_upd (s15 _ _ hcl)
    refine hNx _ (zs ++ [.ref pn]) (cs ++ [cpE r1 r2 b pp p.tot]) _ _ (fun b o nb hb => kp nb (s15 _ _ hb) _) upd_same ?_ (by rw [List.length_append]; exact Nat.le_refl _) (hok.yes hcp hm (by show ((cpX r1 r2 b pp).ap p.tot).size ≤ 90; omega) (by show (r1.2.ap p.tot).size ≤ 90; omega))
    exact AllAt.snoc (AllAt.mono (fun e z h => rule_tupS (rule_same h s15) t12) hzs) ⟨pn, za, zb, rfl, t12 _ _ upd_same, ((hza.same s13).same s14).tupS t12, (hzb.same s14).tupS t12⟩
  · refine ⟨_, rfl, rfl, _, rfl, ?_⟩
    refine iteF ?_
    have s7 := s45.trans s6
    exact hNx H6 zs cs _ _ (fun b o _ hb => s7 _ _ hb) (s7 _ _ hcl) (AllAt.mono (fun e z h => rule_same h s7) hzs) (Nat.le_succ _) (hok.no hno)
theorem ok_lps (hN : NmOk N) (z1 : mg "max" = none) (D : DF K mg "_law_pairs" s_law_pairs ["_law_first", "_law_second"]) (G1 : OkD P w K mg base 5 "_law_vars" ["_law_term_here"] (spLVars N 5)) (G2 : OkD P w K mg base 4 "_law_places" ["_law_term_here"] (spLPos N 4)) (G3 : OkD P w K mg base 65 "_law_unify" ["_law_first", "_law_second"] (spLUnify N))
    (G4 : OkD P w K mg base 1 "_law_at" ["_law_term_here", "_law_place"] (spSub N)) (G5 : OkD P w K mg base 4 "_law_shift" ["_law_term_here", "_law_by"] (spShift N 4)) (G6 : OkD P w K mg base 10 "_law_apply" ["_law_sub", "_law_term_here"] (spRep N 10)) (G7 : OkD P w K mg base 10 "_law_put" ["_law_term_here", "_law_place", "_law_new"] (spExch N 10)) :
    OkD P w K mg base 66 "_law_pairs" ["_law_first", "_law_second"] (spLPs N) := by
  refine D.ok (k := 65) sc_law_pairs (fun vs H Q E h => ?_) (fun f cdv A outer s H vs Q E hr h => ?_)
  · obtain ⟨r1, r2, x, y, rfl, _⟩ := h
    rfl
  obtain ⟨r1, r2, x, y, rfl, hx, hy, n1, n2, n3, n4, w1, w2, hB, q⟩ := h
  obtain ⟨f1, fd1, m1, k1, b1, F1, _⟩ := G1
  obtain ⟨f2, fd2, m2, k2, b2, F2, _⟩ := G2
  obtain ⟨f3, fd3, m3, k3, b3, F3, _⟩ := G3
  obtain ⟨f4, fd4, m4, k4, b4, F4, _⟩ := G4
  obtain ⟨f5, fd5, m5, k5, b5, F5, _⟩ := G5
  obtain ⟨f6, fd6, m6, k6, b6, F6, _⟩ := G6
  obtain ⟨f7, fd7, m7, k7, b7, F7, _⟩ := G7
  have hr1 : Room 5 _ := hr.mono (by decide)
  have hr2 : Room 4 _ := hr.mono (by decide)
  have hr3 : Room 1 _ := hr.mono (by decide)
  have hr4 : Room 10 _ := hr.mono (by decide)
  have nd := sc_law_pairs.nd
  refine ⟨_, pss_cons (ps_set (i := 2) nd rfl (Or.inl rfl) (pe_callB (cr_max rfl) (by rfl) z1 (by decide +kernel) (pa_cons (pe_op op_cat (pe_lst (pa_cons pe_int pa_nil))
        (pe_lc (own := [("_law_name", 7)]) (g := gName 7) (tt := tYes) rfl nd (pi_list (pe_call F1 hr1 rfl m1 k1 b1 .nil pass0 (pa_cons (pe_tup (pa_cons pe_int (pa_cons (pe_ix ix_tup (pv 0) pe_int (fun _ _ => rfl)) (pa_cons (pe_ix ix_tup (pv 0) pe_int (fun _ _ => rfl)) pa_nil)))) pa_nil)))
          (blkOk_by (N := ["_law_first", "_law_second", "_law_by", "_law_pairs_here", "_law_place", "_law_sub", "_law_whole", "_law_name"]) (sc := defScope s_law_pairs) (by decide +kernel)) (fun _ _ _ _ _ => pg_name (i := 7) nd rfl (Or.inl rfl)) (fun _ _ _ _ _ => pts_nil) (fun _ _ _ _ _ => pe_op op_add (pv 7) pe_int))) pa_nil)))
    (pss_cons (ps_set (i := 3) nd rfl (Or.inl rfl) (pe_lst pa_nil))
    (pss_cons (ps_for PassesOwn.never rfl (pi_list (pe_call F2 hr2 rfl m2 k2 b2 .nil pass0 (pa_cons (pe_ix ix_tup (pv 0) pe_int (fun _ _ => rfl)) pa_nil))) (pg_name (i := 4) nd rfl (.inl rfl))
      (pss_one (ps_if (PW.pt (pw_or (pt_cmpR (op_neP0 (hu2 hr)) (pv 4) (pe_tup pa_nil) (nomark _)) (pw_or1 (pt_cmpR (op_neRu hN (hu2 hr)) (pv 0) (pv 1) (nomark _)))))
        (pss_cons (ps_set (i := 5) nd rfl (Or.inl rfl) (pe_call F3 hr rfl m3 k3 b3 .nil pass0 (pa_cons (pe_call F4 hr3 rfl m4 k4 b4 .nil pass0 (pa_cons (pe_ix ix_tup (pv 0) pe_int (fun _ _ => rfl)) (pa_cons (pv 4) pa_nil))) (pa_cons (pe_call F5 hr2 rfl m5 k5 b5 .nil pass0 (pa_cons (pe_ix ix_tup (pv 1) pe_int (fun _ _ => rfl)) (pa_cons (pv 2) pa_nil))) pa_nil))))
        (pss_one (ps_if (pt_cmpR op_notN (pv 5) pe_non (nomark _))
          (pss_cons (ps_set (i := 6) nd rfl (Or.inl rfl) (pe_call F6 hr4 rfl m6 k6 b6 .nil pass0 (pa_cons (pv 5) (pa_cons (pe_call F7 hr4 rfl m7 k7 b7 .nil pass0 (pa_cons (pe_ix ix_tup (pv 0) pe_int (fun _ _ => rfl)) (pa_cons (pv 4) (pa_cons (pe_call F5 hr2 rfl m5 k5 b5 .nil pass0 (pa_cons (pe_ix ix_tup (pv 1) pe_int (fun _ _ => rfl)) (pa_cons (pv 2) pa_nil))) pa_nil)))) pa_nil))))
          (pss_one (ps_expr (pe_bm PySem.F.plainAttrs_list PySem.F.slot_list_append PySem.F.type_list_append mt_append (pv 3) (pa_cons (pe_tup (pa_cons (pv 6) (pa_cons (pe_call F6 hr4 rfl m6 k6 b6 .nil pass0 (pa_cons (pv 5) (pa_cons (pe_ix ix_tup (pv 0) pe_int (fun _ _ => rfl)) pa_nil))) pa_nil))) pa_nil))))) pss_nil))) pss_nil)))
    (pss_one (ps_ret (pv 3))))), ?_⟩
  obtain ⟨a1, xl, xr, ex, ha1, hxl, hxr⟩ := id hx
  subst ex
  have sz1 := size_nest4 n1
  refine ⟨(show 1 ≤ sizeLine by decide), fun l0 hl0 => ?_⟩
  have s0 : Same H (upd H l0 (.lst [.int 0])) := same_new hl0 _
  refine ⟨_, rfl, a1, _, 0, xl, rfl, rfl, SqT.of (s0 _ _ ha1), atI_nat (j := 0) rfl, _, rfl, a1, _, 1, xr, rfl, rfl, SqT.of (s0 _ _ ha1), atI_nat (j := 1) rfl, (show 3 ≤ sizeLine by decide), fun tp htp => ?_⟩
  have s1 := s0.trans (same_new htp (.tup [.int 0, xl, xr]))
  have hl1 : upd (upd H l0 (.lst [.int 0])) tp (.tup [.int 0, xl, xr]) l0 = some (.lst [.int 0]) := same_new htp _ _ _ upd_same
  have hfew : FewV [r1.1, r1.2] := fun ns hnd hm => Nat.le_trans (nodup_lt 2 ns hnd fun m h => by
    obtain ⟨u, hu, hh⟩ := hm m h
    simp only [List.mem_cons, List.not_mem_nil, or_false] at hu
    rcases hu with rfl | rfl
    · exact w1 m (.inl hh)
    · exact w1 m (.inr hh)) (by decide)
  refine ⟨[r1.1, r1.2], .ref tp, rfl, by decide, .inr ⟨tp, .int 0, [xl, xr], rfl, upd_same, ⟨xl, [xr], rfl, hxl.same s1, xr, [], rfl, hxr.same s1, rfl⟩, fun u hu => by
    simp only [List.mem_cons, List.not_mem_nil, or_false] at hu
    rcases hu with rfl | rfl <;> omega⟩, hfew, fun pv ns H1 hpv s2 hV hpl => ?_⟩
  have hns2 : ns.length ≤ 2 := nodup_lt 2 ns hV.2 fun m h => by
    obtain ⟨u, hu, hh⟩ := (hV.1 m).mp h
    simp only [List.mem_cons, List.not_mem_nil, or_false] at hu
    rcases hu with rfl | rfl
    · exact w1 m (.inl hh)
    · exact w1 m (.inr hh)
  have hby : IsBy r1 (mxl (ns.map (· + 1))) := isBy_mxl fun m => by
    rw [hV.1]
    simp only [List.mem_cons, List.not_mem_nil, or_false]
    constructor
    · rintro ⟨u, rfl | rfl, h⟩
      · exact .inl h
      · exact .inr h
    · rintro (h | h)
      · exact ⟨_, .inl rfl, h⟩
      · exact ⟨_, .inr rfl, h⟩
  refine ⟨pv, rfl, ⟨_, SqL.of hpl⟩, fun D1 hD1 => lc_map_lst (R := fun _ b z => z = natV b) (bs := ns.map (· + 1)) (fun _ _ _ _ e h => h) (by rw [List.length_map, List.length_map]) (by rw [List.length_map]; omega) (SqL.of hpl) ?_ hD1 ?_⟩
  · intro k z b H4 Q' hz hb s4 q'
    rw [List.getElem?_map, Option.map_eq_some_iff] at hb hz
    obtain ⟨c, hc, rfl⟩ := hb
    obtain ⟨c', hc', rfl⟩ := hz
    rw [hc] at hc'; cases hc'
    exact ⟨_, rfl, _, _, rfl, rfl, q' _ H4 (Same.refl _) (by show V.int ((c : Int) + 1) = V.int ((c + 1 : Nat) : Int); rw [Int.natCast_add]; rfl)⟩
  · intro zs4 H4 s4 hd4 ha4
    rw [all_nat ha4] at hd4
    have s5 := s2.trans s4
    have hl4 : (((ns.map (· + 1)).map fun (b : Nat) => (b : Int)).map V.int).length ≤ 2 := by rw [List.length_map, List.length_map, List.length_map]; exact hns2
    refine ⟨l0, D1, [.int 0], _, rfl, rfl, s5 _ _ hl1, hd4, Nat.le_trans (show 1 + _ ≤ 3 by omega) (by decide), fun l7 hl7 => ?_⟩
    have s7 := s1.trans (s5.trans (same_new hl7 (.lst ([.int 0] ++ ((ns.map (· + 1)).map fun (b : Nat) => (b : Int)).map V.int))))
    refine ⟨l7, 0 :: ((ns.map (· + 1)).map fun (b : Nat) => (b : Int)), rfl, SqL.of upd_same, by simp, fun m hmm hmx => ?_⟩
    have em := max_mxl hmm hmx
    subst em
    generalize upd H4 l7 _ = H5 at s7
    generalize mxl (ns.map (· + 1)) = b at hby
    refine ⟨(show 0 ≤ sizeLine by decide), fun cl hcl => ?_⟩
    have s8 := s7.trans (same_new hcl (.lst []))
    have hclH : H cl = none := by
      cases h : H cl with
      | none => rfl
      | some v => rw [s7 _ _ h] at hcl; cases hcl
    refine ⟨_, rfl, a1, _, 0, xl, rfl, rfl, SqT.of (s8 _ _ ha1), atI_nat (j := 0) rfl, r1.1, xl, rfl, hxl.same s8, n1, by omega, fun pl ys H2 hpl2' s9 hPs hpl2 => ?_⟩
    have hcl2 := s9 _ _ (upd_same (H := H5) (a := cl) (o := .lst []))
    have plcl : pl ≠ cl := fun e => by rw [e, upd_same] at hpl2'; cases hpl2'
    have s12 : Same H H2 := s8.trans s9
    refine ⟨pl, rfl, ⟨_, SqL.of hpl2⟩, ?_⟩
    refine for_list (K := K) (a := pl) (xs := ys) (fun i σ H3 => ∃ (zs : List V) (cs : List (Tm × Tm)) (v4 v5 v6 v7 : Option V), σ = [some (.ref a1), some y, some (natV b), some (.ref cl), v4, v5, v6, v7] ∧ (∀ b o, b ≠ cl → H2 b = some o → H3 b = some o) ∧ H3 cl = some (.lst zs) ∧ AllAt (RuleAt N H3) cs zs ∧ zs.length ≤ i ∧ PairsOk r1 r2 b (r1.1.plc.take i) cs) ?_ ?_ ?_ ?_
    · exact ⟨[], [], none, none, none, none, rfl, fun _ _ _ h => h, hcl2, rfl, Nat.le_refl _, PairsOk.nil⟩
    · rintro i σ H3 _ ⟨zs, cs, v4, v5, v6, v7, _, hb, _⟩
      exact SqL.of (hb _ _ plcl hpl2)
    · rintro i z σ H3 hi ⟨zs, cs, v4, v5, v6, v7, rfl, hb3, hcl3, hzs3, hzl, hok⟩
      obtain ⟨pp, hpi, hpz⟩ := hPs.get hi
      have hpm : pp ∈ r1.1.plc := List.mem_of_getElem? hpi
      have hil : i < r1.1.plc.length := (List.getElem?_eq_some_iff.mp hpi).1
      have hpl15 := plc_size (t := r1.1)
      have t23 : TupSame H2 H3 := fun b xs h => hb3 b _ (fun e => by rw [e, hcl2] at h; cases h) h
      have hpz3 : PosAt H3 pp z := by obtain ⟨a, e, h⟩ := hpz; exact ⟨a, e, t23 _ _ h⟩
      have hx3 : RuleAt N H3 r1 (.ref a1) := rule_tupS (rule_same hx s12) t23
      have hy3 : RuleAt N H3 r2 y := rule_tupS (rule_same hy s12) t23
      refine ⟨_, rfl, (show 0 ≤ sizeLine by decide), fun e0 he0 => ?_⟩
      have s4' : Same H3 (upd H3 e0 (.tup [])) := same_new he0 _
      have hpz4 : PosAt (upd H3 e0 (.tup [])) pp z := by obtain ⟨a, e, h⟩ := hpz3; exact ⟨a, e, s4' _ _ h⟩
      have fin : ∀ H4 zs' cs' v5' v6', (∀ b o, b ≠ cl → upd H3 e0 (.tup []) b = some o → H4 b = some o) → H4 cl = some (.lst zs') → AllAt (RuleAt N H4) cs' zs' → zs'.length ≤ zs.length + 1 → PairsOk r1 r2 b (r1.1.plc.take i ++ [pp]) cs' → _ := fun H4 zs' cs' v5' v6' a1' a2' a3' a4' a5' =>
        (⟨zs', cs', some z, v5', v6', v7, rfl, fun b o nb h => a1' b o nb (s4' _ _ (hb3 b o nb h)), a2', a3', by omega, by rw [take_get hpi]; exact a5'⟩ : ∃ (zs : List V) (cs : List (Tm × Tm)) (w4 w5 w6 w7 : Option V), [some (V.ref a1), some y, some (natV b), some (V.ref cl), some z, v5', v6', v7] = [some (.ref a1), some y, some (natV b), some (.ref cl), w4, w5, w6, w7] ∧ (∀ b o, b ≠ cl → H2 b = some o → H4 b = some o) ∧ H4 cl = some (.lst zs) ∧ AllAt (RuleAt N H4) cs zs ∧ zs.length ≤ i + 1 ∧ PairsOk r1 r2 b (r1.1.plc.take (i + 1)) cs)
      refine ⟨pp, hpz4, ⟨e0, rfl, upd_same⟩, _, rfl, ?_⟩
      have hzl' : zs.length ≤ 1000 := by omega
      have hzs4 : AllAt (RuleAt N (upd H3 e0 (.tup []))) cs zs := AllAt.mono (fun e z h => rule_same h s4') hzs3
      by_cases hpe : pp = []
      · rw [decide_eq_true hpe]
        refine iteF ?_
        refine ⟨_, rfl, _, rfl, r1, r2, rule_same hx3 s4', rule_same hy3 s4', by omega, by omega, _, rfl, ?_⟩
        by_cases hrr : r1 = r2
        · rw [decide_eq_true hrr]
          refine iteF ?_
          refine ⟨zs, cs, _, _, _, _, rfl, fun b o nb h => s4' _ _ (hb3 b o nb h), s4' _ _ hcl3, hzs4, by omega, ?_⟩
          rw [take_get hpi]
          exact hok.skip fun h => h.2.elim (fun q => q hpe) fun q => q hrr
        · rw [decide_eq_false hrr]
          refine iteT ?_
          exact lp_body hB hby ⟨hpm, .inr hrr⟩ n1 n2 n3 n4 w1 w2 (rule_same hx3 s4') (rule_same hy3 s4') hpz4 (s4' _ _ hcl3) hzs4 hzl' hok fin
      · rw [decide_eq_false hpe]
        refine iteT ?_
        exact lp_body hB hby ⟨hpm, .inl hpe⟩ n1 n2 n3 n4 w1 w2 (rule_same hx3 s4') (rule_same hy3 s4') hpz4 (s4' _ _ hcl3) hzs4 hzl' hok fin
    · rintro σ H3 ⟨zs, cs, v4, v5, v6, v7, rfl, hb3, hcl3, hzs3, hzl, hok⟩
      rw [hPs.length, List.take_length] at hok
      exact ⟨_, rfl, q cl zs cs b H3 hclH (fun b o h => hb3 b o (fun e => by rw [e, hclH] at h; cases h) (s12 _ _ h)) hcl3 hzs3 hby hok⟩
end
end K78
end
section
set_option maxHeartbeats 4000000
namespace K78
open PySem PySem.Spec PyProof.Rows L2
/-! ### None in a list of forms -/
def FormAt (N : List Str) (H : Hp) (o : Option Tm) (z : V) : Prop := match o with
  | none => z = .non
  | some t => TmAt N H t z
def fmD (N : List Str) : Option Tm → PyData
  | none => .none
  | some t => tmD N t
section
variable {K : PySem.W.Frag} {N : List Str} {H : Hp}
theorem dp_fm : ∀ {o : Option Tm} {z : V}, FormAt N H o z → Dp K H z (fmD N o)
  | none, _, h => by cases h; exact .non
  | some t, _, h => dp_tm h
theorem FormAt.same {H' : Hp} : ∀ {o : Option Tm} {z : V}, FormAt N H o z → Same H H' → FormAt N H' o z
  | none, _, h, _ => h
  | some t, _, h, e => TmAt.same h e
theorem fm_lay (hN : NmOk N) : ∀ o : Option Tm, (fmD N o).canLay0 = true
  | none => by simp [fmD, PyData.canLay0]
  | some t => tmD_lay hN t
theorem fm_none : ∀ o : Option Tm, PyData.eqv (fmD N o) .none = o.isNone
  | none => by simp [fmD, PyData.eqv]
  | some t => by cases t <;> simp [fmD, tmD, PyData.eqv]
end
section
variable {X : Cx} {N : List Str}
def rInNone (N : List Str) : R2 := fun x y H Q => ∃ (a : Addr) (os : List (Option Tm)) (ys : List V), x = .non ∧ y = .ref a ∧ H a = some (.lst ys) ∧ AllAt (FormAt N H) os ys ∧ Q (.bl (os.any Option.isNone)) H
theorem op_inNone (hN : NmOk N) (hu : X.A.units + 200 < cLine) : OpR X (compareOp .In) (rInNone N) := by
  intro pins s σ H x y v u Q I rx ry ⟨a, os, ys, e1, e2, ha, hA, q⟩
  subst e1; subst e2
  obtain ⟨as, r1⟩ := Dp.reads I .none .non v (.non : Dp X.K H .non .none) rx
  obtain ⟨bs, r2⟩ := Dp.reads I (.list (os.map (fmD N))) (.ref a) u (.lst (SqL.of ha) (dp_all (fun _ _ h => dp_fm h) hA)) ry
  refine SeqAt.in_list_reads r2 r1 (lay_all (fm_lay hN) os) (by simp [PyData.canLay0]) ?_ ⟨.bl _, H, I, rfl, ?_⟩
  · have : PyData.depth .none = 0 := by simp [PyData.depth]
    omega
  · have e : ((os.map (fmD N)).any fun y => PyData.eqv y .none) = os.any Option.isNone := by
      rw [List.any_map]
      congr 1
      funext o
      exact fm_none o
    rw [e]; exact q
end
section
variable {P : Program} {w : World} {K : PySem.W.Frag} {mg : Str → Option Value} {base : Heap} {N : List Str}
theorem Safe.lax {R : List Rule} {b : Bool} {G : Tm → Prop} (h : Safe R b G) : Safe R false G := ⟨h.nest, h.size, fun e => (by cases e), h.next⟩
def spLNf1 (N : List Str) : Sp := fun vs H Q _ => ∃ (R : List Rule) (t : Tm) (l : Addr) (x : V) (G : Tm → Prop), vs = [.ref l, x] ∧ RulesAt N H l R ∧ TmAt N H t x ∧ RB R ∧ Safe R false G ∧ G t ∧ ∀ z H', Same H H' → FormAt N H' (nf R 400 t) z → Q z H'
theorem lnf1 (G : OkD P w K mg base 114 "_law_normal_form" ["_law_rules_here", "_law_term_here"] (spLNf N)) : OkD P w K mg base 114 "_law_normal_form" ["_law_rules_here", "_law_term_here"] (spLNf1 N) := G.imp fun vs H Q E ⟨R, t, l, x, Gs, e1, hR, ht, hB, hS, hG, q⟩ =>
  ⟨R, t, l, x, Gs, e1, hR, ht, hB, hS, hG, fun z u H' s e hz => q z H' s (by rw [e]; exact hz), fun H' s e => q .non H' s (by rw [e]; rfl)⟩
def spLJ (N : List Str) : Sp := fun vs H Q _ => ∃ (rl : Addr) (R : List Rule), vs = [.ref rl] ∧ RulesAt N H rl R ∧ (∀ r, r ∈ R → r.1.nest ≤ 4 ∧ r.2.nest ≤ 4 ∧ V2 r) ∧ RB R ∧ (∀ r1 r2, r1 ∈ R → r2 ∈ R → CPB r1 r2) ∧ CPNf R ∧
  (∀ H', Same H H' → (∀ r1 r2, r1 ∈ R → r2 ∈ R → PairsAre R r1 r2 true) → Q (.bl true) H') ∧ (∀ H', Same H H' → (∃ r1 r2, r1 ∈ R ∧ r2 ∈ R ∧ PairsAre R r1 r2 false) → Q (.bl false) H') ∧ (∀ H', Same H H' → Q .non H')
theorem ok_lj (hN : NmOk N) (D : DF K mg "_law_joins" s_law_joins ["_law_rules_here"]) (G1 : OkD P w K mg base 66 "_law_pairs" ["_law_first", "_law_second"] (spLPs N)) (G2 : OkD P w K mg base 114 "_law_normal_form" ["_law_rules_here", "_law_term_here"] (spLNf1 N)) : OkD P w K mg base 115 "_law_joins" ["_law_rules_here"] (spLJ N) := by
  refine D.ok (k := 114) sc_law_joins (fun vs H Q E h => ?_) (fun f cdv A outer s H vs Q E hr h => ?_)
  · obtain ⟨rl, R, rfl, _⟩ := h
    rfl
  obtain ⟨rl, R, rfl, hR, h4, hRB, hCPB, hNf, qT, qF, qN⟩ := h
  obtain ⟨f1, fd1, m1, k1, b1, F1, _⟩ := G1
  obtain ⟨f2, fd2, m2, k2, b2, F2, _⟩ := G2
  have nd := sc_law_joins.nd
  refine ⟨_, pss_cons (ps_for PassesOwn.never rfl (pi_list (pv 0)) (pg_name (i := 1) nd rfl (.inl rfl))
      (pss_one (ps_for PassesOwn.never rfl (pi_list (pv 0)) (pg_name (i := 2) nd rfl (.inl rfl))
        (pss_one (ps_for PassesOwn.never rfl (pi_list (pe_call F1 (hr.mono (by decide)) rfl m1 k1 b1 .nil pass0 (pa_cons (pv 1) (pa_cons (pv 2) pa_nil)))) (pg_name (i := 3) nd rfl (.inl rfl))
          (pss_cons (ps_set (i := 4) nd rfl (Or.inl rfl) (pe_lst (pa_cons (pe_call F2 hr rfl m2 k2 b2 .nil pass0 (pa_cons (pv 0) (pa_cons (pe_ix ix_tup (pv 3) pe_int (fun _ _ => rfl)) pa_nil))) (pa_cons (pe_call F2 hr rfl m2 k2 b2 .nil pass0 (pa_cons (pv 0) (pa_cons (pe_ix ix_tup (pv 3) pe_int (fun _ _ => rfl)) pa_nil))) pa_nil))))
          (pss_cons (ps_if (pt_cmpR (op_inNone hN (hu2 hr)) pe_non (pv 4) (by rfl)) (pss_one (ps_ret pe_non)) pss_nil)
          (pss_one (ps_if (pt_cmpR (op_neTm hN (hu2 hr)) (pe_ix ix_list (pv 4) pe_int (fun _ _ => rfl)) (pe_ix ix_list (pv 4) pe_int (fun _ _ => rfl)) (nomark _)) (pss_one (ps_ret pe_bl)) pss_nil)))))))))
    (pss_one (ps_ret pe_bl)), ?_⟩
  obtain ⟨ys, hl, hys⟩ := id hR
  refine ⟨_, rfl, rl, rfl, ⟨_, SqL.of hl⟩, ?_⟩
  refine for_list (K := K) (a := rl) (xs := ys) (fun i σ H2 => ∃ (v1 v2 v3 v4 : Option V), σ = [some (.ref rl), v1, v2, v3, v4] ∧ Same H H2 ∧ ∀ r1 r2, r1 ∈ R.take i → r2 ∈ R → PairsAre R r1 r2 true) ?_ ?_ ?_ ?_
  · exact ⟨none, none, none, none, rfl, Same.refl H, fun r1 r2 h => by cases h⟩
  · rintro i σ H2 _ ⟨v1, v2, v3, v4, _, s2, _⟩
    exact SqL.of (s2 _ _ hl)
  · rintro i z σ H2 hi ⟨v1, v2, v3, v4, rfl, s2, hP⟩
    obtain ⟨r1, hri, hz⟩ := hys.get hi
    have hrm := List.mem_of_getElem? hri
    refine ⟨_, rfl, rl, rfl, ⟨_, SqL.of (s2 _ _ hl)⟩, ?_⟩
    refine for_list (K := K) (a := rl) (xs := ys) (fun j σ H3 => ∃ (v2 v3 v4 : Option V), σ = [some (.ref rl), some z, v2, v3, v4] ∧ Same H H3 ∧ ∀ r2, r2 ∈ R.take j → PairsAre R r1 r2 true) ?_ ?_ ?_ ?_
    · exact ⟨v2, v3, v4, rfl, s2, fun r2 h => by cases h⟩
    · rintro j σ H3 _ ⟨v2, v3, v4, _, s3, _⟩
      exact SqL.of (s3 _ _ hl)
    · rintro j z2 σ H3 hj ⟨v2', v3', v4', rfl, s3, hP2⟩
      obtain ⟨r2, hrj, hz2⟩ := hys.get hj
      have hrm2 := List.mem_of_getElem? hrj
      obtain ⟨a1, a2, a3⟩ := h4 r1 hrm
      obtain ⟨c1, c2, c3⟩ := h4 r2 hrm2
      refine ⟨_, rfl, _, rfl, r1, r2, z, z2, rfl, rule_same hz s3, rule_same hz2 s3, a1, a2, c1, c2, a3, c3, hCPB r1 r2 hrm hrm2, fun pl zs cs b H4 hpl s4 hpl4 hcs hby hok => ?_⟩
      have s34 := s3.trans s4
      refine ⟨pl, rfl, ⟨_, SqL.of hpl4⟩, ?_⟩
      refine for_list (K := K) (a := pl) (xs := zs) (fun k σ H5 => ∃ (v3 v4 : Option V), σ = [some (.ref rl), some z, some z2, v3, v4] ∧ Same H4 H5 ∧ ∀ e, e ∈ cs.take k → NFEq R e) ?_ ?_ ?_ ?_
      · exact ⟨v3', v4', rfl, Same.refl H4, fun e h => by cases h⟩
      · rintro k σ H5 _ ⟨v3, v4, _, s5, _⟩
        exact SqL.of (s5 _ _ hpl4)
      · rintro k ze σ H5 hk ⟨v3, v4, rfl, s5, hE⟩
        obtain ⟨e, he, a, xa, xb, rfl, ha, hxa, hxb⟩ := hcs.get hk
        have hem := List.mem_of_getElem? he
        obtain ⟨p, σm, hpp, hcp, hm, ee⟩ := hok.of e hem
        obtain ⟨sm1, sm2⟩ := hok.small e hem
        rw [ee] at sm1 sm2
        obtain ⟨Gs, k1', k2', u1, u2, hS, g1, g2, _, _⟩ := hNf r1 r2 hrm hrm2 b p σm hby hcp hm sm1 sm2
        rw [← ee] at g1 g2
        have s45 := s34.trans s5
        refine ⟨_, rfl, _, rfl, a, _, 0, xa, rfl, rfl, SqT.of (s5 _ _ ha), atI_nat (j := 0) rfl, R, e.1, rl, xa, Gs, rfl, hR.same s45, hxa.same s5, hRB, hS.lax, g1, fun z1 H6 s6 f1 => ?_⟩
        refine ⟨_, rfl, _, rfl, a, _, 1, xb, rfl, rfl, SqT.of (s6 _ _ (s5 _ _ ha)), atI_nat (j := 1) rfl, R, e.2, rl, xb, Gs, rfl, (hR.same s45).same s6, (hxb.same s5).same s6, hRB, hS.lax, g2, fun z2' H7 s7 f2 => ?_⟩
        refine ⟨(show 2 ≤ sizeLine by decide), fun fl hfl => ?_⟩
        have s8 : Same H7 (upd H7 fl (.lst [z1, z2'])) := same_new hfl _
        have hfl8 : upd H7 fl (.lst [z1, z2']) fl = some (.lst [z1, z2']) := upd_same
        have s58 : Same H5 (upd H7 fl (.lst [z1, z2'])) := s6.trans (s7.trans s8)
        have f1' := (f1.same s7).same s8
        have f2' := f2.same s8
        generalize upd H7 fl (.lst [z1, z2']) = H8 at s58 f1' f2' hfl8
        refine ⟨_, rfl, fl, [nf R 400 e.1, nf R 400 e.2], _, rfl, rfl, hfl8, ⟨z1, _, rfl, f1', z2', [], rfl, f2', rfl⟩, _, rfl, ?_⟩
        cases e1 : nf R 400 e.1 with
        | none =>
          refine iteT ?_
          exact qN H8 (s45.trans s58)
        | some u1' =>
          cases e2 : nf R 400 e.2 with
          | none =>
            refine iteT ?_
            exact qN H8 (s45.trans s58)
          | some u2' =>
            refine iteF ?_
            rw [e1] at f1'
            rw [e2] at f2'
            have hn1 := hS.nest _ (hS.nf g1 e1)
            refine ⟨_, rfl, fl, _, 0, z1, rfl, rfl, SqL.of hfl8, atI_nat (j := 0) rfl, _, rfl, fl, _, 1, z2', rfl, rfl, SqL.of hfl8, atI_nat (j := 1) rfl, u1', u2', f1', f2', by omega, _, rfl, ?_⟩
            by_cases hu : u1' = u2'
            · rw [decide_eq_true hu]
              refine iteF ?_
              refine ⟨_, _, rfl, s5.trans s58, fun e' he' => ?_⟩
              rw [take_get he] at he'
              rcases List.mem_append.mp he' with h | h
              · exact hE e' h
              · rw [List.mem_singleton.mp h]
                exact (nfEq_iff e1 e2).mpr hu
            · rw [decide_eq_false hu]
              refine iteT ?_
              exact qF H8 (s45.trans s58) ⟨r1, r2, hrm, hrm2, b, cs, hby, hok, fun h => (by cases h), fun _ => ⟨e, hem, fun h => hu ((nfEq_iff e1 e2).mp h)⟩⟩
      · rintro σ H5 ⟨v3, v4, rfl, s5, hE⟩
        rw [hcs.length, List.take_length] at hE
        refine ⟨_, _, _, rfl, s34.trans s5, fun r2' hr2' => ?_⟩
        rw [take_get hrj] at hr2'
        rcases List.mem_append.mp hr2' with h | h
        · exact hP2 r2' h
        · rw [List.mem_singleton.mp h]
          exact ⟨b, cs, hby, hok, fun _ => hE, fun h => by cases h⟩
    · rintro σ H3 ⟨v2', v3', v4', rfl, s3, hP2⟩
      rw [hys.length, List.take_length] at hP2
      refine ⟨_, _, _, _, rfl, s3, fun r1' r2' hr1 hr2 => ?_⟩
      rw [take_get hri] at hr1
      rcases List.mem_append.mp hr1 with h | h
      · exact hP r1' r2' h hr2
      · rw [List.mem_singleton.mp h]; exact hP2 r2' hr2
  · rintro σ H2 ⟨v1, v2, v3, v4, rfl, s2, hP⟩
    rw [hys.length, List.take_length] at hP
    exact qT H2 s2 hP
end
end K78
end
section
set_option maxHeartbeats 4000000
namespace K78
open PySem PySem.Spec PyProof.Rows L2
/-! ### the deck -/
def DeckAt (H : Hp) (dk sl : Addr) : Prop := ∃ (ns : List Int) (a b c : Int), H dk = some (.lst [.ref sl, .int a, .int b, .int c]) ∧ H sl = some (.lst (ns.map V.int)) ∧ sl ≠ dk ∧ 0 ≤ a
/-- all but the deck stands -/
def ButD (dk : Addr) (H H' : Hp) : Prop := ∀ b o, b ≠ dk → H b = some o → H' b = some o
theorem ButD.refl (dk : Addr) (H : Hp) : ButD dk H H := fun _ _ _ h => h
theorem ButD.trans {dk : Addr} {H H1 H2 : Hp} (a : ButD dk H H1) (b : ButD dk H1 H2) : ButD dk H H2 := fun x o n h => b x o n (a x o n h)
theorem ButD.of {dk : Addr} {H H1 : Hp} (a : Same H H1) : ButD dk H H1 := fun x o _ h => a x o h
theorem DeckAt.tup {H H' : Hp} {dk sl : Addr} (h : DeckAt H dk sl) (e : ButD dk H H') : TupSame H H' := by
  obtain ⟨ns, a, b, c, h1, _⟩ := h
  exact fun x xs hx => e x _ (fun z => by subst z; rw [h1] at hx; cases hx) hx
theorem DeckAt.same {H H' : Hp} {dk sl : Addr} (h : DeckAt H dk sl) (e : Same H H') : DeckAt H' dk sl := by
  obtain ⟨ns, a, b, c, h1, h2, h3, h4⟩ := h
  exact ⟨ns, a, b, c, e _ _ h1, e _ _ h2, h3, h4⟩
section
variable {P : Program} {w : World} {K : PySem.W.Frag} {mg : Str → Option Value} {base : Heap} {N : List Str}
def spDraw : Sp := fun vs H Q _ => ∃ (dk sl : Addr) (most : Nat), vs = [.ref dk, natV most] ∧ DeckAt H dk sl ∧ 0 < most ∧ most < 1000000 ∧ ∀ n H', n < most → ButD dk H H' → DeckAt H' dk sl → Q (natV n) H'
def rInt1 : List V → Hp → VK → Prop := fun xs H Q => (∃ i, xs = [.int i] ∧ Q (.int i) H) ∨ ∃ k, xs = [.bl k] ∧ Q (.int (if k then 1 else 0)) H
def rMd : R2 := rI (fun _ j => 0 < j) fun i j => .int (i % j)
def rFd : R2 := rI CDiv fun i j => .int (i / j)
def rMl : R2 := rI CMul fun i j => .int (i * j)
def rAd : R2 := rI0 fun i j => .int (i + j)
/-- the last part of a draw -/
def tDrawR (K : PySem.W.Frag) : TS := tSeq (tAsg (tOp rAd (tOp (rIxL K) (tVar 0) (tC (V.int 1))) (tC (V.int 1))) (gSub (tVar 0) (tC (V.int 1)) rSetL)) (tSeq (tAsg (tC (V.int 0)) (gSub (tVar 0) (tC (V.int 2)) rSetL))
  (tSeq (tIfS (tTest (tOp (rI0 fun i j => V.bl (decide (j ≤ i))) (tVar 3) (tOp (rI CPow fun i j => V.int (i ^ j.toNat)) (tC (V.int 10)) (tC (V.int 18))))) (tSeq (tAsg (tOp rFd (tVar 3) (tVar 1)) (gSub (tVar 0) (tC (V.int 2)) rSetL)) (tRet (tOp rMd (tCB rInt1 (tCons (tVar 3) tNil)) (tVar 1)))) tNext)
  (tSeq (tAsg (tOp rMd (tCB rInt1 (tCons (tOp rAd (tOp rAd (tOp rMl (tOp (rIxL K) (tVar 0) (tC (V.int 3))) (tC (V.int 48271))) (tOp rMl (tVar 3) (tC (V.int 69621)))) (tOp rMl (tOp (rIxL K) (tVar 0) (tC (V.int 1))) (tC (V.int 911)))) tNil)) (tC (V.int 2147483647))) (gSub (tVar 0) (tC (V.int 3)) rSetL))
  (tSeq (tAsg (tOp rMd (tCB rInt1 (tCons (tOp rAd (tOp rMl (tOp (rIxL K) (tVar 0) (tC (V.int 3))) (tC (V.int 48271))) (tC (V.int 12345))) tNil)) (tC (V.int 2147483647))) (gSub (tVar 0) (tC (V.int 3)) rSetL))
  (tRet (tOp rMd (tCB rInt1 (tCons (tOp rFd (tOp (rIxL K) (tVar 0) (tC (V.int 3))) (tC (V.int 64))) tNil)) (tVar 1)))))))
theorem cmul_r {i j : Int} (h1 : -(2 ^ 64) < j) (h2 : j < 2 ^ 64) : CMul i j := .inr ⟨h1, h2⟩
theorem draw_rest {De : Ends} {H : Hp} {dk sl : Addr} {ns : List Int} {a b c cv : Int} {most : Nat} {v2 : Option V} (hdk : H dk = some (.lst [.ref sl, .int a, .int b, .int c])) (hsl : H sl = some (.lst (ns.map V.int))) (hne : sl ≠ dk) (ha : 0 ≤ a) (h0 : 0 < most) (hm : most < 1000000)
    (fin : ∀ (v : Int) (H' : Hp), ButD dk H H' → DeckAt H' dk sl → De.rt (.int (v % (most : Int))) H') : tDrawR K De [some (.ref dk), some (natV most), v2, some (.int cv)] H := by
  have hm0 : (0 : Int) < (most : Int) := by omega
  have hm1 : (most : Int) < 1073741824 := by omega
  have bw : ∀ {H1 : Hp} {o : HO}, ButD dk H H1 → ButD dk H (upd H1 dk o) := fun {H1 o} h b o' nb hb => by rw [upd_ne nb]; exact h b o' nb hb
  have i1 : ixN 4 (1 : Int) = some 1 := by decide
  have i2 : ixN 4 (2 : Int) = some 2 := by decide
  have i3 : ixN 4 (3 : Int) = some 3 := by decide
  refine ⟨_, rfl, dk, _, 1, .int a, rfl, rfl, SqL.of hdk, atI_nat (j := 1) rfl, a, 1, rfl, rfl, _, rfl, dk, _, 1, 1, rfl, rfl, hdk, i1, ?_⟩
  have b1 : ButD dk H (upd H dk (.lst [.ref sl, .int (a + 1), .int b, .int c])) := bw (ButD.refl dk H)
  have d1 : upd H dk (.lst [.ref sl, .int (a + 1), .int b, .int c]) dk = some (.lst [.ref sl, .int (a + 1), .int b, .int c]) := upd_same
  refine ⟨_, rfl, dk, _, 2, 2, rfl, rfl, d1, i2, ?_⟩
  have b2 := bw (o := .lst [.ref sl, .int (a + 1), .int 0, .int c]) b1
  have d2 : upd (upd H dk (.lst [.ref sl, .int (a + 1), .int b, .int c])) dk (.lst [.ref sl, .int (a + 1), .int 0, .int c]) dk = some (.lst [.ref sl, .int (a + 1), .int 0, .int c]) := upd_same
  have hH2 : ∃ H2, H2 = upd (upd H dk (.lst [.ref sl, .int (a + 1), .int b, .int c])) dk (.lst [.ref sl, .int (a + 1), .int 0, .int c]) := ⟨_, rfl⟩
  obtain ⟨H2, eH2⟩ := hH2
  rw [← eH2] at b2 d2
  show tSeq _ _ _ _ (upd (upd H dk (.lst [.ref sl, .int (a + 1), .int b, .int c])) dk (.lst [.ref sl, .int (a + 1), .int 0, .int c]))
  rw [← eH2]
  have hs2 := b2 _ _ hne hsl
  refine ⟨_, rfl, 10, 18, rfl, rfl, ⟨by decide, by decide, by decide⟩, _, _, rfl, rfl, _, rfl, ?_⟩
  by_cases hbig : (10 : Int) ^ (18 : Int).toNat ≤ cv
  · rw [decide_eq_true hbig]
    refine iteT ?_
    refine ⟨_, rfl, _, rfl, cv, (most : Int), rfl, rfl, ⟨hm0, hm1⟩, _, rfl, dk, _, 2, 2, rfl, rfl, d2, i2, ?_⟩
    have b3 := bw (o := .lst [.ref sl, .int (a + 1), .int (cv / (most : Int)), .int c]) b2
    refine ⟨_, rfl, .inl ⟨cv, rfl, _, rfl, _, _, rfl, rfl, hm0, ?_⟩⟩
    exact fin cv _ b3 ⟨ns, a + 1, cv / (most : Int), c, upd_same, b3 _ _ hne hsl, hne, by omega⟩
  · rw [decide_eq_false hbig]
    refine iteF ?_
    refine ⟨_, rfl, dk, _, 3, .int c, rfl, rfl, SqL.of d2, atI_nat (j := 3) rfl, _, _, rfl, rfl, cmul_r (by decide) (by decide), _, rfl, _, _, rfl, rfl, cmul_r (by decide) (by decide), _, _, rfl, rfl, _, rfl, dk, _, 1, .int (a + 1), rfl, rfl, SqL.of d2, atI_nat (j := 1) rfl, _, _, rfl, rfl, cmul_r (by decide) (by decide), _, _, rfl, rfl, .inl ⟨_, rfl, _, _, rfl, rfl, (show (0 : Int) < 2147483647 by decide), _, rfl, dk, _, 3, 3, rfl, rfl, d2, i3, ?_⟩⟩
    have b3 := bw (o := .lst [.ref sl, .int (a + 1), .int 0, .int ((c * 48271 + cv * 69621 + (a + 1) * 911) % 2147483647)]) b2
    have d3 : upd H2 dk (.lst [.ref sl, .int (a + 1), .int 0, .int ((c * 48271 + cv * 69621 + (a + 1) * 911) % 2147483647)]) dk = some (.lst [.ref sl, .int (a + 1), .int 0, .int ((c * 48271 + cv * 69621 + (a + 1) * 911) % 2147483647)]) := upd_same
    refine ⟨_, rfl, dk, _, 3, _, rfl, rfl, SqL.of d3, atI_nat (j := 3) rfl, _, _, rfl, rfl, cmul_r (by decide) (by decide), _, _, rfl, rfl, .inl ⟨_, rfl, _, _, rfl, rfl, (show (0 : Int) < 2147483647 by decide), _, rfl, dk, _, 3, 3, rfl, rfl, d3, i3, ?_⟩⟩
    have b4 := bw (o := .lst [.ref sl, .int (a + 1), .int 0, .int ((((c * 48271 + cv * 69621 + (a + 1) * 911) % 2147483647) * 48271 + 12345) % 2147483647)]) b3
    refine ⟨_, rfl, dk, _, 3, _, rfl, rfl, SqL.of upd_same, atI_nat (j := 3) rfl, _, _, rfl, rfl, ⟨by decide, by decide⟩, .inl ⟨_, rfl, _, rfl, _, _, rfl, rfl, hm0, ?_⟩⟩
    exact fin _ _ b4 ⟨ns, a + 1, 0, _, upd_same, b4 _ _ hne hsl, hne, by omega⟩
theorem ok_draw (z1 : mg "int" = none) (z2 : mg "len" = none) (D : DF K mg "_law_draw" s_law_draw ["_law_deck_here", "_law_most"]) : OkD P w K mg base 1 "_law_draw" ["_law_deck_here", "_law_most"] spDraw := by
  refine D.ok (k := 0) sc_law_draw (fun vs H Q E h => ?_) (fun f cdv A outer s H vs Q E hr h => ?_)
  · obtain ⟨dk, sl, most, rfl, _⟩ := h
    rfl
  obtain ⟨dk, sl, most, rfl, ⟨ns, a, b, c, hdk, hsl, hne, ha⟩, h0, hm, q⟩ := h
  have nd := sc_law_draw.nd
  refine ⟨_, pss_cons (ps_if (pt_cmpR op_ge (pe_ix ix_list (pv 0) pe_int (fun _ _ => rfl)) (pv 1) (nomark _))
      (pss_cons (ps_set (i := 2) nd rfl (Or.inl rfl) (pe_op op_mod (pe_callTy call_int1 (by rfl) z1 (by decide +kernel) (pa_cons (pe_ix ix_list (pv 0) pe_int (fun _ _ => rfl)) pa_nil)) (pv 1)))
      (pss_cons (ps_asg (pe_op op_fdiv (pe_ix ix_list (pv 0) pe_int (fun _ _ => rfl)) (pv 1)) (pg_sub (pv 0) pe_int set_list))
      (pss_one (ps_ret (pv 2))))) pss_nil)
    (pss_cons (ps_set (i := 3) nd rfl (Or.inl rfl) pe_int)
    (pss_cons (ps_if (pt_cmpR op_lt (pe_ix ix_list (pv 0) pe_int (fun _ _ => rfl)) (pe_callB call_len_seq (by rfl) z2 PySem.boot_len (pa_cons (pe_ix ix_list (pv 0) pe_int (fun _ _ => rfl)) pa_nil)) (nomark _))
      (pss_one (ps_set (i := 3) nd rfl (Or.inl rfl) (pe_ix ix_list (pe_ix ix_list (pv 0) pe_int (fun _ _ => rfl)) (pe_ix ix_list (pv 0) pe_int (fun _ _ => rfl)) (fun _ _ => rfl)))) pss_nil)
    (pss_cons (ps_asg (pe_op op_add (pe_ix ix_list (pv 0) pe_int (fun _ _ => rfl)) pe_int) (pg_sub (pv 0) pe_int set_list))
    (pss_cons (ps_asg pe_int (pg_sub (pv 0) pe_int set_list))
    (pss_cons (ps_if (pt_cmpR op_ge (pv 3) (pe_op op_pow pe_int pe_int) (nomark _))
      (pss_cons (ps_asg (pe_op op_fdiv (pv 3) (pv 1)) (pg_sub (pv 0) pe_int set_list))
      (pss_one (ps_ret (pe_op op_mod (pe_callTy call_int1 (by rfl) z1 (by decide +kernel) (pa_cons (pv 3) pa_nil)) (pv 1))))) pss_nil)
    (pss_cons (ps_asg (pe_op op_mod (pe_callTy call_int1 (by rfl) z1 (by decide +kernel) (pa_cons (pe_op op_add (pe_op op_add (pe_op op_mul (pe_ix ix_list (pv 0) pe_int (fun _ _ => rfl)) pe_int) (pe_op op_mul (pv 3) pe_int)) (pe_op op_mul (pe_ix ix_list (pv 0) pe_int (fun _ _ => rfl)) pe_int)) pa_nil)) pe_int) (pg_sub (pv 0) pe_int set_list))
    (pss_cons (ps_asg (pe_op op_mod (pe_callTy call_int1 (by rfl) z1 (by decide +kernel) (pa_cons (pe_op op_add (pe_op op_mul (pe_ix ix_list (pv 0) pe_int (fun _ _ => rfl)) pe_int) pe_int) pa_nil)) pe_int) (pg_sub (pv 0) pe_int set_list))
    (pss_one (ps_ret (pe_op op_mod (pe_callTy call_int1 (by rfl) z1 (by decide +kernel) (pa_cons (pe_op op_fdiv (pe_ix ix_list (pv 0) pe_int (fun _ _ => rfl)) pe_int) pa_nil)) (pv 1))))))))))), ?_⟩
  have hm0 : (0 : Int) < (most : Int) := by omega
  have hm1 : (most : Int) < 1073741824 := by omega
  have fin : ∀ (v : Int) (H' : Hp), ButD dk H H' → DeckAt H' dk sl → Q (.int (v % (most : Int))) H' := fun v H' hb hd => by
    have h1 := Int.emod_nonneg v (b := (most : Int)) (by omega)
    have h2 := Int.emod_lt_of_pos v hm0
    have e : v % (most : Int) = ((v % (most : Int)).toNat : Int) := (Int.toNat_of_nonneg h1).symm
    rw [e]
    exact q _ H' (by omega) hb hd
  have r0 : atI [V.ref sl, V.int a, V.int b, V.int c] 0 = some (.ref sl) := atI_nat (j := 0) rfl
  have bw : ∀ {H1 : Hp} {o : HO}, ButD dk H H1 → ButD dk H (upd H1 dk o) := fun {H1 o} h b o' nb hb => by rw [upd_ne nb]; exact h b o' nb hb
  refine ⟨_, rfl, dk, _, 2, .int b, rfl, rfl, SqL.of hdk, atI_nat (j := 2) rfl, _, rfl, _, _, rfl, rfl, _, rfl, ?_⟩
  by_cases hge : (most : Int) ≤ b
  · rw [decide_eq_true hge]
    refine iteT ?_
    refine ⟨_, rfl, dk, _, 2, .int b, rfl, rfl, SqL.of hdk, atI_nat (j := 2) rfl, .inl ⟨b, rfl, _, rfl, _, _, rfl, rfl, hm0, ?_⟩⟩
    refine ⟨_, rfl, dk, _, 2, .int b, rfl, rfl, SqL.of hdk, atI_nat (j := 2) rfl, _, rfl, b, (most : Int), rfl, rfl, ⟨hm0, hm1⟩, _, rfl, dk, _, 2, 2, rfl, rfl, hdk, (show ixN 4 (2 : Int) = some 2 by decide), ?_⟩
    have b1 : ButD dk H (upd H dk (.lst [.ref sl, .int a, .int (b / (most : Int)), .int c])) := bw (ButD.refl dk H)
    exact ⟨_, rfl, fin b _ b1 ⟨ns, a, b / (most : Int), c, upd_same, b1 _ _ hne hsl, hne, ha⟩⟩
  · rw [decide_eq_false hge]
    refine iteF ?_
    refine ⟨_, rfl, dk, _, 1, .int a, rfl, rfl, SqL.of hdk, atI_nat (j := 1) rfl, _, rfl, dk, _, 0, .ref sl, rfl, rfl, SqL.of hdk, atI_nat (j := 0) rfl, sl, _, rfl, .inl (SqL.of hsl), a, _, rfl, rfl, _, rfl, ?_⟩
    by_cases hlt : a < ((ns.map V.int).length : Int)
    · rw [decide_eq_true hlt]
      refine iteT ?_
      obtain ⟨k, rfl⟩ : ∃ k : Nat, a = (k : Int) := ⟨a.toNat, (Int.toNat_of_nonneg ha).symm⟩
      rw [List.length_map] at hlt
      have hk : k < ns.length := by omega
      have hg : (ns.map V.int)[k]? = some (.int (ns[k]'hk)) := by rw [List.getElem?_map, List.getElem?_eq_getElem hk]; rfl
      refine ⟨_, rfl, dk, _, 0, .ref sl, rfl, rfl, SqL.of hdk, atI_nat (j := 0) rfl, _, rfl, dk, _, 1, .int (k : Int), rfl, rfl, SqL.of hdk, atI_nat (j := 1) rfl, sl, _, (k : Int), _, rfl, rfl, SqL.of hsl, at_of (j := k) rfl hg, ?_⟩
      exact draw_rest hdk hsl hne ha h0 hm fin
    · rw [decide_eq_false hlt]
      refine iteF ?_
      exact draw_rest hdk hsl hne ha h0 hm fin
end
end K78
end
section
set_option maxHeartbeats 4000000
namespace K78
open PySem PySem.Spec PyProof.Rows L2
/-- the menus of names -/
def menus : List (List Str) := [["a", "b", "c", "f", "g", "p", "q"], ["c", "a", "b", "g", "f", "q", "p"], ["k1", "zero", "aB_", "suc", "mul", "big", "at0"], ["a", "aa", "aaa", "f1", "f10", "p", "pp"]]
/-- what is known of a menu -/
structure Menu (N : List Str) : Prop where
  ok : NmOk N
  nt : NoTrue N
  len : N.length = 7
  nd : N.Nodup
  no : ∀ a, a ∈ N → a ≠ ("true" : Str)
theorem inj5 {N : List Str} (h : ∀ i, i < 5 → ∀ j, j < 5 → N.getD i "" = N.getD j "" → i = j) : ∀ i j, i < 5 → j < 5 → N.getD i "" = N.getD j "" → i = j := fun i j a b => h i a j b
theorem menu_of : ∀ N, N ∈ menus → Menu N := fun N h => by
  simp only [menus, List.mem_cons, List.not_mem_nil, or_false] at h
  rcases h with rfl | rfl | rfl | rfl <;> exact ⟨⟨inj5 (by decide +kernel), by decide +kernel⟩, (by unfold NoTrue; decide +kernel), rfl, by decide +kernel, by decide +kernel⟩
section
variable {P : Program} {w : World} {K : PySem.W.Frag} {mg : Str → Option Value} {base : Heap} {N : List Str}
def spDeck (K : PySem.W.Frag) : Sp := fun vs H Q _ => ∃ (sc : Addr) (ns : List Int), vs = [.ref sc] ∧ SqL K H sc (ns.map V.int) ∧ ∀ dk sl H', H dk = none → Same H H' → DeckAt H' dk sl → Q (.ref dk) H'
theorem ok_deck (z1 : mg "list" = none) (D : DF K mg "_law_deck" s_law_deck ["_law_script"]) : OkD P w K mg base 1 "_law_deck" ["_law_script"] (spDeck K) := by
  refine D.ok (k := 0) sc_law_deck (fun vs H Q E h => ?_) (fun f cdv A outer s H vs Q E hr h => ?_)
  · obtain ⟨sc, ns, rfl, _⟩ := h
    rfl
  obtain ⟨sc, ns, rfl, hs, q⟩ := h
  refine ⟨_, pss_one (ps_ret (pe_lst (pa_cons (pe_callTy call_list_of (by rfl) z1 (by decide +kernel) (pa_cons (pv 0) pa_nil)) (pa_cons pe_int (pa_cons pe_int (pa_cons pe_int pa_nil)))))), ?_⟩
  refine ⟨_, rfl, sc, _, rfl, .inl hs, fun l hl => ⟨(show 4 ≤ sizeLine by decide), fun dk hdk => ?_⟩⟩
  have s1 : Same H (upd H l (.lst (ns.map V.int))) := same_new hl _
  have hld : l ≠ dk := ne_of_none upd_same hdk
  refine q dk l _ ?_ (s1.trans (same_new hdk _)) ⟨ns, 0, 0, 7, upd_same, kp hld upd_same _, hld, by decide⟩
  cases h : H dk with
  | none => rfl
  | some v => rw [s1 _ _ h] at hdk; cases hdk
/-! ### _law_names -/
def spNames : Sp := fun vs H Q _ => ∃ (dk sl : Addr), vs = [.ref dk] ∧ DeckAt H dk sl ∧ ∀ N nl H', ButD dk H H' → DeckAt H' dk sl → N ∈ menus → H nl = none → H' nl = some (.lst (N.map V.str)) → Q (.ref nl) H'
theorem ok_names (z1 : mg "list" = none) (D : DF K mg "_law_names" s_law_names ["_law_deck_here"]) (G1 : OkD P w K mg base 1 "_law_draw" ["_law_deck_here", "_law_most"] spDraw) : OkD P w K mg base 2 "_law_names" ["_law_deck_here"] spNames := by
  refine D.ok (k := 1) sc_law_names (fun vs H Q E h => ?_) (fun f cdv A outer s H vs Q E hr h => ?_)
  · obtain ⟨dk, sl, rfl, _⟩ := h
    rfl
  obtain ⟨dk, sl, rfl, hdk, q⟩ := h
  obtain ⟨f1, fd1, m1, k1, b1, F1, _⟩ := G1
  have nd := sc_law_names.nd
  refine ⟨_, pss_cons (ps_set (i := 1) nd rfl (Or.inl rfl) (pe_lst (pa_cons (pe_lst (pa_cons pe_str (pa_cons pe_str (pa_cons pe_str (pa_cons pe_str (pa_cons pe_str (pa_cons pe_str (pa_cons pe_str pa_nil))))))))
      (pa_cons (pe_lst (pa_cons pe_str (pa_cons pe_str (pa_cons pe_str (pa_cons pe_str (pa_cons pe_str (pa_cons pe_str (pa_cons pe_str pa_nil))))))))
      (pa_cons (pe_lst (pa_cons pe_str (pa_cons pe_str (pa_cons pe_str (pa_cons pe_str (pa_cons pe_str (pa_cons pe_str (pa_cons pe_str pa_nil))))))))
      (pa_cons (pe_lst (pa_cons pe_str (pa_cons pe_str (pa_cons pe_str (pa_cons pe_str (pa_cons pe_str (pa_cons pe_str (pa_cons pe_str pa_nil)))))))) pa_nil))))))
    (pss_one (ps_ret (pe_callTy call_list_of (by rfl) z1 (by decide +kernel) (pa_cons (pe_ix ix_list (pv 1) (pe_call F1 hr rfl m1 k1 b1 .nil pass0 (pa_cons (pv 0) (pa_cons pe_int pa_nil))) (fun _ _ => rfl)) pa_nil)))), ?_⟩
  have z7 : 7 ≤ sizeLine := by decide
  refine ⟨z7, fun l1 h1 => ⟨z7, fun l2 h2 => ⟨z7, fun l3 h3 => ⟨z7, fun l4 h4 => ⟨(show 4 ≤ sizeLine by decide), fun l5 h5 => ?_⟩⟩⟩⟩⟩
  have n21 := ne_of_none (upd_same (H := H) (a := l1)) h2
  have s1 : Same H (upd H l1 (.lst [.str "a", .str "b", .str "c", .str "f", .str "g", .str "p", .str "q"])) := same_new h1 _
  have s2 := same_new h2 (.lst [.str "c", .str "a", .str "b", .str "g", .str "f", .str "q", .str "p"])
  have s3 := same_new h3 (.lst [.str "k1", .str "zero", .str "aB_", .str "suc", .str "mul", .str "big", .str "at0"])
  have s4 := same_new h4 (.lst [.str "a", .str "aa", .str "aaa", .str "f1", .str "f10", .str "p", .str "pp"])
  have s5 := same_new h5 (.lst [.ref l1, .ref l2, .ref l3, .ref l4])
  have sA := s1.trans (s2.trans (s3.trans (s4.trans s5)))
  have g1 := s5 _ _ (s4 _ _ (s3 _ _ (s2 _ _ (upd_same (H := H) (a := l1) (o := .lst [.str "a", .str "b", .str "c", .str "f", .str "g", .str "p", .str "q"])))))
  have g2 := s5 _ _ (s4 _ _ (s3 _ _ (upd_same (H := upd H l1 (.lst [.str "a", .str "b", .str "c", .str "f", .str "g", .str "p", .str "q"])) (a := l2) (o := .lst [.str "c", .str "a", .str "b", .str "g", .str "f", .str "q", .str "p"]))))
  have g3 := s5 _ _ (s4 _ _ (upd_same (H := upd (upd H l1 (.lst [.str "a", .str "b", .str "c", .str "f", .str "g", .str "p", .str "q"])) l2 (.lst [.str "c", .str "a", .str "b", .str "g", .str "f", .str "q", .str "p"])) (a := l3) (o := .lst [.str "k1", .str "zero", .str "aB_", .str "suc", .str "mul", .str "big", .str "at0"])))
  have g4 := s5 _ _ (upd_same (H := upd (upd (upd H l1 (.lst [.str "a", .str "b", .str "c", .str "f", .str "g", .str "p", .str "q"])) l2 (.lst [.str "c", .str "a", .str "b", .str "g", .str "f", .str "q", .str "p"])) l3 (.lst [.str "k1", .str "zero", .str "aB_", .str "suc", .str "mul", .str "big", .str "at0"])) (a := l4) (o := .lst [.str "a", .str "aa", .str "aaa", .str "f1", .str "f10", .str "p", .str "pp"]))
  have g5 := upd_same (H := upd (upd (upd (upd H l1 (.lst [.str "a", .str "b", .str "c", .str "f", .str "g", .str "p", .str "q"])) l2 (.lst [.str "c", .str "a", .str "b", .str "g", .str "f", .str "q", .str "p"])) l3 (.lst [.str "k1", .str "zero", .str "aB_", .str "suc", .str "mul", .str "big", .str "at0"])) l4 (.lst [.str "a", .str "aa", .str "aaa", .str "f1", .str "f10", .str "p", .str "pp"])) (a := l5) (o := .lst [.ref l1, .ref l2, .ref l3, .ref l4])
  generalize upd (upd (upd (upd (upd H l1 _) l2 _) l3 _) l4 _) l5 _ = H1 at sA g1 g2 g3 g4 g5
  clear s1 s2 s3 s4 s5 h2 h3 h4 h5 n21
  obtain ⟨ns, a, b, c, hk, _⟩ := id hdk
  have hk1 := sA _ _ hk
  refine ⟨_, rfl, _, rfl, dk, sl, 4, rfl, hdk.same sA, by decide, by decide, fun n H2 hn hb hd => ?_⟩
  have e1 : l1 ≠ dk := fun e => by rw [e, hk1] at g1; cases g1
  have e2 : l2 ≠ dk := fun e => by rw [e, hk1] at g2; cases g2
  have e3 : l3 ≠ dk := fun e => by rw [e, hk1] at g3; cases g3
  have e4 : l4 ≠ dk := fun e => by rw [e, hk1] at g4; cases g4
  have e5 : l5 ≠ dk := fun e => by rw [e, hk1] at g5; cases g5
  have hN2 : ∀ x, H2 x = none → H x = none := fun x hx => by
    cases h : H x with
    | none => rfl
    | some v =>
      by_cases q : x = dk
      · subst q
        obtain ⟨ns', a', b', c', h', _⟩ := hd
        rw [h'] at hx; cases hx
      · rw [hb x v q (sA _ _ h)] at hx; cases hx
  have bD : ∀ {x : Addr} {o : HO}, H2 x = none → ButD dk H (upd H2 x o) := fun {x o} hx b o' nb h => kp (ne_of_none h (hN2 x hx)) (hb b o' nb (sA _ _ h)) _
  have dD : ∀ {x : Addr} {o : HO}, H2 x = none → DeckAt (upd H2 x o) dk sl := fun {x o} hx => hd.same (same_new hx _)
  have fin : ∀ (l' : Addr) (N : List Str), H2 l' = some (.lst (N.map V.str)) → N ∈ menus → ∃ (p : Addr) (ys : List V), [V.ref l'] = [V.ref p] ∧ (SqL K H2 p ys ∨ SqT K H2 p ys) ∧ ∀ l, H2 l = none → Q (.ref l) (upd H2 l (.lst ys)) := fun l' N hl' hN =>
    ⟨l', _, rfl, .inl (SqL.of hl'), fun l hl => q N l _ (bD hl) (dD hl) hN (hN2 l hl) upd_same⟩
  have gl := hb _ _ e5 g5
  match n, hn with
  | 0, _ => exact ⟨l5, _, 0, _, rfl, rfl, SqL.of gl, atI_nat (j := 0) rfl, fin l1 ["a", "b", "c", "f", "g", "p", "q"] (hb _ _ e1 g1) (by simp [menus])⟩
  | 1, _ => exact ⟨l5, _, 1, _, rfl, rfl, SqL.of gl, atI_nat (j := 1) rfl, fin l2 ["c", "a", "b", "g", "f", "q", "p"] (hb _ _ e2 g2) (by simp [menus])⟩
  | 2, _ => exact ⟨l5, _, 2, _, rfl, rfl, SqL.of gl, atI_nat (j := 2) rfl, fin l3 ["k1", "zero", "aB_", "suc", "mul", "big", "at0"] (hb _ _ e3 g3) (by simp [menus])⟩
  | 3, _ => exact ⟨l5, _, 3, _, rfl, rfl, SqL.of gl, atI_nat (j := 3) rfl, fin l4 ["a", "aa", "aaa", "f1", "f10", "p", "pp"] (hb _ _ e4 g4) (by simp [menus])⟩
  | n + 4, h => exact absurd h (by omega)
/-! ### _law_leaves -/
/-- the leaves that may stand in a term -/
def leaf2 : List Tm := [.v 0, .v 1, .c 0, .c 1, .c 2]
def spLeaves (N : List Str) : Sp := fun vs H Q _ => ∃ (nl : Addr), vs = [.ref nl, .int 2] ∧ H nl = some (.lst (N.map V.str)) ∧ N.length = 7 ∧ ∀ p ys H', H p = none → Same H H' → H' p = some (.lst ys) → TmsAt N H' leaf2 ys → Q (.ref p) H'
theorem name_at {i : Nat} (h : i < N.length) : (N.map V.str)[i]? = some (.str (N.getD i "")) := by
  rw [List.getElem?_map, List.getElem?_eq_getElem h]
  simp [h]
theorem ok_leaves (z1 : mg "range" = none) (D : DF K mg "_law_leaves" s_law_leaves ["_law_names_here", "_law_many"]) : OkD P w K mg base 1 "_law_leaves" ["_law_names_here", "_law_many"] (spLeaves N) := by
  refine D.ok (k := 0) sc_law_leaves (fun vs H Q E h => ?_) (fun f cdv A outer s H vs Q E hr h => ?_)
  · obtain ⟨nl, rfl, _⟩ := h
    rfl
  obtain ⟨nl, rfl, hnl, hlen, q⟩ := h
  have nd := sc_law_leaves.nd
  refine ⟨_, pss_one (ps_ret (pe_op op_cat (pe_lc (own := [("_law_k", 2)]) (g := gName 2) (tt := tYes) rfl nd (pi_range1 (by rfl) z1 (pa_cons (pv 1) pa_nil)) (blkOk_by (N := ["_law_names_here", "_law_many", "_law_k"]) (sc := defScope s_law_leaves) (by decide +kernel)) (fun _ _ _ _ _ => pg_name (i := 2) nd rfl (Or.inl rfl)) (fun _ _ _ _ _ => pts_nil) (fun _ _ _ _ _ => pv 2))
    (pe_lst (pa_cons (pe_tup (pa_cons (pe_ix ix_list (pv 0) pe_int (fun _ _ => rfl)) pa_nil)) (pa_cons (pe_tup (pa_cons (pe_ix ix_list (pv 0) pe_int (fun _ _ => rfl)) pa_nil)) (pa_cons (pe_tup (pa_cons (pe_ix ix_list (pv 0) pe_int (fun _ _ => rfl)) pa_nil)) pa_nil)))))), ?_⟩
  refine ⟨_, rfl, 2, rfl, by decide, by decide, fun D1 hD1 => ?_⟩
  refine lc_map_rng (n := 2) (R := fun _ (b : Nat) z => z = natV b) (bs := [0, 1]) (fun _ _ _ _ _ h => h) rfl (by omega) ?_ hD1 ?_
  · intro k b H4 Q' hk hb s4 q'
    refine ⟨_, rfl, q' _ H4 (Same.refl _) ?_⟩
    match k, hk with
    | 0, _ => cases hb; rfl
    | 1, _ => cases hb; rfl
  · intro zs H4 s4 hd4 ha4
    have ez := all_nat ha4
    subst ez
    have g0 := name_at (N := N) (i := 0) (by omega)
    have g1 := name_at (N := N) (i := 1) (by omega)
    have g2 := name_at (N := N) (i := 2) (by omega)
    have z1' : 1 ≤ sizeLine := by decide
    refine ⟨_, rfl, nl, _, 0, _, rfl, rfl, SqL.of (s4 _ _ hnl), at_of (j := 0) rfl g0, z1', fun t0 h0 => ?_⟩
    have s5 := s4.trans (same_new h0 (.tup [.str (N.getD 0 "")]))
    refine ⟨_, rfl, nl, _, 1, _, rfl, rfl, SqL.of (s5 _ _ hnl), at_of (j := 1) rfl g1, z1', fun t1 h1 => ?_⟩
    have s6 := s5.trans (same_new h1 (.tup [.str (N.getD 1 "")]))
    refine ⟨_, rfl, nl, _, 2, _, rfl, rfl, SqL.of (s6 _ _ hnl), at_of (j := 2) rfl g2, z1', fun t2 h2 => ?_⟩
    have s7 := s6.trans (same_new h2 (.tup [.str (N.getD 2 "")]))
    refine ⟨(show 3 ≤ sizeLine by decide), fun l3 h3 => ?_⟩
    have k0 := same_new h3 (.lst [.ref t0, .ref t1, .ref t2]) _ _ (same_new h2 (.tup [.str (N.getD 2 "")]) _ _ (same_new h1 (.tup [.str (N.getD 1 "")]) _ _ (upd_same (H := H4) (a := t0) (o := .tup [.str (N.getD 0 "")]))))
    have k1 := same_new h3 (.lst [.ref t0, .ref t1, .ref t2]) _ _ (same_new h2 (.tup [.str (N.getD 2 "")]) _ _ (upd_same (H := upd H4 t0 (.tup [.str (N.getD 0 "")])) (a := t1) (o := .tup [.str (N.getD 1 "")])))
    have k2 := same_new h3 (.lst [.ref t0, .ref t1, .ref t2]) _ _ (upd_same (H := upd (upd H4 t0 (.tup [.str (N.getD 0 "")])) t1 (.tup [.str (N.getD 1 "")])) (a := t2) (o := .tup [.str (N.getD 2 "")]))
    have kD := same_new h3 (.lst [.ref t0, .ref t1, .ref t2]) _ _ (same_new h2 (.tup [.str (N.getD 2 "")]) _ _ (same_new h1 (.tup [.str (N.getD 1 "")]) _ _ (same_new h0 (.tup [.str (N.getD 0 "")]) _ _ hd4)))
    have s8 := s7.trans (same_new h3 (.lst [.ref t0, .ref t1, .ref t2]))
    have k3 := upd_same (H := upd (upd (upd H4 t0 (.tup [.str (N.getD 0 "")])) t1 (.tup [.str (N.getD 1 "")])) t2 (.tup [.str (N.getD 2 "")])) (a := l3) (o := .lst [.ref t0, .ref t1, .ref t2])
    generalize upd (upd (upd (upd H4 t0 _) t1 _) t2 _) l3 _ = H5 at k0 k1 k2 kD s8 k3
    refine ⟨D1, l3, _, _, rfl, rfl, kD, k3, (show 2 + 3 ≤ sizeLine by decide), fun p hp => ?_⟩
    have s9 := same_new hp (.lst ((([0, 1] : List Nat).map fun (b : Nat) => (b : Int)).map V.int ++ [.ref t0, .ref t1, .ref t2]))
    have hpH : H p = none := by
      cases h : H p with
      | none => rfl
      | some v => rw [s8 _ _ h] at hp; cases hp
    refine q p _ _ hpH (s8.trans s9) upd_same ⟨_, _, rfl, rfl, _, _, rfl, rfl, _, _, rfl, ⟨t0, rfl, s9 _ _ k0⟩, _, _, rfl, ⟨t1, rfl, s9 _ _ k1⟩, _, _, rfl, ⟨t2, rfl, s9 _ _ k2⟩, rfl⟩
/-! ### _law_term -/
/-- a term over the leaves Ls -/
def spTerm (N : List Str) (d : Nat) : Sp := fun vs H Q _ => ∃ (dk sl ll nl : Addr) (Ls : List Tm) (ys : List V), vs = [.ref dk, natV d, .ref ll, .ref nl] ∧ DeckAt H dk sl ∧ H ll = some (.lst ys) ∧ ll ≠ dk ∧ TmsAt N H Ls ys ∧ Ls ≠ [] ∧ Ls.length ≤ 100 ∧ (∀ u, u ∈ Ls → u.nest = 1) ∧ H nl = some (.lst (N.map V.str)) ∧ nl ≠ dk ∧ N.length = 7 ∧
  ∀ t z H', ButD dk H H' → DeckAt H' dk sl → TmAt N H' t z → t.nest ≤ d + 1 → (∀ m, t.has m → ∃ u, u ∈ Ls ∧ u.has m) → Q z H'
def tLeaf (K : PySem.W.Frag) : TE := tOp (rIxL K) (tVar 2) (tCall spDraw [] E0 (tCons (tVar 0) (tCons (tCB (fun xs H Q => ∃ p ys, xs = [V.ref p] ∧ (SqL K H p ys ∨ SqT K H p ys) ∧ Q (.int ys.length) H) (tCons (tVar 2) tNil)) tNil)))
theorem leaf_q {H : Hp} {dk sl ll nl : Addr} {Ls : List Tm} {ys : List V} {d : Nat} {v1 v4 v5 : Option V} {Q : VK} (hdk : DeckAt H dk sl) (hll : H ll = some (.lst ys)) (hld : ll ≠ dk) (hLs : TmsAt N H Ls ys) (hne : Ls ≠ []) (hle : Ls.length ≤ 100) (hL1 : ∀ u, u ∈ Ls → u.nest = 1)
    (q : ∀ t z H', ButD dk H H' → DeckAt H' dk sl → TmAt N H' t z → t.nest ≤ d + 1 → (∀ m, t.has m → ∃ u, u ∈ Ls ∧ u.has m) → Q z H') : tLeaf K [some (.ref dk), v1, some (.ref ll), some (.ref nl), v4, v5] H Q := by
  have hyl : ys.length = Ls.length := hLs.length
  have hpos : 0 < Ls.length := List.length_pos_iff.mpr hne
  refine ⟨_, rfl, _, rfl, _, rfl, ll, ys, rfl, .inl (SqL.of hll), dk, sl, ys.length, rfl, hdk, by omega, by omega, fun k H2 hk b2 d2 => ?_⟩
  have hg : ys[k]? = some (ys[k]'hk) := List.getElem?_eq_getElem hk
  obtain ⟨u, hu, hz⟩ := hLs.get hg
  have hum := List.mem_of_getElem? hu
  exact ⟨ll, ys, (k : Int), _, rfl, rfl, SqL.of (b2 _ _ hld hll), at_of (j := k) rfl hg, q u _ H2 b2 d2 (hz.tupS (hdk.tup b2)) (by rw [hL1 u hum]; omega) fun m hm => ⟨u, hum, hm⟩⟩
theorem ok_term1 {d : Nat} (D : DF K mg "_law_term" s_law_term ["_law_deck_here", "_law_depth", "_law_leaves_here", "_law_names_here"]) (z1 : mg "len" = none) (G1 : OkD P w K mg base 1 "_law_draw" ["_law_deck_here", "_law_most"] spDraw)
    (G : 0 < d → OkD P w K mg base (d + 1) "_law_term" ["_law_deck_here", "_law_depth", "_law_leaves_here", "_law_names_here"] (spTerm N (d - 1))) : OkD P w K mg base (d + 2) "_law_term" ["_law_deck_here", "_law_depth", "_law_leaves_here", "_law_names_here"] (spTerm N d) := by
  refine D.ok (k := d + 1) sc_law_term (fun vs H Q E h => ?_) (fun f cdv A outer s H vs Q E hr h => ?_)
  · obtain ⟨dk, sl, ll, nl, Ls, ys, rfl, _⟩ := h
    rfl
  obtain ⟨dk, sl, ll, nl, Ls, ys, rfl, hdk, hll, hld, hLs, hne, hle, hL1, hnl, hnd, hlen, q⟩ := h
  obtain ⟨f1, fd1, m1, k1, b1, F1, _⟩ := G1
  have hr1 : Room 1 _ := hr.mono (by omega)
  have nd := sc_law_term.nd
  have hG : ∃ (f2 : Addr) (fd2 : FuncData), mg "_law_term" = some (.ref f2) ∧ PySem.W.keepIn K (.ref f2) = true ∧ Binds K fd2 ["_law_deck_here", "_law_depth", "_law_leaves_here", "_law_names_here"] [] ∧ FnOk P w K mg base CX0 (d + 1) f2 fd2 ["_law_deck_here", "_law_depth", "_law_leaves_here", "_law_names_here"] (fun vs H Q E => 0 < d ∧ spTerm N (d - 1) vs H Q E) := by
    by_cases h0 : 0 < d
    · obtain ⟨f2, fd2, m2, k2, b2, F2, _⟩ := (G h0).imp (sp' := fun vs H Q E => 0 < d ∧ spTerm N (d - 1) vs H Q E) fun vs H Q E h => h.2
      exact ⟨f2, fd2, m2, k2, b2, F2⟩
    · obtain ⟨f2, fd2, m2, k2, b2, F2, _⟩ := (D.ok0 (P := P) (w := w) (base := base) (sp := fun vs H Q E => 0 < d ∧ spTerm N (d - 1) vs H Q E) fun vs H Q E h => h0 h.1).mono (Nat.zero_le (d + 1))
      exact ⟨f2, fd2, m2, k2, b2, F2⟩
  obtain ⟨f2, fd2, m2, k2, b2, F2⟩ := hG
  refine ⟨_, pss_cons (ps_set (i := 4) nd rfl (Or.inl rfl) (pe_call F1 hr1 rfl m1 k1 b1 .nil pass0 (pa_cons (pv 0) (pa_cons pe_int pa_nil))))
    (pss_cons (ps_if (PW.pt (pw_or (pt_cmpR op_le (pv 1) pe_int (nomark _)) (pw_or1 (pt_cmpR op_lt (pv 4) pe_int (nomark _)))))
      (pss_one (ps_ret (pe_ix ix_list (pv 2) (pe_call F1 hr1 rfl m1 k1 b1 .nil pass0 (pa_cons (pv 0) (pa_cons (pe_callB call_len_seq (by rfl) z1 PySem.boot_len (pa_cons (pv 2) pa_nil)) pa_nil))) (fun _ _ => rfl)))) pss_nil)
    (pss_cons (ps_if (pt_cmpR op_lt (pv 4) pe_int (nomark _))
      (pss_one (ps_ret (pe_tup (pa_cons (pe_ix ix_list (pv 3) pe_int (fun _ _ => rfl)) (pa_cons (pe_call F2 hr rfl m2 k2 b2 .nil pass0 (pa_cons (pv 0) (pa_cons (pe_op op_sub (pv 1) pe_int) (pa_cons (pv 2) (pa_cons (pv 3) pa_nil))))) pa_nil))))) pss_nil)
    (pss_cons (ps_set (i := 5) nd rfl (Or.inl rfl) (pe_call F2 hr rfl m2 k2 b2 .nil pass0 (pa_cons (pv 0) (pa_cons (pe_op op_sub (pv 1) pe_int) (pa_cons (pv 2) (pa_cons (pv 3) pa_nil))))))
    (pss_one (ps_ret (pe_tup (pa_cons (pe_ix ix_list (pv 3) pe_int (fun _ _ => rfl)) (pa_cons (pv 5) (pa_cons (pe_call F2 hr rfl m2 k2 b2 .nil pass0 (pa_cons (pv 0) (pa_cons (pe_op op_sub (pv 1) pe_int) (pa_cons (pv 2) (pa_cons (pv 3) pa_nil))))) pa_nil))))))))), ?_⟩
  have g3 := name_at (N := N) (i := 3) (by omega)
  have g4 := name_at (N := N) (i := 4) (by omega)
  refine ⟨_, rfl, dk, sl, 6, rfl, hdk, by decide, by decide, fun n H1 hn b1 d1 => ?_⟩
  have hll1 := b1 _ _ hld hll
  have hnl1 := b1 _ _ hnd hnl
  have hLs1 : TmsAt N H1 Ls ys := AllAt.mono (fun u y h => h.tupS (hdk.tup b1)) hLs
  have q1 : ∀ t z H', ButD dk H1 H' → DeckAt H' dk sl → TmAt N H' t z → t.nest ≤ d + 1 → (∀ m, t.has m → ∃ u, u ∈ Ls ∧ u.has m) → Q z H' := fun t z H' b => q t z H' (b1.trans b)
  refine ⟨_, rfl, (d : Int), 0, rfl, rfl, _, rfl, ?_⟩
  by_cases h0 : d = 0
  · subst h0
    refine iteT ?_
    exact leaf_q d1 hll1 hld hLs1 hne hle hL1 q1
  · rw [decide_eq_false (show ¬ (d : Int) ≤ 0 by omega)]
    refine iteF ?_
    have hd0 : 0 < d := by omega
    have ed : (d : Int) - 1 = ((d - 1 : Nat) : Int) := by omega
    refine ⟨_, rfl, (n : Int), 2, rfl, rfl, _, rfl, ?_⟩
    by_cases hn2 : n < 2
    · rw [decide_eq_true (show (n : Int) < 2 by omega)]
      refine iteT ?_
      exact leaf_q d1 hll1 hld hLs1 hne hle hL1 q1
    · rw [decide_eq_false (show ¬ (n : Int) < 2 by omega)]
      refine iteF ?_
      refine ⟨_, rfl, (n : Int), 4, rfl, rfl, _, rfl, ?_⟩
      by_cases hn4 : n < 4
      · rw [decide_eq_true (show (n : Int) < 4 by omega)]
        refine iteT ?_
        refine ⟨_, rfl, nl, _, 3, _, rfl, rfl, SqL.of hnl1, at_of (j := 3) rfl g3, _, rfl, _, rfl, (d : Int), 1, rfl, rfl, _, rfl, _, rfl, hd0, dk, sl, ll, nl, Ls, ys, (show [V.ref dk, V.int ((d : Int) - 1), V.ref ll, V.ref nl] = _ by rw [ed]), d1, hll1, hld, hLs1, hne, hle, hL1, hnl1, hnd, hlen, fun t z H2 b2 d2 hz ht hm => ?_⟩
        refine ⟨(show 2 ≤ sizeLine by decide), fun p hp => ?_⟩
        have s3 : Same H2 (upd H2 p (.tup [.str (N.getD 3 ""), z])) := same_new hp _
        exact q1 (.f t) _ _ (b2.trans (ButD.of s3)) (d2.same s3) ⟨p, z, rfl, upd_same, hz.same s3⟩ (by simp only [Tm.nest]; omega) hm
      · rw [decide_eq_false (show ¬ (n : Int) < 4 by omega)]
        refine iteF ?_
        refine ⟨_, rfl, _, rfl, (d : Int), 1, rfl, rfl, _, rfl, _, rfl, hd0, dk, sl, ll, nl, Ls, ys, (show [V.ref dk, V.int ((d : Int) - 1), V.ref ll, V.ref nl] = _ by rw [ed]), d1, hll1, hld, hLs1, hne, hle, hL1, hnl1, hnd, hlen, fun t z H2 b2 d2 hz ht hm => ?_⟩
        have hll2 := b2 _ _ hld hll1
        have hnl2 := b2 _ _ hnd hnl1
        have hLs2 : TmsAt N H2 Ls ys := AllAt.mono (fun u y h => h.tupS (d1.tup b2)) hLs1
        refine ⟨_, rfl, nl, _, 4, _, rfl, rfl, SqL.of hnl2, at_of (j := 4) rfl g4, _, rfl, _, rfl, _, rfl, (d : Int), 1, rfl, rfl, _, rfl, _, rfl, hd0, dk, sl, ll, nl, Ls, ys, (show [V.ref dk, V.int ((d : Int) - 1), V.ref ll, V.ref nl] = _ by rw [ed]), d2, hll2, hld, hLs2, hne, hle, hL1, hnl2, hnd, hlen, fun u y H3 b3 d3 hy hu hmu => ?_⟩
        refine ⟨(show 3 ≤ sizeLine by decide), fun p hp => ?_⟩
        have s4 : Same H3 (upd H3 p (.tup [.str (N.getD 4 ""), z, y])) := same_new hp _
        have hz3 := hz.tupS (d2.tup b3)
        exact q1 (.g t u) _ _ ((b2.trans b3).trans (ButD.of s4)) (d3.same s4) ⟨p, z, y, rfl, upd_same, hz3.same s4, hy.same s4⟩ (by simp only [Tm.nest]; omega) fun m h => h.elim (hm m) (hmu m)
theorem ok_term (D : DF K mg "_law_term" s_law_term ["_law_deck_here", "_law_depth", "_law_leaves_here", "_law_names_here"]) (z1 : mg "len" = none) (G1 : OkD P w K mg base 1 "_law_draw" ["_law_deck_here", "_law_most"] spDraw) : ∀ d, OkD P w K mg base (d + 2) "_law_term" ["_law_deck_here", "_law_depth", "_law_leaves_here", "_law_names_here"] (spTerm N d)
  | 0 => ok_term1 D z1 G1 fun h => absurd h (Nat.lt_irrefl 0)
  | d + 1 => ok_term1 D z1 G1 fun _ => ok_term D z1 G1 d
end
end K78
end
section
set_option maxHeartbeats 4000000
namespace K78
open PySem PySem.Spec PyProof.Rows L2
section
variable {P : Program} {w : World} {K : PySem.W.Frag} {mg : Str → Option Value} {base : Heap} {N : List Str}
/-! ### _law_precedence -/
def spPrec : Sp := fun vs H Q _ => ∃ (dk sl nl : Addr) (N : List Str), vs = [.ref dk, .ref nl] ∧ DeckAt H dk sl ∧ H nl = some (.lst (N.map V.str)) ∧ nl ≠ dk ∧ N.length = 7 ∧ N.Nodup ∧
  ∀ (pr : List Str) pl H', ButD dk H H' → DeckAt H' dk sl → H pl = none → H' pl = some (.lst (pr.map V.str)) → pr.Nodup → (∀ a, a ∈ pr → a ∈ N) → Q (.ref pl) H'
theorem take_drop_perm {α : Type} {l : List α} {i : Nat} {a : α} (h : l[i]? = some a) : l.Perm (a :: (l.take i ++ l.drop (i + 1))) := by
  have e : l = l.take i ++ a :: l.drop (i + 1) := by rw [← drop_at h, List.take_append_drop]
  exact (List.Perm.of_eq e).trans List.perm_middle
theorem ok_prec (z1 : mg "list" = none) (z2 : mg "range" = none) (z3 : mg "len" = none) (D : DF K mg "_law_precedence" s_law_precedence ["_law_deck_here", "_law_names_here"]) (G1 : OkD P w K mg base 1 "_law_draw" ["_law_deck_here", "_law_most"] spDraw) : OkD P w K mg base 2 "_law_precedence" ["_law_deck_here", "_law_names_here"] spPrec := by
  refine D.ok (k := 1) sc_law_precedence (fun vs H Q E h => ?_) (fun f cdv A outer s H vs Q E hr h => ?_)
  · obtain ⟨dk, sl, nl, N, rfl, _⟩ := h
    rfl
  obtain ⟨dk, sl, nl, N, rfl, hdk, hnl, hnd, hlen, hN, q⟩ := h
  obtain ⟨f1, fd1, m1, k1, b1, F1, _⟩ := G1
  have nd := sc_law_precedence.nd
  refine ⟨_, pss_cons (ps_set (i := 2) nd rfl (Or.inl rfl) (pe_callTy call_list_of (by rfl) z1 (by decide +kernel) (pa_cons (pv 1) pa_nil)))
    (pss_cons (ps_set (i := 3) nd rfl (Or.inl rfl) (pe_lst pa_nil))
    (pss_cons (ps_for PassesOwn.never rfl (pi_range1 (by rfl) z2 (pa_cons (pe_call F1 hr rfl m1 k1 b1 .nil pass0 (pa_cons (pv 0) (pa_cons (pe_op op_add (pe_callB call_len_seq (by rfl) z3 PySem.boot_len (pa_cons (pv 1) pa_nil)) pe_int) pa_nil))) pa_nil)) (pg_name (i := 4) nd rfl (.inl rfl))
      (pss_cons (ps_set (i := 5) nd rfl (Or.inl rfl) (pe_call F1 hr rfl m1 k1 b1 .nil pass0 (pa_cons (pv 0) (pa_cons (pe_callB call_len_seq (by rfl) z3 PySem.boot_len (pa_cons (pv 2) pa_nil)) pa_nil))))
      (pss_cons (ps_expr (pe_bm PySem.F.plainAttrs_list PySem.F.slot_list_append PySem.F.type_list_append mt_append (pv 3) (pa_cons (pe_ix ix_list (pv 2) (pv 5) (fun _ _ => rfl)) pa_nil)))
      (pss_one (ps_set (i := 2) nd rfl (Or.inl rfl) (pe_op op_cat (pe_slice sl_lk (pv 2) po_none (po_some (pv 5))) (pe_slice sl_ld (pv 2) (po_some (pe_op op_add (pv 5) pe_int)) po_none)))))))
    (pss_one (ps_ret (pv 3))))), ?_⟩
  refine ⟨_, rfl, nl, _, rfl, .inl (SqL.of hnl), fun rl hrl => ?_⟩
  have s1 : Same H (upd H rl (.lst (N.map V.str))) := same_new hrl _
  have hrl1 : upd H rl (.lst (N.map V.str)) rl = some (.lst (N.map V.str)) := upd_same
  have hrd : rl ≠ dk := fun e => by obtain ⟨_, _, _, _, h, _⟩ := hdk; rw [e, h] at hrl; cases hrl
  generalize upd H rl (.lst (N.map V.str)) = H1 at s1 hrl1
  refine ⟨(show 0 ≤ sizeLine by decide), fun cl hcl => ?_⟩
  have s2 : Same H1 (upd H1 cl (.lst [])) := same_new hcl _
  have hcl2 : upd H1 cl (.lst []) cl = some (.lst []) := upd_same
  have hclH : H cl = none := by
    cases h : H cl with
    | none => rfl
    | some v => rw [s1 _ _ h] at hcl; cases hcl
  have hcr : rl ≠ cl := ne_of_none hrl1 hcl
  have hslc : sl ≠ cl := fun e => by obtain ⟨_, _, _, _, _, h, _⟩ := hdk; rw [e, hclH] at h; cases h
  have hcd : cl ≠ dk := fun e => by obtain ⟨_, _, _, _, h, _⟩ := hdk; rw [e, s1 _ _ h] at hcl; cases hcl
  have s3 := s1.trans s2
  generalize upd H1 cl (.lst []) = H2 at s2 hcl2 s3
  refine ⟨_, rfl, _, rfl, nl, _, rfl, .inl (SqL.of (s3 _ _ hnl)), (7 : Int), 1, by rw [List.length_map, hlen]; rfl, rfl, dk, sl, 8, rfl, hdk.same s3, by decide, by decide, fun n H3 hn bb3 dd3 => ?_⟩
  refine ⟨(n : Int), rfl, by omega, by omega, ?_⟩
  rw [Int.toNat_natCast]
  refine for_range (lo := 0) (n := n) (fun i σ H' => ∃ (rest chosen : List Str) (rl' : Addr) (v4 v5 : Option V), σ = [some (.ref dk), some (.ref nl), some (.ref rl'), some (.ref cl), v4, v5] ∧ ButD dk H H' ∧ DeckAt H' dk sl ∧ H' cl = some (.lst (chosen.map V.str)) ∧ H' rl' = some (.lst (rest.map V.str)) ∧ rl' ≠ dk ∧ rl' ≠ cl ∧
    (chosen ++ rest).Perm N ∧ rest.length = 7 - i) ?_ ?_ ?_
  · exact ⟨N, [], rl, none, none, rfl, fun b o nb h => bb3 b o nb (s3 _ _ h), dd3, bb3 _ _ hcd hcl2, bb3 _ _ hrd (s2 _ _ hrl1), hrd, hcr, List.Perm.refl N, hlen⟩
  · rintro i σ H4 hi ⟨rest, chosen, rl', v4, v5, rfl, bH, dH, hc4, hr4, hrd', hrc', hper, hrl4⟩
    have hrp : 0 < rest.length := by omega
    have hcr7 : chosen.length + rest.length = 7 := by have := hper.length_eq; rw [List.length_append, hlen] at this; exact this
    refine ⟨_, rfl, _, rfl, rl', _, rfl, .inl (SqL.of hr4), dk, sl, rest.length, by rw [List.length_map]; rfl, dH, hrp, by omega, fun k H5 hk b5 d5 => ?_⟩
    have hc5 := b5 _ _ hcd hc4
    have hr5 := b5 _ _ hrd' hr4
    have hg : rest[k]? = some (rest[k]'hk) := List.getElem?_eq_getElem hk
    have hgv : (rest.map V.str)[k]? = some (.str (rest[k]'hk)) := by rw [List.getElem?_map, hg]; rfl
    refine ⟨_, rfl, .inl ⟨rfl, _, SqL.of hc5⟩, _, rfl, _, rfl, rl', _, (k : Int), _, rfl, rfl, SqL.of hr5, at_of (j := k) rfl hgv, cl, _, _, rfl, rfl, hc5, (by rw [List.length_map]; exact sz16 (by omega)), ?_⟩
    have hc6 : upd H5 cl (.lst (chosen.map V.str ++ [.str (rest[k]'hk)])) cl = some (.lst ((chosen ++ [rest[k]'hk]).map V.str)) := by rw [upd_same, List.map_append]; rfl
    have hr6 : upd H5 cl (.lst (chosen.map V.str ++ [.str (rest[k]'hk)])) rl' = some (.lst (rest.map V.str)) := kp hrc' hr5 _
    have b6 : ButD dk H (upd H5 cl (.lst (chosen.map V.str ++ [.str (rest[k]'hk)]))) := fun b o nb h => kp (ne_of_none h hclH) (b5 b o nb (bH b o nb h)) _
    have d6 : DeckAt (upd H5 cl (.lst (chosen.map V.str ++ [.str (rest[k]'hk)]))) dk sl := by
      obtain ⟨ns, a, b, c, h1, h2, h3, h4⟩ := d5
      exact ⟨ns, a, b, c, kp hcd.symm h1 _, kp hslc h2 _, h3, h4⟩
    generalize upd H5 cl (.lst (chosen.map V.str ++ [.str (rest[k]'hk)])) = H6 at hc6 hr6 b6 d6
    have ek : (k : Int) + 1 = ((k + 1 : Nat) : Int) := by omega
    refine ⟨_, rfl, _, rfl, _, rfl, rl', _, k, rfl, rfl, rfl, SqL.of hr6, fun p1 hp1 => ?_⟩
    have s7 : Same H6 (upd H6 p1 (.lst ((rest.map V.str).take k))) := same_new hp1 _
    refine ⟨_, rfl, _, rfl, (k : Int), 1, rfl, rfl, _, rfl, rl', _, k + 1, rfl, (by rw [← ek]), rfl, (by rw [List.length_map]; omega), SqL.of (s7 _ _ hr6), fun p2 hp2 => ?_⟩
    have s8 := s7.trans (same_new hp2 (.lst ((rest.map V.str).drop (k + 1))))
    have h1 := same_new hp2 (.lst ((rest.map V.str).drop (k + 1))) _ _ (upd_same (H := H6) (a := p1) (o := .lst ((rest.map V.str).take k)))
    refine ⟨p1, p2, _, _, rfl, rfl, h1, upd_same, (by rw [List.length_take, List.length_drop, List.length_map]; exact szT (by omega)), fun p3 hp3 => ?_⟩
    have s9 := s8.trans (same_new hp3 (.lst ((rest.map V.str).take k ++ (rest.map V.str).drop (k + 1))))
    have p3n : H6 p3 = none := by
      cases h : H6 p3 with
      | none => rfl
      | some v => rw [s8 _ _ h] at hp3; cases hp3
    refine ⟨rest.take k ++ rest.drop (k + 1), chosen ++ [rest[k]'hk], p3, _, _, rfl, fun b o nb h => s9 _ _ (b6 b o nb h), d6.same s9, s9 _ _ hc6, by rw [upd_same, List.map_append, List.map_take, List.map_drop], fun e => ?_, fun e => ?_, ?_, ?_⟩
    · obtain ⟨_, _, _, _, h, _⟩ := d6; rw [← e, p3n] at h; cases h
    · rw [e, hc6] at p3n; cases p3n
    · refine List.Perm.trans ?_ hper
      rw [List.append_assoc]
      exact List.Perm.append_left _ (take_drop_perm hg).symm
    · rw [List.length_append, List.length_take, List.length_drop]; omega
  · rintro σ H4 ⟨rest, chosen, rl', v4, v5, rfl, bH, dH, hc4, hr4, hrd', hrc', hper, hrl4⟩
    have hnd2 : (chosen ++ rest).Nodup := hper.nodup_iff.mpr hN
    exact ⟨_, rfl, q chosen cl H4 bH dH hclH hc4 (List.nodup_append.mp hnd2).1 fun a ha => hper.mem_iff.mp (List.mem_append.mpr (.inl ha))⟩
end
end K78
end
section
set_option maxHeartbeats 4000000
namespace K78
open PySem PySem.Spec PyProof.Rows L2
theorem mem_putK {kvs : List (Key × V)} {k : Key} {v : V} {e : Key × V} (h : e ∈ putK kvs k v) : e = (k, v) ∨ e ∈ kvs := by
  unfold putK at h
  split at h
  · obtain ⟨e', h1, h2⟩ := List.mem_map.mp h
    by_cases q : e'.1 = k
    · left
      simp [q] at h2
      exact h2.symm
    · right
      simp [q] at h2
      rw [← h2]; exact h1
  · rcases List.mem_append.mp h with h | h
    · exact .inr h
    · exact .inl (List.mem_singleton.mp h)
/-- a heavy weight -/
def heavy : Nat := 10 ^ 20 + 3
/-- the weights as they are drawn -/
def WtD (N : List Str) (kvs : List (Key × V)) : Prop := kvs.length ≤ 20 ∧ ∀ kv, kv ∈ kvs → ∃ (a : Str) (n : Nat), kv.1 = Sum.inr a ∧ kv.2 = natV n ∧ 1 ≤ n ∧ a ∈ N ∧ (n ≤ 3 ∨ (a = N.getD 3 "" ∧ n = heavy))
theorem WtD.ok {N : List Str} {kvs : List (Key × V)} (h : WtD N kvs) (hN : ∀ a, a ∈ N → a ≠ ("true" : Str)) : WtOk kvs := ⟨Nat.le_trans h.1 (by decide), fun kv hk => by
  obtain ⟨a, n, e1, e2, e3, e4, _⟩ := h.2 kv hk
  exact ⟨a, n, e1, e2, e3, hN a e4⟩⟩
theorem WtD.put {N : List Str} {kvs : List (Key × V)} (h : WtD N kvs) {a : Str} {n : Nat} (ha : a ∈ N) (h1 : 1 ≤ n) (h2 : n ≤ 3 ∨ (a = N.getD 3 "" ∧ n = heavy)) (hl : kvs.length ≤ 19) : WtD N (putK kvs (Sum.inr a) (natV n)) := by
  refine ⟨Nat.le_trans (length_putK kvs _ _) (by omega), fun kv hk => ?_⟩
  rcases mem_putK hk with e | e
  · subst e; exact ⟨a, n, rfl, rfl, h1, ha, h2⟩
  · exact h.2 kv e
/-- the weights of the five symbols -/
def wOf (N : List Str) (kvs : List (Key × V)) : Nat → Nat := fun i => match valV kvs (Sum.inr (N.getD i "") : Key) with
  | some (.int z) => z.toNat
  | _ => 1
/-- what is known of the weights -/
structure WB (ww : Nat → Nat) : Prop where
  pos : ∀ i, i < 5 → 1 ≤ ww i
  low : ∀ i, i < 5 → i ≠ 3 → ww i ≤ 3
  f : ww 3 ≤ 3 ∨ ww 3 = heavy
theorem WtD.wof {N : List Str} {kvs : List (Key × V)} (h : WtD N kvs) (i : Nat) : (valV kvs (Sum.inr (N.getD i "") : Key)).getD (.int 1) = natV (wOf N kvs i) ∧ 1 ≤ wOf N kvs i ∧ (wOf N kvs i ≤ 3 ∨ (N.getD i "" = N.getD 3 "" ∧ wOf N kvs i = heavy)) := by
  unfold wOf
  cases e : valV kvs (Sum.inr (N.getD i "") : Key) with
  | none => exact ⟨rfl, Nat.le_refl _, .inl (by decide)⟩
  | some v =>
    obtain ⟨a, n, e1, e2, e3, e4, e5⟩ := h.2 _ (valV_memv e)
    have e2 : v = natV n := e2
    have ea : N.getD i "" = a := Sum.inr.inj e1
    subst e2
    rw [← ea] at e5
    exact ⟨rfl, e3, e5⟩
theorem WtD.wb {N : List Str} {kvs : List (Key × V)} (h : WtD N kvs) (hN : NmOk N) : WB (wOf N kvs) where
  pos := fun i _ => (h.wof i).2.1
  low := fun i hi h3 => by
    rcases (h.wof i).2.2 with q | ⟨q, _⟩
    · exact q
    · exact absurd (hN.inj i 3 hi (by decide) q) h3
  f := by
    rcases (h.wof 3).2.2 with q | ⟨_, q⟩
    · exact .inl q
    · exact .inr q
section
variable {P : Program} {w : World} {K : PySem.W.Frag} {mg : Str → Option Value} {base : Heap} {N : List Str}
def spWts : Sp := fun vs H Q _ => ∃ (dk sl nl : Addr) (N : List Str), vs = [.ref dk, .ref nl] ∧ DeckAt H dk sl ∧ H nl = some (.lst (N.map V.str)) ∧ nl ≠ dk ∧ N.length = 7 ∧
  ∀ kvs wd H', ButD dk H H' → DeckAt H' dk sl → H wd = none → H' wd = some (.dK kvs) → WtD N kvs → Q (.ref wd) H'
theorem ok_wts (D : DF K mg "_law_weights" s_law_weights ["_law_deck_here", "_law_names_here"]) (G1 : OkD P w K mg base 1 "_law_draw" ["_law_deck_here", "_law_most"] spDraw) : OkD P w K mg base 2 "_law_weights" ["_law_deck_here", "_law_names_here"] spWts := by
  refine D.ok (k := 1) sc_law_weights (fun vs H Q E h => ?_) (fun f cdv A outer s H vs Q E hr h => ?_)
  · obtain ⟨dk, sl, nl, N, rfl, _⟩ := h
    rfl
  obtain ⟨dk, sl, nl, N, rfl, hdk, hnl, hnd, hlen, q⟩ := h
  obtain ⟨f1, fd1, m1, k1, b1, F1, _⟩ := G1
  have hu := hu_of hr
  have nd := sc_law_weights.nd
  refine ⟨_, pss_cons (ps_set (i := 2) nd rfl (Or.inl rfl) pe_dnewK)
    (pss_cons (ps_for PassesOwn.never rfl (pi_list (pv 1)) (pg_name (i := 3) nd rfl (.inl rfl))
      (pss_cons (ps_set (i := 4) nd rfl (Or.inl rfl) (pe_call F1 hr rfl m1 k1 b1 .nil pass0 (pa_cons (pv 0) (pa_cons pe_int pa_nil))))
      (pss_one (ps_if (pt_cmpR op_gt (pv 4) pe_int (nomark _)) (pss_one (ps_dput hu (pv 2) (pv 3) (pe_op op_sub (pv 4) pe_int) rfl)) pss_nil))))
    (pss_cons (ps_if (pt_cmpR op_eq (pe_call F1 hr rfl m1 k1 b1 .nil pass0 (pa_cons (pv 0) (pa_cons pe_int pa_nil))) pe_int (nomark _))
      (pss_one (ps_dput hu (pv 2) (pe_ix ix_list (pv 1) pe_int (fun _ _ => rfl)) (pe_op op_add (pe_op op_pow pe_int pe_int) pe_int) rfl)) pss_nil)
    (pss_one (ps_ret (pv 2))))), ?_⟩
  intro wd hwd
  have s1 : Same H (upd H wd (.dK [])) := same_new hwd _
  have hwdk : wd ≠ dk := fun e => by obtain ⟨_, _, _, _, h, _⟩ := hdk; rw [e, h] at hwd; cases hwd
  have hwsl : sl ≠ wd := fun e => by obtain ⟨_, _, _, _, _, h, _⟩ := hdk; rw [e, hwd] at h; cases h
  have hwnl : nl ≠ wd := ne_of_none hnl hwd
  have putD : ∀ {Hx : Hp} {o : HO}, DeckAt Hx dk sl → DeckAt (upd Hx wd o) dk sl := fun {Hx o} h => by
    obtain ⟨ns, a, b, c, h1, h2, h3, h4⟩ := h
    exact ⟨ns, a, b, c, kp hwdk.symm h1 _, kp hwsl h2 _, h3, h4⟩
  refine ⟨_, rfl, nl, rfl, ⟨_, SqL.of (s1 _ _ hnl)⟩, ?_⟩
  refine for_list (K := K) (a := nl) (xs := N.map V.str) (fun i σ H' => ∃ (kvs : List (Key × V)) (v3 v4 : Option V), σ = [some (.ref dk), some (.ref nl), some (.ref wd), v3, v4] ∧ ButD dk H H' ∧ DeckAt H' dk sl ∧ H' wd = some (.dK kvs) ∧ WtD N kvs ∧ kvs.length ≤ i) ?_ ?_ ?_ ?_
  · exact ⟨[], none, none, rfl, ButD.of s1, hdk.same s1, upd_same, ⟨by simp, fun kv h => by cases h⟩, Nat.le_refl _⟩
  · rintro i σ H' _ ⟨kvs, v3, v4, _, hb, _⟩
    exact SqL.of (hb _ _ hnd hnl)
  · rintro i z σ H' hi ⟨kvs, v3, v4, rfl, hb, hd, hk, hW, hl⟩
    rw [List.getElem?_map, Option.map_eq_some_iff] at hi
    obtain ⟨a, ha, rfl⟩ := hi
    have ham := List.mem_of_getElem? ha
    have hi7 : i < 7 := by have := (List.getElem?_eq_some_iff.mp ha).1; omega
    refine ⟨_, rfl, dk, sl, 5, rfl, hd, by decide, by decide, fun n H2 hn b2 d2 => ?_⟩
    have hk2 := b2 _ _ hwdk hk
    have hb2 := hb.trans b2
    refine ⟨_, rfl, (n : Int), 1, rfl, rfl, _, rfl, ?_⟩
    by_cases h1 : 1 < n
    · rw [decide_eq_true (show (1 : Int) < (n : Int) by omega)]
      refine iteT ?_
      have en : (n : Int) - 1 = ((n - 1 : Nat) : Int) := by omega
      have hput : DPut H2 wd (.str a) (V.int ((n : Int) - 1)) (upd H2 wd (.dK (putK kvs (Sum.inr a) (natV (n - 1))))) := by
        rw [en]; exact DPut.k (k := Sum.inr a) hk2 (sz16 (by omega))
      refine ⟨_, rfl, (n : Int), 1, rfl, rfl, _, rfl, _, rfl, wd, _, rfl, hput, ?_⟩
      exact ⟨_, _, _, rfl, fun b o nb h => kp (ne_of_none h hwd) (hb2 b o nb h) _, putD d2, upd_same, hW.put ham (by omega) (.inl (by omega)) (by omega), by have := length_putK kvs (Sum.inr a : Key) (natV (n - 1)); omega⟩
    · rw [decide_eq_false (show ¬ (1 : Int) < (n : Int) by omega)]
      refine iteF ?_
      exact ⟨kvs, _, _, rfl, hb2, d2, hk2, hW, by omega⟩
  · rintro σ H' ⟨kvs, v3, v4, rfl, hb, hd, hk, hW, hl⟩
    rw [List.length_map, hlen] at hl
    refine ⟨_, rfl, dk, sl, 9, rfl, hd, by decide, by decide, fun n H2 hn b2 d2 => ?_⟩
    have hk2 := b2 _ _ hwdk hk
    have hb2 := hb.trans b2
    refine ⟨rfl, _, rfl, ?_⟩
    by_cases h1 : n = 1
    · rw [decide_eq_true (show natV n = V.int 1 by rw [h1]; rfl)]
      refine iteT ?_
      have g3 := name_at (N := N) (i := 3) (by omega)
      have h3m : N.getD 3 "" ∈ N := by
        have : 3 < N.length := by omega
        rw [List.getD_eq_getElem?_getD, List.getElem?_eq_getElem this]
        exact List.getElem_mem this
      have hput : DPut H2 wd (.str (N.getD 3 "")) (V.int ((10 : Int) ^ (20 : Int).toNat + 3)) (upd H2 wd (.dK (putK kvs (Sum.inr (N.getD 3 "")) (natV heavy)))) := by
        have e : (10 : Int) ^ (20 : Int).toNat + 3 = (heavy : Int) := by decide
        rw [e]; exact DPut.k (k := Sum.inr (N.getD 3 "")) hk2 (sz16 (by omega))
      refine ⟨10, 20, rfl, rfl, ⟨by decide, by decide, by decide⟩, _, _, rfl, rfl, _, rfl, _, rfl, nl, _, 3, _, rfl, rfl, SqL.of (hb2 _ _ hnd hnl), at_of (j := 3) rfl g3, wd, _, rfl, hput, ?_⟩
      exact ⟨_, rfl, q _ wd _ (fun b o nb h => kp (ne_of_none h hwd) (hb2 b o nb h) _) (putD d2) hwd upd_same (hW.put h3m (by decide) (.inr ⟨rfl, rfl⟩) (by omega))⟩
    · rw [decide_eq_false (show ¬ natV n = V.int 1 from fun e => h1 (by have := V.int.inj e; omega))]
      refine iteF ?_
      exact ⟨_, rfl, q kvs wd H2 hb2 d2 hwd hk2 hW⟩
end
end K78
end
section
set_option maxHeartbeats 4000000
namespace K78
open PySem PySem.Spec PyProof.Rows L2
section
variable {P : Program} {w : World} {K : PySem.W.Frag} {mg : Str → Option Value} {base : Heap} {N : List Str}
/-- what a drawn rule is -/
structure RDr (r : Rule) : Prop where
  n1 : r.1.nest ≤ 4
  n2 : r.2.nest ≤ 3
  s : r.1.nest = 4 → ∃ t, r.1 = .f t
  v2 : V2 r
def spRule (N : List Str) : Sp := fun vs H Q _ => ∃ (dk sl nl wd pd : Addr) (ww : Nat → Nat) (pr : List Str), vs = [.ref dk, .ref nl, .ref wd, .ref pd] ∧ DeckAt H dk sl ∧ H nl = some (.lst (N.map V.str)) ∧ nl ≠ dk ∧ N.length = 7 ∧ WtAt N H wd ww ∧ wd ≠ dk ∧ H pd = some (.lst (pr.map V.str)) ∧ pd ≠ dk ∧
  ∀ r y H', ButD dk H H' → DeckAt H' dk sl → RuleAt N H' r y → RDr r → Q y H'
theorem ok_rule (D : DF K mg "_law_rule" s_law_rule ["_law_deck_here", "_law_names_here", "_law_weights_here", "_law_precedence_here"]) (G1 : OkD P w K mg base 1 "_law_leaves" ["_law_names_here", "_law_many"] (spLeaves N)) (G2 : OkD P w K mg base 4 "_law_term" ["_law_deck_here", "_law_depth", "_law_leaves_here", "_law_names_here"] (spTerm N 2)) (G3 : OkD P w K mg base 3 "_law_term" ["_law_deck_here", "_law_depth", "_law_leaves_here", "_law_names_here"] (spTerm N 1))
    (G4 : OkD P w K mg base 5 "_law_vars" ["_law_term_here"] (spLVarsT N 5)) (G5 : OkD P w K mg base 10 "_law_compare" ["_law_first", "_law_second", "_law_weights_here", "_law_precedence_here"] (spLCmp N 8)) : OkD P w K mg base 11 "_law_rule" ["_law_deck_here", "_law_names_here", "_law_weights_here", "_law_precedence_here"] (spRule N) := by
  refine D.ok (k := 10) sc_law_rule (fun vs H Q E h => ?_) (fun f cdv A outer s H vs Q E hr h => ?_)
  · obtain ⟨dk, sl, nl, wd, pd, ww, pr, rfl, _⟩ := h
    rfl
  obtain ⟨dk, sl, nl, wd, pd, ww, pr, rfl, hdk, hnl, hnd, hlen, hw, hwd, hpd, hpdk, q⟩ := h
  obtain ⟨f1, fd1, m1, k1, b1, F1, _⟩ := G1
  obtain ⟨f2, fd2, m2, k2, b2, F2, _⟩ := G2
  obtain ⟨f3, fd3, m3, k3, b3, F3, _⟩ := G3
  obtain ⟨f4, fd4, m4, k4, b4, F4, _⟩ := G4
  obtain ⟨f5, fd5, m5, k5, b5, F5, _⟩ := G5
  have nd := sc_law_rule.nd
  refine ⟨_, pss_cons (ps_set (i := 4) nd rfl (Or.inl rfl) (pe_call F1 (hr.mono (by decide)) rfl m1 k1 b1 .nil pass0 (pa_cons (pv 1) (pa_cons pe_int pa_nil))))
    (pss_cons (ps_set (i := 5) nd rfl (Or.inl rfl) (pe_call F2 (hr.mono (by decide)) rfl m2 k2 b2 .nil pass0 (pa_cons (pv 0) (pa_cons pe_int (pa_cons (pv 4) (pa_cons (pv 1) pa_nil))))))
    (pss_cons (ps_set (i := 6) nd rfl (Or.inl rfl) (pe_call F3 (hr.mono (by decide)) rfl m3 k3 b3 .nil pass0 (pa_cons (pv 0) (pa_cons pe_int (pa_cons (pe_op op_cat
        (pe_lc (own := [("_law_name", 8)]) (g := gName 8) (tt := tYes) rfl nd (pi_list (pe_call F4 (hr.mono (by decide)) rfl m4 k4 b4 .nil pass0 (pa_cons (pv 5) pa_nil))) (blkOk_by (N := ["_law_deck_here", "_law_names_here", "_law_weights_here", "_law_precedence_here", "_law_leaves_here", "_law_left", "_law_right", "_law_order", "_law_name"]) (sc := defScope s_law_rule) (by decide +kernel)) (fun _ _ _ _ _ => pg_name (i := 8) nd rfl (Or.inl rfl)) (fun _ _ _ _ _ => pts_nil) (fun _ _ _ _ _ => pv 8))
        (pe_lst (pa_cons (pe_tup (pa_cons (pe_ix ix_list (pv 1) pe_int (fun _ _ => rfl)) pa_nil)) (pa_cons (pe_tup (pa_cons (pe_ix ix_list (pv 1) pe_int (fun _ _ => rfl)) pa_nil)) pa_nil)))) (pa_cons (pv 1) pa_nil))))))
    (pss_cons (ps_set (i := 7) nd rfl (Or.inl rfl) (pe_call F5 hr rfl m5 k5 b5 .nil pass0 (pa_cons (pv 5) (pa_cons (pv 6) (pa_cons (pv 2) (pa_cons (pv 3) pa_nil))))))
    (pss_cons (ps_if (pt_cmpR op_eq (pv 7) pe_str (nomark _)) (pss_one (ps_ret (pe_tup (pa_cons (pv 5) (pa_cons (pv 6) pa_nil))))) pss_nil)
    (pss_cons (ps_if (pt_cmpR op_eq (pv 7) pe_str (nomark _)) (pss_one (ps_ret (pe_tup (pa_cons (pv 6) (pa_cons (pv 5) pa_nil))))) pss_nil)
    (pss_one (ps_ret (pe_tup (pa_cons (pe_tup (pa_cons (pe_ix ix_list (pv 1) pe_int (fun _ _ => rfl)) (pa_cons (pv 5) pa_nil))) (pa_cons (pe_tup (pa_cons (pe_ix ix_list (pv 1) pe_int (fun _ _ => rfl)) pa_nil)) pa_nil)))))))))), ?_⟩
  have nnew : ∀ {x : Addr}, H x = none → x ≠ dk := fun {x} hx e => by obtain ⟨_, _, _, _, h, _⟩ := hdk; rw [e, h] at hx; cases hx
  refine ⟨_, rfl, nl, rfl, hnl, hlen, fun ll ys H1 hll s1 hll1 hLs => ?_⟩
  have hd1 := hdk.same s1
  refine ⟨_, rfl, _, rfl, _, rfl, dk, sl, ll, nl, leaf2, ys, rfl, hd1, hll1, nnew hll, hLs, by decide, by decide, by decide, s1 _ _ hnl, hnd, hlen, fun t z H2 b2 d2 hz ht hm => ?_⟩
  have b12 : ButD dk H H2 := (ButD.of s1).trans b2
  have v2 : ∀ m, t.has m → m < 2 := fun m h => by
    obtain ⟨u, hu, hh⟩ := hm m h
    simp only [leaf2, List.mem_cons, List.not_mem_nil, or_false] at hu
    rcases hu with rfl | rfl | rfl | rfl | rfl
    · have : 0 = m := hh; omega
    · have : 1 = m := hh; omega
    · exact hh.elim
    · exact hh.elim
    · exact hh.elim
  have hsz := size_nest4 (t := t) (by omega)
  refine ⟨_, rfl, _, rfl, t, z, rfl, hz, by omega, few_size (by omega), fun pv ns H3 hpv s3 hV hpl => ?_⟩
  have b13 : ButD dk H H3 := b12.trans (ButD.of s3)
  have d3 := d2.same s3
  have hz3 := hz.same s3
  have hns : ns.length ≤ 2 := nodup_lt 2 ns hV.2.1 fun m h => v2 m ((hV.1 m).mp h)
  refine ⟨pv, rfl, ⟨_, SqL.of hpl⟩, fun D1 hD1 => lc_map_lst (R := fun _ (b : Nat) z => z = natV b) (bs := ns) (fun _ _ _ _ _ h => h) (by rw [List.length_map]) (by rw [List.length_map]; omega) (SqL.of hpl) ?_ hD1 ?_⟩
  · intro k y b H4 Q' hy hb s4 q'
    rw [List.getElem?_map, Option.map_eq_some_iff] at hy
    obtain ⟨c, hc, rfl⟩ := hy
    rw [hc] at hb; cases hb
    exact ⟨_, rfl, q' _ H4 (Same.refl _) rfl⟩
  · intro zs H4 s4 hd4 ha4
    have b14 : ButD dk H H4 := b13.trans (ButD.of s4)
    have hnl4 := b14 _ _ hnd hnl
    have g0 := name_at (N := N) (i := 0) (by omega)
    have g1 := name_at (N := N) (i := 1) (by omega)
    have z1' : 1 ≤ sizeLine := by decide
    refine ⟨_, rfl, nl, _, 0, _, rfl, rfl, SqL.of hnl4, at_of (j := 0) rfl g0, z1', fun t0 h0 => ?_⟩
    have s5 := same_new h0 (.tup [.str (N.getD 0 "")])
    refine ⟨_, rfl, nl, _, 1, _, rfl, rfl, SqL.of (s5 _ _ hnl4), at_of (j := 1) rfl g1, z1', fun t1 h1 => ?_⟩
    have s6 := same_new h1 (.tup [.str (N.getD 1 "")])
    refine ⟨(show 2 ≤ sizeLine by decide), fun l3 h3 => ?_⟩
    have s7 := same_new h3 (.lst [.ref t0, .ref t1])
    have k0 := s7 _ _ (s6 _ _ (upd_same (H := H4) (a := t0) (o := .tup [.str (N.getD 0 "")])))
    have k1 := s7 _ _ (upd_same (H := upd H4 t0 (.tup [.str (N.getD 0 "")])) (a := t1) (o := .tup [.str (N.getD 1 "")]))
    have k3 := upd_same (H := upd (upd H4 t0 (.tup [.str (N.getD 0 "")])) t1 (.tup [.str (N.getD 1 "")])) (a := l3) (o := .lst [.ref t0, .ref t1])
    have s57 := s5.trans (s6.trans s7)
    generalize upd (upd (upd H4 t0 _) t1 _) l3 _ = H5 at k0 k1 k3 s57
    have ez : zs = ns.map natV := by
      have := all_nat ha4
      rw [this, List.map_map]; rfl
    subst ez
    refine ⟨D1, l3, _, _, rfl, rfl, s57 _ _ hd4, k3, Nat.le_trans (show (ns.map natV).length + 2 ≤ 4 by rw [List.length_map]; omega) (by decide), fun p hp => ?_⟩
    have s8 := same_new hp (.lst (ns.map natV ++ [.ref t0, .ref t1]))
    have s9 := s57.trans s8
    have b15 : ButD dk H (upd H5 p (.lst (ns.map natV ++ [.ref t0, .ref t1]))) := b14.trans (ButD.of s9)
    have d5 := (d3.same s4).same s9
    have pdk : p ≠ dk := fun e => by obtain ⟨_, _, _, _, h, _⟩ := (d3.same s4).same s57; rw [e, h] at hp; cases hp
    have hz5 := (hz3.same s4).same s9
    have hp5 : upd H5 p (.lst (ns.map natV ++ [.ref t0, .ref t1])) p = some (.lst (ns.map natV ++ [.ref t0, .ref t1])) := upd_same
    have j0 := s8 _ _ k0
    have j1 := s8 _ _ k1
    generalize upd H5 p (.lst (ns.map natV ++ [.ref t0, .ref t1])) = H6 at b15 d5 hz5 hp5 j0 j1
    have hvs : ∀ {l : List Nat}, TmsAt N H6 (l.map Tm.v) (l.map natV) := fun {l} => by
      induction l with
      | nil => rfl
      | cons a l ih => exact ⟨_, _, rfl, rfl, ih⟩
    have hLs6 : TmsAt N H6 (ns.map Tm.v ++ [.c 0, .c 1]) (ns.map natV ++ [.ref t0, .ref t1]) := AllAt.append hvs ⟨_, _, rfl, ⟨t0, rfl, j0⟩, _, _, rfl, ⟨t1, rfl, j1⟩, rfl⟩
    refine ⟨_, rfl, dk, sl, p, nl, ns.map Tm.v ++ [.c 0, .c 1], _, rfl, d5, hp5, pdk, hLs6, by simp, by rw [List.length_append, List.length_map]; simp only [List.length_cons, List.length_nil]; omega, fun u hu => ?_, b15 _ _ hnd hnl, hnd, hlen, fun t' z' H7 b7 d7 hz' ht' hm' => ?_⟩
    · rcases List.mem_append.mp hu with h | h
      · obtain ⟨m, _, rfl⟩ := List.mem_map.mp h; rfl
      · simp only [List.mem_cons, List.not_mem_nil, or_false] at h
        rcases h with rfl | rfl <;> rfl
    have b17 := b15.trans b7
    have hz7 := hz5.tupS (d5.tup b7)
    have v2' : ∀ m, t'.has m → m < 2 := fun m h => by
      obtain ⟨u, hu, hh⟩ := hm' m h
      rcases List.mem_append.mp hu with hu | hu
      · obtain ⟨m', hm2, rfl⟩ := List.mem_map.mp hu
        have : m' = m := hh
        subst this
        exact v2 _ ((hV.1 _).mp hm2)
      · simp only [List.mem_cons, List.not_mem_nil, or_false] at hu
        rcases hu with rfl | rfl
        · exact hh.elim
        · exact hh.elim
    have hsz' := size_nest4 (t := t') (by omega)
    have hw7 : WtAt N H7 wd ww := by obtain ⟨kv, a, c⟩ := hw; exact ⟨kv, b17 _ _ hwd a, c⟩
    refine ⟨_, rfl, _, rfl, _, rfl, _, rfl, wd, pd, ww, pr, t, t', z, z', rfl, hw7, b17 _ _ hpdk hpd, hz7, hz', by omega, by omega, by omega, by omega, fun sr H8 s8' hc => ?_⟩
    have b18 : ButD dk H H8 := b17.trans (ButD.of s8')
    have d8 := d7.same s8'
    refine ⟨_, rfl, rfl, _, rfl, ?_⟩
    by_cases e1 : sr = "greater"
    · rw [decide_eq_true (show V.str sr = V.str "greater" by rw [e1])]
      refine iteT ?_
      refine ⟨_, rfl, _, rfl, (show 2 ≤ sizeLine by decide), fun pp hpp => ?_⟩
      have s9' := same_new hpp (.tup [z, z'])
      exact q (t, t') _ _ (b18.trans (ButD.of s9')) (d8.same s9') ⟨pp, z, z', rfl, upd_same, (hz7.same s8').same s9', (hz'.same s8').same s9'⟩ ⟨by show t.nest ≤ 4; omega, by show t'.nest ≤ 3; omega, fun h => by have h : t.nest = 4 := h; omega, fun m h => h.elim (v2 m) (v2' m)⟩
    · rw [decide_eq_false (show ¬ V.str sr = V.str "greater" from fun h => e1 (V.str.inj h))]
      refine iteF ?_
      refine ⟨_, rfl, rfl, _, rfl, ?_⟩
      by_cases e2 : sr = "less"
      · rw [decide_eq_true (show V.str sr = V.str "less" by rw [e2])]
        refine iteT ?_
        refine ⟨_, rfl, _, rfl, (show 2 ≤ sizeLine by decide), fun pp hpp => ?_⟩
        have s9' := same_new hpp (.tup [z', z])
        exact q (t', t) _ _ (b18.trans (ButD.of s9')) (d8.same s9') ⟨pp, z', z, rfl, upd_same, (hz'.same s8').same s9', (hz7.same s8').same s9'⟩ ⟨by show t'.nest ≤ 4; omega, by show t.nest ≤ 3; omega, fun h => by have h : t'.nest = 4 := h; omega, fun m h => h.elim (v2' m) (v2 m)⟩
      · rw [decide_eq_false (show ¬ V.str sr = V.str "less" from fun h => e2 (V.str.inj h))]
        refine iteF ?_
        have hnl8 := b18 _ _ hnd hnl
        have g3 := name_at (N := N) (i := 3) (by omega)
        refine ⟨_, rfl, nl, _, 3, _, rfl, rfl, SqL.of hnl8, at_of (j := 3) rfl g3, _, rfl, (show 2 ≤ sizeLine by decide), fun pa hpa => ?_⟩
        have sa := same_new hpa (.tup [.str (N.getD 3 ""), z])
        refine ⟨_, rfl, nl, _, 0, _, rfl, rfl, SqL.of (sa _ _ hnl8), at_of (j := 0) rfl g0, z1', fun pb hpb => ?_⟩
        have sb := same_new hpb (.tup [.str (N.getD 0 "")])
        refine ⟨(show 2 ≤ sizeLine by decide), fun pp hpp => ?_⟩
        have sc := same_new hpp (.tup [.ref pa, .ref pb])
        have ka := sc _ _ (sb _ _ (upd_same (H := H8) (a := pa) (o := .tup [.str (N.getD 3 ""), z])))
        have kb := sc _ _ (upd_same (H := upd H8 pa (.tup [.str (N.getD 3 ""), z])) (a := pb) (o := .tup [.str (N.getD 0 "")]))
        have sabc := sa.trans (sb.trans sc)
        exact q (.f t, .c 0) _ _ (b18.trans (ButD.of sabc)) (d8.same sabc) ⟨pp, .ref pa, .ref pb, rfl, upd_same, ⟨pa, z, rfl, ka, (hz7.same s8').same sabc⟩, ⟨pb, rfl, kb⟩⟩ ⟨by show (Tm.f t).nest ≤ 4; simp only [Tm.nest]; omega, by show 1 ≤ 3; omega, fun _ => ⟨t, rfl⟩, fun m h => h.elim (v2 m) fun h => h.elim⟩
end
end K78
end
section
set_option maxHeartbeats 4000000
namespace K78
open PySem PySem.Spec PyProof.Rows L2
section
variable {P : Program} {w : World} {K : PySem.W.Frag} {mg : Str → Option Value} {base : Heap} {N : List Str}
/-- the drawn rules -/
def RsDr (N : List Str) (ww : Nat → Nat) (pr : List Str) (R : List Rule) : Prop := ∀ r, r ∈ R → RDr r ∧ r.1.isV = false ∧ Gt ww (hiN N pr) r.1 r.2 ∧ r.1 ≠ r.2
def spRules (N : List Str) : Sp := fun vs H Q _ => ∃ (dk sl nl wd pd : Addr) (ww : Nat → Nat) (pr : List Str), vs = [.ref dk, .ref nl, .ref wd, .ref pd, .int 3] ∧ DeckAt H dk sl ∧ H nl = some (.lst (N.map V.str)) ∧ nl ≠ dk ∧ N.length = 7 ∧ WtAt N H wd ww ∧ wd ≠ dk ∧ H pd = some (.lst (pr.map V.str)) ∧ pd ≠ dk ∧
  ∀ R l ys H', ButD dk H H' → DeckAt H' dk sl → H l = none → H' l = some (.lst ys) → AllAt (RuleAt N H') R ys → R.length ≤ 3 → RsDr N ww pr R → Q (.ref l) H'
theorem ok_rules (z0 : mg "isinstance" = none) (zt : mg "tuple" = none) (z1 : mg "range" = none) (D : DF K mg "_law_rules" s_law_rules ["_law_deck_here", "_law_names_here", "_law_weights_here", "_law_precedence_here", "_law_most"]) (G1 : OkD P w K mg base 1 "_law_draw" ["_law_deck_here", "_law_most"] spDraw)
    (G2 : OkD P w K mg base 11 "_law_rule" ["_law_deck_here", "_law_names_here", "_law_weights_here", "_law_precedence_here"] (spRule N)) (G3 : OkD P w K mg base 10 "_law_compare" ["_law_first", "_law_second", "_law_weights_here", "_law_precedence_here"] (spLCmp N 8)) :
    OkD P w K mg base 12 "_law_rules" ["_law_deck_here", "_law_names_here", "_law_weights_here", "_law_precedence_here", "_law_most"] (spRules N) := by
  refine D.ok (k := 11) sc_law_rules (fun vs H Q E h => ?_) (fun f cdv A outer s H vs Q E hr h => ?_)
  · obtain ⟨dk, sl, nl, wd, pd, ww, pr, rfl, _⟩ := h
    rfl
  obtain ⟨dk, sl, nl, wd, pd, ww, pr, rfl, hdk, hnl, hnd, hlen, hw, hwd, hpd, hpdk, q⟩ := h
  obtain ⟨f1, fd1, m1, k1, b1, F1, _⟩ := G1
  obtain ⟨f2, fd2, m2, k2, b2, F2, _⟩ := G2
  obtain ⟨f3, fd3, m3, k3, b3, F3, _⟩ := G3
  have nd := sc_law_rules.nd
  refine ⟨_, pss_cons (ps_set (i := 5) nd rfl (Or.inl rfl) (pe_lst pa_nil))
    (pss_cons (ps_for PassesOwn.never rfl (pi_range1 (by rfl) z1 (pa_cons (pe_call F1 (hr.mono (by decide)) rfl m1 k1 b1 .nil pass0 (pa_cons (pv 0) (pa_cons (pe_op op_add (pv 4) pe_int) pa_nil))) pa_nil)) (pg_name (i := 6) nd rfl (.inl rfl))
      (pss_cons (ps_set (i := 7) nd rfl (Or.inl rfl) (pe_call F2 hr rfl m2 k2 b2 .nil pass0 (pa_cons (pv 0) (pa_cons (pv 1) (pa_cons (pv 2) (pa_cons (pv 3) pa_nil))))))
      (pss_one (ps_if (PW.pt (pw_and (pt_val (pe_callB (call_isTm (N := N)) (by rfl) z0 (by decide +kernel) (pa_cons (pe_ix ix_tup (pv 7) pe_int (fun _ _ => rfl)) (pa_cons (pe_bltn (v := .ty "tuple") (by rfl) zt (by decide +kernel) rfl) pa_nil))))
          (pw_and1 (pt_cmpR op_eq (pe_call F3 (hr.mono (by decide)) rfl m3 k3 b3 .nil pass0 (pa_cons (pe_ix ix_tup (pv 7) pe_int (fun _ _ => rfl)) (pa_cons (pe_ix ix_tup (pv 7) pe_int (fun _ _ => rfl)) (pa_cons (pv 2) (pa_cons (pv 3) pa_nil))))) pe_str (nomark _)))))
        (pss_one (ps_expr (pe_bm PySem.F.plainAttrs_list PySem.F.slot_list_append PySem.F.type_list_append mt_append (pv 5) (pa_cons (pv 7) pa_nil)))) pss_nil))))
    (pss_one (ps_ret (pv 5)))), ?_⟩
  refine ⟨(show 0 ≤ sizeLine by decide), fun rl hrl => ?_⟩
  have s1 : Same H (upd H rl (.lst [])) := same_new hrl _
  have hrd : rl ≠ dk := fun e => by obtain ⟨_, _, _, _, h, _⟩ := hdk; rw [e, h] at hrl; cases hrl
  have hrs : sl ≠ rl := fun e => by obtain ⟨_, _, _, _, _, h, _⟩ := hdk; rw [e, hrl] at h; cases h
  refine ⟨_, rfl, _, rfl, 3, 1, rfl, rfl, dk, sl, 4, rfl, hdk.same s1, by decide, by decide, fun n H1 hn bb1 dd1 => ?_⟩
  refine ⟨(n : Int), rfl, by omega, by omega, ?_⟩
  rw [Int.toNat_natCast]
  refine for_range (lo := 0) (n := n) (fun i σ H' => ∃ (R : List Rule) (ys : List V) (v6 v7 : Option V), σ = [some (.ref dk), some (.ref nl), some (.ref wd), some (.ref pd), some (.int 3), some (.ref rl), v6, v7] ∧ ButD dk H H' ∧ DeckAt H' dk sl ∧ H' rl = some (.lst ys) ∧ AllAt (RuleAt N H') R ys ∧ R.length ≤ i ∧ RsDr N ww pr R) ?_ ?_ ?_
  · exact ⟨[], [], none, none, rfl, (ButD.of s1).trans bb1, dd1, bb1 _ _ hrd upd_same, rfl, Nat.le_refl _, fun r h => by cases h⟩
  · rintro i σ H2 hi ⟨R, ys, v6, v7, rfl, bH, dH, hy, hys, hRl, hRs⟩
    have hwA : ∀ {Hx : Hp}, ButD dk H Hx → WtAt N Hx wd ww := fun {Hx} b => by obtain ⟨kv, a, c⟩ := hw; exact ⟨kv, b _ _ hwd a, c⟩
    refine ⟨_, rfl, _, rfl, _, rfl, _, rfl, dk, sl, nl, wd, pd, ww, pr, rfl, dH, bH _ _ hnd hnl, hnd, hlen, hwA bH, hwd, bH _ _ hpdk hpd, hpdk, fun r y H3 b3' d3 hr3 hdr => ?_⟩
    have b13 := bH.trans b3'
    have hy3 := b3' _ _ hrd hy
    have hys3 : AllAt (RuleAt N H3) R ys := AllAt.mono (fun e z h => rule_tupS h (dH.tup b3')) hys
    obtain ⟨a, x, z, rfl, ha, hx, hz⟩ := id hr3
    have n1 := hdr.n1
    have n2 := hdr.n2
    have sz1 := size_nest4 n1
    have sz2 := size_nest4 (t := r.2) (by omega)
    refine ⟨_, rfl, a, _, 0, x, rfl, rfl, SqT.of ha, atI_nat (j := 0) rfl, r.1, x, rfl, hx, _, rfl, ?_⟩
    cases hv : r.1.isV with
    | true =>
      refine iteF ?_
      exact ⟨R, ys, _, _, rfl, b13, d3, hy3, hys3, by omega, hRs⟩
    | false =>
      refine iteT ?_
      refine ⟨_, rfl, a, _, 0, x, rfl, rfl, SqT.of ha, atI_nat (j := 0) rfl, _, rfl, a, _, 1, z, rfl, rfl, SqT.of ha, atI_nat (j := 1) rfl, _, rfl, _, rfl, wd, pd, ww, pr, r.1, r.2, x, z, rfl, hwA b13, b13 _ _ hpdk hpd, hx, hz, by omega, by omega, by omega, by omega, fun sr H4 s4 hc => ?_⟩
      refine ⟨rfl, _, rfl, ?_⟩
      have hy4 := s4 _ _ hy3
      have hys4 : AllAt (RuleAt N H4) R ys := AllAt.mono (fun e z h => rule_same h s4) hys3
      by_cases e1 : sr = "greater"
      · rw [decide_eq_true (show V.str sr = V.str "greater" by rw [e1])]
        refine iteT ?_
        have hyl : ys.length ≤ 16 := by rw [hys4.length]; omega
        refine ⟨_, rfl, .inl ⟨rfl, _, SqL.of hy4⟩, _, rfl, rl, ys, _, rfl, rfl, hy4, sz16 (by omega), ?_⟩
        have t5 : TupSame H4 (upd H4 rl (.lst (ys ++ [.ref a]))) := tup_upd hy4
        have d5 : DeckAt (upd H4 rl (.lst (ys ++ [.ref a]))) dk sl := by
          obtain ⟨ns, a', b', c', h1, h2, h3, h4⟩ := d3.same s4
          exact ⟨ns, a', b', c', kp hrd.symm h1 _, kp hrs h2 _, h3, h4⟩
        refine ⟨R ++ [r], _, _, _, rfl, fun b o nb h => kp (ne_of_none h hrl) (s4 _ _ (b13 b o nb h)) _, d5, upd_same, AllAt.snoc (AllAt.mono (fun e z h => rule_tupS h t5) hys4) (rule_tupS (rule_same hr3 s4) t5), by rw [List.length_append, List.length_singleton]; omega, fun r' hr' => ?_⟩
        rcases List.mem_append.mp hr' with h | h
        · exact hRs r' h
        · rw [List.mem_singleton.mp h]
          rcases hc with ⟨e, _⟩ | ⟨_, h1, h2⟩ | ⟨e, _⟩ | ⟨e, _⟩
          · rw [e1] at e; exact absurd e (by decide +kernel)
          · exact ⟨hdr, hv, h2, h1⟩
          · rw [e1] at e; exact absurd e (by decide +kernel)
          · rw [e1] at e; exact absurd e (by decide +kernel)
      · rw [decide_eq_false (show ¬ V.str sr = V.str "greater" from fun h => e1 (V.str.inj h))]
        refine iteF ?_
        exact ⟨R, ys, _, _, rfl, b13.trans (ButD.of s4), d3.same s4, hy4, hys4, by omega, hRs⟩
  · rintro σ H2 ⟨R, ys, v6, v7, rfl, bH, dH, hy, hys, hRl, hRs⟩
    exact ⟨_, rfl, q R rl ys H2 bH dH hrl hy hys (by omega) hRs⟩
end
end K78
end
section
set_option maxHeartbeats 4000000
namespace K78
open PySem PySem.Spec PyProof.Rows L2
section
variable {P : Program} {w : World} {K : PySem.W.Frag} {mg : Str → Option Value} {base : Heap} {N : List Str}
/-! ### _law_same of two bools -/
def rIs2 (s : String) (c : Bool) : List V → Hp → VK → Prop := fun xs H Q => ∃ k : Bool, xs = [.bl k, .ty s] ∧ Q (.bl c) H
theorem call_is2t {X : Cx} : CallR X (.builtin "isinstance") (rIs2 "tuple" false) := by
  intro pins s σ H xs us Q I r h
  obtain ⟨i, rfl, q⟩ := h
  exact call_isi pins s σ H _ us Q I r ⟨_, _, _, _, false, rfl, .ty "tuple", .base (.bl _), kit_ty (by decide +kernel), q⟩
theorem call_is2b {X : Cx} : CallR X (.builtin "isinstance") (rIs2 "bool" true) := by
  intro pins s σ H xs us Q I r h
  obtain ⟨i, rfl, q⟩ := h
  exact call_isi pins s σ H _ us Q I r ⟨_, _, _, _, true, rfl, .ty "bool", .base (.bl _), kit_ty (by decide +kernel), q⟩
def spSame : Sp := fun vs H Q _ => ∃ a b : Bool, vs = [.bl a, .bl b] ∧ ∀ H', Same H H' → Q (.bl (decide (a = b))) H'
theorem ok_same (z0 : mg "isinstance" = none) (zt : mg "tuple" = none) (zb : mg "bool" = none) (D : DF K mg "_law_same" s_law_same ["_law_actual", "_law_due"]) : OkD P w K mg base 1 "_law_same" ["_law_actual", "_law_due"] spSame := by
  refine D.ok (k := 0) sc_law_same (fun vs H Q E h => ?_) (fun f cdv A outer s H vs Q E hr h => ?_)
  · obtain ⟨a, b, rfl, _⟩ := h
    rfl
  obtain ⟨a, b, rfl, q⟩ := h
  have nd := sc_law_same.nd
  refine ⟨_, pss_cons (ps_if (pt_val (pe_callB call_is2t (by rfl) z0 (by decide +kernel) (pa_cons (pv 1) (pa_cons (pe_bltn (v := .ty "tuple") (by rfl) zt (by decide +kernel) rfl) pa_nil)))) (pss_cons ps_never (pss_cons ps_never (pss_one ps_never))) pss_nil)
    (pss_cons (ps_if (PW.pt (pw_or (pt_val (pe_callB call_is2b (by rfl) z0 (by decide +kernel) (pa_cons (pv 1) (pa_cons (pe_bltn (v := .ty "bool") (by rfl) zb (by decide +kernel) rfl) pa_nil)))) (pw_or1 (pt_val (pe_callB call_is2b (by rfl) z0 (by decide +kernel) (pa_cons (pv 0) (pa_cons (pe_bltn (v := .ty "bool") (by rfl) zb (by decide +kernel) rfl) pa_nil)))))))
      (pss_one (ps_ret (pe_and (pe_callB call_is2b (by rfl) z0 (by decide +kernel) (pa_cons (pv 1) (pa_cons (pe_bltn (v := .ty "bool") (by rfl) zb (by decide +kernel) rfl) pa_nil))) (pe_and (pe_callB call_is2b (by rfl) z0 (by decide +kernel) (pa_cons (pv 0) (pa_cons (pe_bltn (v := .ty "bool") (by rfl) zb (by decide +kernel) rfl) pa_nil))) (pe_one (pe_cmpR op_eq (pv 1) (pv 0) (nomark _))))))) pss_nil)
    (pss_cons ps_never (pss_cons ps_never (pss_one ps_never)))), ?_⟩
  refine ⟨_, rfl, b, rfl, _, rfl, ?_⟩
  refine iteF ?_
  refine ⟨_, rfl, b, rfl, _, rfl, ?_⟩
  refine iteT ?_
  refine ⟨_, rfl, b, rfl, true, rfl, ?_⟩
  refine ⟨_, rfl, a, rfl, true, rfl, ?_⟩
  refine ⟨_, rfl, _, rfl, rfl, ?_⟩
  have e : decide (V.bl b = V.bl a) = decide (a = b) := by
    cases a <;> cases b <;> rfl
  rw [e]
  exact q H (Same.refl H)
end
end K78
end
section
set_option maxHeartbeats 4000000
namespace K78
open PySem PySem.Spec PyProof.Rows L2
/-- one rewriting, by any rule at any place -/
def St (R : List Rule) (t u : Tm) : Prop := ∃ r p, r ∈ R ∧ p ∈ t.plc ∧ stepAt [r] t p = some u
theorem but_tup {H H' : Hp} {l : Addr} {zs : List V} (h : H l = some (.lst zs)) (e : ButD l H H') : TupSame H H' := fun x xs hx => e x _ (fun z => by subst z; rw [h] at hx; cases hx) hx
theorem DeckAt.but {H H' : Hp} {dk sl l : Addr} (h : DeckAt H dk sl) (e : ButD l H H') (n1 : dk ≠ l) (n2 : sl ≠ l) : DeckAt H' dk sl := by
  obtain ⟨ns, a, b, c, h1, h2, h3, h4⟩ := h
  exact ⟨ns, a, b, c, e _ _ n1 h1, e _ _ n2 h2, h3, h4⟩
section
variable {P : Program} {w : World} {K : PySem.W.Frag} {mg : Str → Option Value} {base : Heap} {N : List Str}
theorem RulesAt.but {H H' : Hp} {l fl : Addr} {R : List Rule} (h : RulesAt N H l R) (e : ButD fl H H') (t : TupSame H H') (n : l ≠ fl) : RulesAt N H' l R := by
  obtain ⟨ys, h1, h2⟩ := h
  exact ⟨ys, e _ _ n h1, AllAt.mono (fun _ _ q => q.tupS t) h2⟩
/-! ### _law_walk -/
def spWalk (N : List Str) : Sp := fun vs H Q _ => ∃ (dk sl rl : Addr) (x : V) (t : Tm) (R : List Rule) (G : Tm → Prop), vs = [.ref dk, .ref rl, x] ∧ DeckAt H dk sl ∧ RulesAt N H rl R ∧ rl ≠ dk ∧ TmAt N H t x ∧ RB R ∧ R.length ≤ 3 ∧ (∀ t, G t → t.nest ≤ 110 ∧ t.size ≤ 10000) ∧ (∀ t u, G t → St R t u → G u) ∧ G t ∧
  ∀ u z H', ButD dk H H' → DeckAt H' dk sl → TmAt N H' u z → G u → Q z H'
theorem ok_walk (hN : NmOk N) (z1 : mg "range" = none) (z2 : mg "len" = none) (D : DF K mg "_law_walk" s_law_walk ["_law_deck_here", "_law_rules_here", "_law_term_here"]) (G1 : OkD P w K mg base 110 "_law_places" ["_law_term_here"] (spLPos N 110))
    (G2 : OkD P w K mg base 112 "_law_step_at" ["_law_rules_here", "_law_term_here", "_law_place"] (spStep N false)) (G3 : OkD P w K mg base 1 "_law_draw" ["_law_deck_here", "_law_most"] spDraw) :
    OkD P w K mg base 113 "_law_walk" ["_law_deck_here", "_law_rules_here", "_law_term_here"] (spWalk N) := by
  refine D.ok (k := 112) sc_law_walk (fun vs H Q E h => ?_) (fun f cdv A outer s H vs Q E hr h => ?_)
  · obtain ⟨dk, sl, rl, x, t, R, G, rfl, _⟩ := h
    rfl
  obtain ⟨dk, sl, rl, x, t, R, G, rfl, hdk, hR, hrd, ht, hB, hRl, hb, hst, hG, q⟩ := h
  obtain ⟨f1, fd1, m1, k1, b1, F1, _⟩ := G1
  obtain ⟨f2, fd2, m2, k2, b2, F2, _⟩ := G2
  obtain ⟨f3, fd3, m3, k3, b3, F3, _⟩ := G3
  have nd := sc_law_walk.nd
  refine ⟨_, pss_cons (ps_for PassesOwn.never rfl (pi_range1 (by rfl) z1 (pa_cons pe_int pa_nil)) (pg_name (i := 3) nd rfl (.inl rfl))
      (pss_cons (ps_set (i := 4) nd rfl (Or.inl rfl) (pe_lst pa_nil))
      (pss_cons (ps_for PassesOwn.never rfl (pi_list (pe_call F1 (hr.mono (by decide)) rfl m1 k1 b1 .nil pass0 (pa_cons (pv 2) pa_nil))) (pg_name (i := 5) nd rfl (.inl rfl))
        (pss_one (ps_for PassesOwn.never rfl (pi_list (pv 1)) (pg_name (i := 6) nd rfl (.inl rfl))
          (pss_cons (ps_set (i := 7) nd rfl (Or.inl rfl) (pe_call F2 hr rfl m2 k2 b2 .nil pass0 (pa_cons (pe_lst (pa_cons (pv 6) pa_nil)) (pa_cons (pv 2) (pa_cons (pv 5) pa_nil)))))
          (pss_one (ps_if (pt_cmpR op_notN (pv 7) pe_non (nomark _)) (pss_one (ps_expr (pe_bm PySem.F.plainAttrs_list PySem.F.slot_list_append PySem.F.type_list_append mt_append (pv 4) (pa_cons (pv 7) pa_nil)))) pss_nil))))))
      (pss_cons (ps_if (pt_cmpR (op_eqNil (R := fun H => TmAt N H) (fun H a y h => dp_tm h) (tmD_lay hN) (hu2 hr)) (pv 4) (pe_lst pa_nil) (nomark _)) (pss_one (ps_ret (pv 2))) pss_nil)
      (pss_one (ps_set (i := 2) nd rfl (Or.inl rfl) (pe_ix ix_list (pv 4) (pe_call F3 (hr.mono (by decide)) rfl m3 k3 b3 .nil pass0 (pa_cons (pv 0) (pa_cons (pe_callB call_len_seq (by rfl) z2 PySem.boot_len (pa_cons (pv 4) pa_nil)) pa_nil))) (fun _ _ => rfl))))))))
    (pss_one (ps_ret (pv 2))), ?_⟩
  refine ⟨6, rfl, by decide, by decide, ?_⟩
  refine for_range (lo := 0) (n := 6) (fun i σ H1 => ∃ (t' : Tm) (x' : V) (v3 v4 v5 v6 v7 : Option V), σ = [some (.ref dk), some (.ref rl), some x', v3, v4, v5, v6, v7] ∧ ButD dk H H1 ∧ DeckAt H1 dk sl ∧ TmAt N H1 t' x' ∧ G t') ?_ ?_ ?_
  · exact ⟨t, x, none, none, none, none, none, rfl, ButD.refl _ _, hdk, ht, hG⟩
  · rintro i σ H1 hi ⟨t', x', v3, v4, v5, v6, v7, rfl, bb, hdk1, ht', hG'⟩
    obtain ⟨hn, hz⟩ := hb _ hG'
    have hR1 : RulesAt N H1 rl R := hR.but bb (hdk.tup bb) hrd
    refine ⟨(show 0 ≤ sizeLine by decide), fun fl hfl => ?_⟩
    have sF : Same H1 (upd H1 fl (.lst [])) := same_new hfl _
    have hfd : dk ≠ fl := fun e => by obtain ⟨_, _, _, _, h, _⟩ := hdk1; rw [e, hfl] at h; cases h
    have hfs : sl ≠ fl := fun e => by obtain ⟨_, _, _, _, _, h, _⟩ := hdk1; rw [e, hfl] at h; cases h
    have hfr : rl ≠ fl := fun e => by obtain ⟨_, h, _⟩ := hR1; rw [e, hfl] at h; cases h
    refine ⟨_, rfl, t', x', rfl, ht'.same sF, hn, by omega, fun p ys H2 hp0 s2 hP hp2 => ?_⟩
    have hf2 := s2 _ _ (upd_same (H := H1) (a := fl) (o := .lst []))
    have s12 := sF.trans s2
    have hpf : p ≠ fl := fun e => by rw [e, upd_same] at hp0; cases hp0
    have ht2 := ht'.same s12
    have hR2 := hR1.same s12
    have hdk2 := hdk1.same s12
    refine ⟨p, rfl, ⟨_, SqL.of hp2⟩, ?_⟩
    have hyl : ys.length = t'.plc.length := hP.length
    have hpl := plc_le t'
    refine for_list (K := K) (a := p) (xs := ys) (fun j σ H3 => ∃ (us : List Tm) (zs : List V) (v5 v6 v7 : Option V), σ = [some (.ref dk), some (.ref rl), some x', some (.int (0 + (i : Int))), some (.ref fl), v5, v6, v7] ∧ ButD fl H2 H3 ∧ H3 fl = some (.lst zs) ∧ AllAt (TmAt N H3) us zs ∧ us.length ≤ 3 * j ∧ ∀ u, u ∈ us → St R t' u) ?_ ?_ ?_ ?_
    · exact ⟨[], [], v5, v6, v7, rfl, ButD.refl _ _, hf2, rfl, Nat.le_refl _, fun u h => by cases h⟩
    · rintro j σ H3 _ ⟨us, zs, v5, v6, v7, _, b3', _⟩
      exact SqL.of (b3' _ _ hpf hp2)
    · rintro j z σ H3 hj ⟨us, zs, v5, v6, v7, rfl, b3', hf3, hus, hul, hall⟩
      obtain ⟨pp, hpj, hz⟩ := hP.get hj
      have hpm := List.mem_of_getElem? hpj
      obtain ⟨hi1, hi2⟩ := isP_plc hpm
      have t23 := but_tup hf2 b3'
      obtain ⟨rs, hl, hrs⟩ := id (hR2.but b3' t23 hfr)
      have hjl : j < t'.plc.length := (List.getElem?_eq_some_iff.mp hpj).1
      refine ⟨_, rfl, rl, rfl, ⟨_, SqL.of hl⟩, ?_⟩
      refine for_list (K := K) (a := rl) (xs := rs) (fun m σ H4 => ∃ (us : List Tm) (zs : List V) (v6 v7 : Option V), σ = [some (.ref dk), some (.ref rl), some x', some (.int (0 + (i : Int))), some (.ref fl), some z, v6, v7] ∧ ButD fl H3 H4 ∧ H4 fl = some (.lst zs) ∧ AllAt (TmAt N H4) us zs ∧ us.length ≤ 3 * j + m ∧ ∀ u, u ∈ us → St R t' u) ?_ ?_ ?_ ?_
      · exact ⟨us, zs, v6, v7, rfl, ButD.refl _ _, hf3, hus, hul, hall⟩
      · rintro m σ H4 _ ⟨us, zs, v6, v7, _, b4', _⟩
        exact SqL.of (b4' _ _ hfr hl)
      · rintro m ze σ H4 hm ⟨us, zs, v6, v7, rfl, b4', hf4, hus4, hul4, hall4⟩
        obtain ⟨r, hrm, hze⟩ := hrs.get hm
        have hrR := List.mem_of_getElem? hrm
        have t34 := but_tup hf3 b4'
        have t24 : TupSame H2 H4 := fun a b h => t34 a b (t23 a b h)
        have b24 := b3'.trans b4'
        have hml : m < R.length := (List.getElem?_eq_some_iff.mp hrm).1
        refine ⟨_, rfl, (show 1 ≤ sizeLine by decide), fun l1 hl1 => ?_⟩
        have s5 : Same H4 (upd H4 l1 (.lst [ze])) := same_new hl1 _
        have hze4 : RuleAt N (upd H4 l1 (.lst [ze])) r ze := (hze.tupS t34).tupS (TupSame.of s5)
        have hx4 : TmAt N (upd H4 l1 (.lst [ze])) t' x' := (ht2.tupS t24).same s5
        have hq4 : PosAt (upd H4 l1 (.lst [ze])) pp z := by
          obtain ⟨a, e, h⟩ := hz
          exact ⟨a, e, s5 _ _ (t24 _ _ h)⟩
        refine ⟨_, rfl, _, rfl, [r], t', pp, l1, x', z, rfl, ⟨[ze], upd_same, ze, [], rfl, hze4, rfl⟩, hx4, hq4, hi1, fun r' h => ?_, hn, fun h => (by cases h), fun zn u H5 s6 em hzn => ?_, fun H5 s6 em => ?_⟩
        · rw [List.mem_singleton.mp h]; exact hB r hrR
        · refine ⟨_, rfl, rfl, _, rfl, ?_⟩
          rw [decide_eq_false (tm_ne_none hzn)]
          refine iteT ?_
          have s56 := s5.trans s6
          have hf5 := s56 _ _ hf4
          have hzl : zs.length = us.length := hus4.length
          refine ⟨_, rfl, .inl ⟨rfl, _, SqL.of hf5⟩, _, rfl, fl, zs, _, rfl, rfl, hf5, szT (by omega), ?_⟩
          have t6 : TupSame H5 (upd H5 fl (.lst (zs ++ [zn]))) := tup_upd hf5
          refine ⟨us ++ [u], _, _, _, rfl, fun b o nb h => kp nb (s56 _ _ (b4' b o nb h)) _, upd_same, AllAt.snoc (AllAt.mono (fun e z h => (TmAt.same h s56).tupS t6) hus4) (hzn.tupS t6), by rw [List.length_append, List.length_singleton]; omega, fun u' hu' => ?_⟩
          rcases List.mem_append.mp hu' with h | h
          · exact hall4 u' h
          · rw [List.mem_singleton.mp h]
            exact ⟨r, pp, hrR, hpm, em⟩
        · refine ⟨_, rfl, rfl, _, rfl, ?_⟩
          refine iteF ?_
          have s56 := s5.trans s6
          exact ⟨us, zs, _, _, rfl, b4'.trans (ButD.of s56), s56 _ _ hf4, AllAt.mono (fun e z h => TmAt.same h s56) hus4, by omega, hall4⟩
      · rintro σ H4 ⟨us, zs, v6, v7, rfl, b4', hf4, hus4, hul4, hall4⟩
        have : rs.length = R.length := hrs.length
        exact ⟨us, zs, _, _, _, rfl, b3'.trans b4', hf4, hus4, by omega, hall4⟩
    · rintro σ H3 ⟨us, zs, v5, v6, v7, rfl, b3', hf3, hus, hul, hall⟩
      have t23 := but_tup hf2 b3'
      have ht3 := ht2.tupS t23
      have hdk3 := hdk2.but b3' hfd hfs
      have bb3 : ButD dk H H3 := fun b o nb h => by
        have h1 := bb b o nb h
        exact b3' b o (ne_of_none h1 hfl) (s12 _ _ h1)
      refine ⟨_, rfl, (show 0 ≤ sizeLine by decide), fun l0 hl0 => ?_⟩
      have s4 : Same H3 (upd H3 l0 (.lst [])) := same_new hl0 _
      refine ⟨fl, l0, us, zs, rfl, rfl, s4 _ _ hf3, AllAt.mono (fun e z h => TmAt.same h s4) hus, upd_same, _, rfl, ?_⟩
      cases us with
      | nil =>
        refine iteT ?_
        exact ⟨_, rfl, q t' x' _ (bb3.trans (ButD.of s4)) (hdk3.same s4) (ht3.same s4) hG'⟩
      | cons u0 us' =>
        refine iteF ?_
        have hzl : zs.length = (u0 :: us').length := hus.length
        rw [List.length_cons] at hzl hul
        refine ⟨_, rfl, _, rfl, _, rfl, fl, zs, rfl, .inl (SqL.of (s4 _ _ hf3)), dk, sl, zs.length, rfl, hdk3.same s4, by omega, by omega, fun k H5 hk b5 d5 => ?_⟩
        have hf5 := b5 _ _ (Ne.symm hfd) (s4 _ _ hf3)
        have hg : zs[k]? = some (zs[k]'hk) := List.getElem?_eq_getElem hk
        obtain ⟨u, hu, hzu⟩ := hus.get hg
        have hum := List.mem_of_getElem? hu
        have t5 := (hdk3.same s4).tup b5
        refine ⟨fl, zs, (k : Int), _, rfl, rfl, SqL.of hf5, at_of (j := k) rfl hg, ?_⟩
        exact ⟨u, _, _, _, _, _, _, rfl, (bb3.trans (ButD.of s4)).trans b5, d5, (TmAt.same hzu s4).tupS t5, hst _ _ hG' (hall u hum)⟩
  · rintro σ H1 ⟨t', x', v3, v4, v5, v6, v7, rfl, bb, hdk1, ht', hG'⟩
    exact ⟨_, rfl, q t' x' H1 bb hdk1 ht' hG'⟩
end
end K78
end
section
set_option maxHeartbeats 4000000
/-! P5: what holds of the drawn rules -/
namespace K78
open PySem PySem.Spec PyProof.Rows L2
theorem countP_lt {α : Type} {p q : α → Bool} : ∀ {l : List α}, (∀ x, x ∈ l → p x = true → q x = true) → (∃ x, x ∈ l ∧ q x = true ∧ p x = false) → l.countP p < l.countP q
  | [], _, ⟨x, h, _⟩ => by cases h
  | a :: l, h, ⟨x, hx, q1, q2⟩ => by
    have le : l.countP p ≤ l.countP q := List.countP_mono_left fun x hx hp => h x (List.mem_cons_of_mem _ hx) hp
    rw [List.countP_cons, List.countP_cons]
    rcases List.mem_cons.mp hx with rfl | hx
    · rw [q1, q2]; simp; omega
    · have ih := countP_lt (p := p) (q := q) (l := l) (fun x hx => h x (List.mem_cons_of_mem _ hx)) ⟨x, hx, q1, q2⟩
      have ha := h a (List.mem_cons_self ..)
      cases hp : p a with
      | true => rw [ha hp]; simp; omega
      | false => simp; split <;> omega
theorem ix_lt {pr : List Str} {a : Str} (h : a ∈ pr) : ix pr a < pr.length := (List.getElem?_eq_some_iff.mp (ix_get h).1).1
/-- the symbols' ranks as numbers -/
theorem hi_rank (N pr : List Str) : ∃ rk : Nat → Nat, ∀ i j, i < 5 → j < 5 → hiN N pr i j → rk j < rk i := by
  classical
  let M : Nat → List Nat := fun i => (N.getD i "").cps.toList
  refine ⟨fun i => if N.getD i "" ∈ pr then ix pr (N.getD i "") else pr.length + (List.range 5).countP fun j => decide (M j < M i), fun i j hi hj h => ?_⟩
  unfold hiN hiS at h
  by_cases e : N.getD i "" = N.getD j ""
  · rw [if_pos e] at h; cases h
  rw [if_neg e] at h
  by_cases a : N.getD i "" ∈ pr
  · by_cases b : N.getD j "" ∈ pr
    · rw [if_pos ⟨a, b⟩] at h
      show (if N.getD j "" ∈ pr then _ else _) < (if N.getD i "" ∈ pr then _ else _)
      rw [if_pos a, if_pos b]
      exact of_decide_eq_true h
    · rw [if_neg fun q => b q.2, if_pos (.inl a)] at h
      exact absurd (of_decide_eq_true h) b
  · by_cases b : N.getD j "" ∈ pr
    · show (if N.getD j "" ∈ pr then _ else _) < (if N.getD i "" ∈ pr then _ else _)
      rw [if_neg a, if_pos b]
      have := ix_lt b
      omega
    · rw [if_neg fun q => a q.1, if_neg fun q => q.elim a b] at h
      show (if N.getD j "" ∈ pr then _ else _) < (if N.getD i "" ∈ pr then _ else _)
      rw [if_neg a, if_neg b]
      have h : M j < M i := of_decide_eq_true h
      have := countP_lt (l := List.range 5) (p := fun k => decide (M k < M j)) (q := fun k => decide (M k < M i)) (fun k _ hk => by
        exact decide_eq_true (List.lt_trans (of_decide_eq_true hk) h)) ⟨j, List.mem_range.mpr hj, decide_eq_true h, decide_eq_false (List.lt_irrefl _)⟩
      omega
theorem WB.wbd {ww : Nat → Nat} (h : WB ww) : WBd ww := ⟨h.pos, h.low, by
  rcases h.f with q | q
  · exact .inl q
  · exact .inr (by rw [q]; decide)⟩
theorem RDr.n3 {r : Rule} (h : RDr r) : N3 r.1 := by
  by_cases e : r.1.nest ≤ 3
  · exact .inl e
  · have n := h.n1
    obtain ⟨t, ht⟩ := h.s (by omega)
    refine .inr ⟨t, ht, ?_⟩
    rw [ht] at n
    simp only [Tm.nest] at n
    omega
theorem plc_nv : ∀ {t : Tm} {p : List Nat}, p ∈ t.plc → (t.sat p).isV = false
  | .v n, p, h => by cases h
  | .c k, p, h => by simp only [Tm.plc, List.mem_singleton] at h; subst h; rfl
  | .f t, p, h => by
    simp only [Tm.plc, List.mem_cons, List.mem_map] at h
    rcases h with rfl | ⟨p', h', rfl⟩
    · rfl
    · exact plc_nv (t := t) h'
  | .g t u, p, h => by
    simp only [Tm.plc, List.mem_cons, List.mem_append, List.mem_map] at h
    rcases h with rfl | ⟨p', h', rfl⟩ | ⟨p', h', rfl⟩
    · rfl
    · exact plc_nv (t := t) h'
    · exact plc_nv (t := u) h'
theorem shift_nv {d : Nat} {t : Tm} (h : t.isV = false) : (t.shift d).isV = false := by
  cases t with
  | v _ => cases h
  | c _ => rfl
  | f _ => rfl
  | g _ _ => rfl
section
variable {N : List Str} {ww : Nat → Nat} {pr : List Str} {R : List Rule}
/-- all critical pairs are joined -/
def AllT (R : List Rule) : Prop := ∀ r1 r2, r1 ∈ R → r2 ∈ R → PairsAre R r1 r2 true
structure RF (N : List Str) (ww : Nat → Nat) (pr : List Str) (R : List Rule) : Prop where
  dr : RsDr N ww pr R
  wb : WB ww
theorem RF.rp (h : RF N ww pr R) : ∀ r, r ∈ R → RP ww r := fun r hr => by
  obtain ⟨a, b, c, d⟩ := h.dr r hr
  exact ⟨a.n3, a.n2, b, c.all, c.wt⟩
theorem RF.gt (h : RF N ww pr R) : ∀ r, r ∈ R → Gt ww (hiN N pr) r.1 r.2 := fun r hr => (h.dr r hr).2.2.1
theorem RF.nv (h : RF N ww pr R) : ∀ r, r ∈ R → r.1.isV = false := fun r hr => (h.dr r hr).2.1
theorem RF.acc (h : RF N ww pr R) (t : Tm) : Acc (fun u t => Rw R t u) t := by
  obtain ⟨rk, hr⟩ := hi_rank N pr
  exact Rw.acc h.wb.wbd.pos hr h.gt t
theorem RF.asymm (h : RF N ww pr R) {r : Rule} (hr : r ∈ R) : ¬ Gt ww (hiN N pr) r.2 r.1 := by
  obtain ⟨rk, hk⟩ := hi_rank N pr
  exact Gt.asymm h.wb.wbd.pos hk (h.gt r hr)
theorem has_cnt {m : Nat} : ∀ {t : Tm}, t.has m ↔ 0 < t.cnt m
  | .v n => by
    show n = m ↔ 0 < if n = m then 1 else 0
    by_cases e : n = m
    · simp [e]
    · simp [e]
  | .c _ => ⟨fun h => h.elim, fun h => absurd h (Nat.lt_irrefl 0)⟩
  | .f t => has_cnt (t := t)
  | .g t u => by
    show t.has m ∨ u.has m ↔ 0 < t.cnt m + u.cnt m
    rw [has_cnt (t := t), has_cnt (t := u)]; omega
theorem RF.vok (h : RF N ww pr R) : VOk R := fun r hr m hm => by
  have := (h.gt r hr).all m
  rw [has_cnt] at hm ⊢
  omega
theorem RF.rb (h : RF N ww pr R) : RB R := fun r hr => by
  have a := (h.dr r hr).1
  have := a.n1; have := a.n2
  have := n3_size a.n3
  exact ⟨by omega, by omega, by omega⟩
theorem RF.n4 (h : RF N ww pr R) : ∀ r, r ∈ R → r.1.nest ≤ 4 ∧ r.2.nest ≤ 4 ∧ V2 r := fun r hr => by
  have a := (h.dr r hr).1
  have := a.n2
  exact ⟨a.n1, by omega, a.v2⟩
theorem RF.img (h : RF N ww pr R) {r1 r2 : Rule} (h1 : r1 ∈ R) (h2 : r2 ∈ R) {b : Nat} {p : List Nat} {σ : Nat → Tm} (hp : p ∈ r1.1.plc) (hm : IsMgu (r1.1.sat p) (r2.1.shift b) σ) (n : Nat) : (σ n).nest ≤ 3 :=
  mgu_nest hm (plc_nv hp) (shift_nv (h.nv r2 h2)) (sat_n3 (h.dr r1 h1).1.n3) (shift_n3 (h.dr r2 h2).1.n3) n
theorem RF.cpb (h : RF N ww pr R) : ∀ r1 r2, r1 ∈ R → r2 ∈ R → CPB r1 r2 := fun r1 r2 h1 h2 b hb p hp ⟨θ, hu⟩ => by
  obtain ⟨σ, hm⟩ := mgu_exists hu
  have im := h.img h1 h2 hp hm
  have a1 := h.dr r1 h1
  have a2 := h.dr r2 h2
  refine ⟨σ, hm.un, ?_, ?_, ?_⟩
  · have := (inst_n3 im (sat_n3 (p := p) a1.1.n3)).1; omega
  · have e1 := (inst_n3 im a1.1.n3).1
    have e2 := (inst_n3 im (t := r2.2.shift b) (.inl (by rw [shift_nest]; exact a2.1.n2))).1
    have := put_ap_size σ (r2.2.shift b) r1.1 p
    unfold cpX
    omega
  · have := (inst_n3 im (t := r1.2) (.inl a1.1.n2)).1; omega
theorem RF.safe (h : RF N ww pr R) : Safe R true (GB ww) where
  nest := fun t g => by have := GB.nest h.wb.wbd g; omega
  size := fun t g => by have := GB.size h.wb.wbd g; omega
  fits := fun _ t g p hp r hr s hs => by
    have st : Rw R t (t.put p (r.2.ap s.tot)) := Rw.put hp (.root r s.tot hr (mt_some hs).symm rfl)
    have g2 := g.step h.wb.wbd h.rp st
    have a := GB.nest h.wb.wbd g2
    have b := GB.size h.wb.wbd g2
    have c := put_big (q := r.2.ap s.tot) hp
    exact ⟨by omega, by omega⟩
  next := fun t u g e => g.step h.wb.wbd h.rp (once_rw e)
theorem St.rw {t u : Tm} (h : St R t u) : Rw R t u := by
  obtain ⟨r, p, hr, hp, e⟩ := h
  have mono : ∀ {t u : Tm}, Rw [r] t u → Rw R t u := fun k => by
    induction k with
    | root r' s h e1 e2 => rw [List.mem_singleton] at h; subst h; exact .root r' s hr e1 e2
    | f _ ih => exact .f ih
    | gl x _ ih => exact .gl x ih
    | gr x _ ih => exact .gr x ih
  exact mono (stepAt_rw hp e)
theorem RF.gst (h : RF N ww pr R) {t u : Tm} (g : GB ww t) (s : St R t u) : GB ww u := g.step h.wb.wbd h.rp s.rw
theorem RF.gin (h : RF N ww pr R) {r : Rule} (hr : r ∈ R) {σ : Nat → Tm} (hs : ∀ n, (σ n).nest ≤ 3) : GB ww (r.1.ap σ) := GB.inst h.wb.wbd (h.dr r hr).1.n3 hs
/-- both sides of a critical pair come from one term -/
theorem cp_from {r1 r2 : Rule} (h1 : r1 ∈ R) (h2 : r2 ∈ R) {b : Nat} {p : List Nat} {σ : Nat → Tm} (hp : p ∈ r1.1.plc) (hu : Unif (r1.1.sat p) (r2.1.shift b) σ) : Rw R (r1.1.ap σ) (cpE r1 r2 b p σ).1 ∧ Rw R (r1.1.ap σ) (cpE r1 r2 b p σ).2 := by
  refine ⟨?_, .root r1 σ h1 rfl rfl⟩
  have key : ∀ {t : Tm} {p : List Nat}, p ∈ t.plc → p ∈ (t.ap σ).plc ∧ (t.ap σ).sat p = (t.sat p).ap σ := by
    intro t
    induction t with
    | v n => intro p h; cases h
    | c k => intro p h; simp only [Tm.plc, List.mem_singleton] at h; subst h; exact ⟨by simp [Tm.ap, Tm.plc], rfl⟩
    | f t ih =>
      intro p h
      simp only [Tm.plc, List.mem_cons, List.mem_map] at h
      rcases h with rfl | ⟨p', h', rfl⟩
      · exact ⟨by simp [Tm.ap, Tm.plc], rfl⟩
      · obtain ⟨a, b⟩ := ih h'
        exact ⟨by simp [Tm.ap, Tm.plc, a], b⟩
    | g t u ih1 ih2 =>
      intro p h
      simp only [Tm.plc, List.mem_cons, List.mem_append, List.mem_map] at h
      rcases h with rfl | ⟨p', h', rfl⟩ | ⟨p', h', rfl⟩
      · exact ⟨by simp [Tm.ap, Tm.plc], rfl⟩
      · obtain ⟨a, b⟩ := ih1 h'
        exact ⟨by simp [Tm.ap, Tm.plc, a], b⟩
      · obtain ⟨a, b⟩ := ih2 h'
        exact ⟨by simp [Tm.ap, Tm.plc, a], b⟩
  obtain ⟨k1, k2⟩ := key hp
  show Rw R (r1.1.ap σ) ((r1.1.put p (r2.2.shift b)).ap σ)
  rw [put_ap hp]
  refine Rw.put k1 (.root r2 (fun n => σ (n + b)) h2 ?_ ?_)
  · rw [k2, ← shift_ap]; exact hu
  · rw [shift_ap]
theorem RF.cpnf (h : RF N ww pr R) : CPNf R := fun r1 r2 h1 h2 b p σ hb hc hm _ _ => by
  have im := h.img h1 h2 hc.1 hm
  have g := h.gin h1 im
  obtain ⟨c1, c2⟩ := cp_from h1 h2 hc.1 hm.un
  obtain ⟨k1, u1, e1⟩ := nf_stops h.acc (cpE r1 r2 b p σ).1
  obtain ⟨k2, u2, e2⟩ := nf_stops h.acc (cpE r1 r2 b p σ).2
  exact ⟨GB ww, k1, k2, u1, u2, h.safe, g.step h.wb.wbd h.rp c1, g.step h.wb.wbd h.rp c2, e1, e2⟩
theorem RF.cpj (h : RF N ww pr R) (a : AllT R) : ∀ r1 r2, r1 ∈ R → r2 ∈ R → CPJ R r1 r2 := fun r1 r2 h1 h2 => by
  obtain ⟨b, cs, hb, ok, t, _⟩ := a r1 r2 h1 h2
  refine ⟨b, hb.1, fun p hp hc hu => ?_⟩
  obtain ⟨σ, hm, hin⟩ := ok.all p hp ⟨hp, hc⟩ hu
  obtain ⟨k, u, e1, e2⟩ := t rfl _ hin
  exact ⟨σ, u, hm, (nf_rws (t := u) e1).1, (nf_rws (t := u) e2).1⟩
theorem RF.same (h : RF N ww pr R) (a : AllT R) {t x y u v : Tm} {k j : Nat} (h1 : Rws R t x) (h2 : Rws R t y) (e1 : nf R k x = some u) (e2 : nf R j y = some v) : u = v :=
  nf_same h.acc (fun t u1 u2 a1 a2 => local_conf h.vok (h.cpj a) a1 a2) h.nv h1 h2 e1 e2
theorem RF.one (h : RF N ww pr R) (a : AllT R) : ¬ ∃ r1 r2, r1 ∈ R ∧ r2 ∈ R ∧ PairsAre R r1 r2 false := fun ⟨r1, r2, h1, h2, b, cs, hb, ok, _, f⟩ => by
  obtain ⟨e, he, ne⟩ := f rfl
  obtain ⟨p, σ, hp, hc, hm, ee⟩ := ok.of e he
  obtain ⟨c1, c2⟩ := cp_from h1 h2 hc.1 hm.un
  obtain ⟨k1, u1, e1⟩ := nf_stops h.acc e.1
  obtain ⟨k2, u2, e2⟩ := nf_stops h.acc e.2
  rw [← ee] at c1 c2
  exact ne ((nfEq_iff e1 e2).mpr (h.same a (.one c1) (.one c2) e1 e2))
end
end K78
end
section
set_option maxHeartbeats 4000000
namespace K78
open PySem PySem.Spec PyProof.Rows L2
/-! ### law -/
theorem opR_any {X : Cx} {α : Type} {f : Value → Value → Sem Value} {C : α → Prop} {R : α → R2} (h : ∀ a, C a → OpR X f (R a)) : OpR X f (fun x y H Q => ∃ a, C a ∧ R a x y H Q) :=
  fun pins s σ H x y v u Q I rx ry ⟨a, ha, q⟩ => h a ha pins s σ H x y v u Q I rx ry q
theorem callR_any {X : Cx} {α : Type} {f : Value} {C : α → Prop} {R : α → List V → Hp → VK → Prop} (h : ∀ a, C a → CallR X f (R a)) : CallR X f (fun xs H Q => ∃ a, C a ∧ R a xs H Q) :=
  fun pins s σ H xs us Q I r ⟨a, ha, q⟩ => h a ha pins s σ H xs us Q I r q
theorem menu0 : (["a", "b", "c", "f", "g", "p", "q"] : List Str) ∈ menus := List.mem_cons_self ..
section
variable {P : Program} {w : World} {K : PySem.W.Frag} {mg : Str → Option Value} {base : Heap} {C : Addr}
theorem OrdRaw.but {H H' : Hp} {dk sl o : Addr} {kvs : List (Key × V)} {pr : List Str} (h : OrdRaw C H o kvs pr) (d : DeckAt H dk sl) (e : ButD dk H H') : OrdRaw C H' o kvs pr := by
  obtain ⟨dx, td, ad, h1, h2, h3⟩ := h
  obtain ⟨ns, a, b, c, d1, _⟩ := d
  refine ⟨dx, td, ad, e _ _ (fun q => ?_) h1, e _ _ (fun q => ?_) h2, e _ _ (fun q => ?_) h3⟩
  · rw [q, d1] at h1; cases h1
  · rw [q, d1] at h2; cases h2
  · rw [q, d1] at h3
    cases pr with
    | nil => cases h3
    | cons x xs => cases h3
theorem OrdRaw.same {H H' : Hp} {o : Addr} {kvs : List (Key × V)} {pr : List Str} (h : OrdRaw C H o kvs pr) (e : Same H H') : OrdRaw C H' o kvs pr := by
  obtain ⟨dx, td, ad, h1, h2, h3⟩ := h
  exact ⟨dx, td, ad, e _ _ h1, e _ _ h2, e _ _ h3⟩
def dueV : Option Bool → V
  | none => .non
  | some b => .bl b
def spLJ1 (N : List Str) : Sp := fun vs H Q _ => ∃ (rl : Addr) (R : List Rule), vs = [.ref rl] ∧ RulesAt N H rl R ∧ (∀ r, r ∈ R → r.1.nest ≤ 4 ∧ r.2.nest ≤ 4 ∧ V2 r) ∧ RB R ∧ (∀ r1 r2, r1 ∈ R → r2 ∈ R → CPB r1 r2) ∧ CPNf R ∧
  ∀ (ob : Option Bool) H', Same H H' → (ob = some true → AllT R) → (ob = some false → ∃ r1 r2, r1 ∈ R ∧ r2 ∈ R ∧ PairsAre R r1 r2 false) → Q (dueV ob) H'
theorem lj1 {N : List Str} {k : Nat} (G : OkD P w K mg base k "_law_joins" ["_law_rules_here"] (spLJ N)) : OkD P w K mg base k "_law_joins" ["_law_rules_here"] (spLJ1 N) := G.imp fun vs H Q E ⟨rl, R, e, h1, h2, h3, h4, h5, q⟩ =>
  ⟨rl, R, e, h1, h2, h3, h4, h5, fun H' s h => q (some true) H' s (fun _ => h) (fun e => by cases e), fun H' s h => q (some false) H' s (fun e => by cases e) (fun _ => h), fun H' s => q none H' s (fun e => by cases e) (fun e => by cases e)⟩
def spConv1 (C : Addr) (N : List Str) : Sp := fun vs H Q _ => ∃ (o rl : Addr) (kvs : List (Key × V)) (ww : Nat → Nat) (pr : List Str) (R : List Rule), vs = [.ref o, .ref rl] ∧ OrdRaw C H o kvs pr ∧ (∀ i, i < 5 → (valV kvs (Sum.inr (N.getD i "") : Key)).getD (.int 1) = natV (ww i)) ∧ RulesAt N H rl R ∧ (∀ r, r ∈ R → r.1.nest ≤ 4 ∧ r.2.nest ≤ 4) ∧
  ∃ B : Bool → Prop, (((∃ r, r ∈ R ∧ ¬ Gt ww (hiN N pr) r.1 r.2) ∧ B false) ∨ (RF N ww pr R ∧ (AllT R → B true) ∧ ((∃ r1 r2, r1 ∈ R ∧ r2 ∈ R ∧ PairsAre R r1 r2 false) → B false))) ∧ ∀ b H', Same H H' → B b → Q (.bl b) H'
theorem conv1 {N : List Str} {k : Nat} (G : OkD P w K mg base k "converges" ["ordering", "rules"] (spConv N C)) : OkD P w K mg base k "converges" ["ordering", "rules"] (spConv1 C N) := G.imp fun vs H Q E ⟨o, rl, kvs, ww, pr, R, e, h1, h2, h3, h4, B, h5, q⟩ =>
  ⟨o, rl, ww, pr, R, e, h1.at h2, h3, h4, by
    rcases h5 with ⟨a, b⟩ | ⟨a, b, c⟩
    · exact .inl ⟨a, fun H' s => q false H' s b⟩
    · exact .inr ⟨fun r hr => ⟨a.gt r hr, (a.dr r hr).2.2.2⟩, a.rb, a.cpb, a.cpnf, fun H' s h => q true H' s (b h), fun H' s h => q false H' s (c h)⟩⟩
def spLaw (K : PySem.W.Frag) : Sp := fun vs H Q _ => ∃ (sc : Addr) (ns : List Int), vs = [.ref sc] ∧ SqL K H sc (ns.map V.int) ∧ ∀ H', Q (.bl true) H'
theorem ok_law (z0 : mg "isinstance" = none) (zt : mg "tuple" = none) (zd : mg "dict" = none) (zl : mg "list" = none) (z2 : mg "len" = none) (hC : mg "Ordering" = some (.ref C)) (D : DF K mg "law" s_law ["_law_script"])
    (G1 : OkD P w K mg base 1 "_law_deck" ["_law_script"] (spDeck K)) (G2 : OkD P w K mg base 2 "_law_names" ["_law_deck_here"] spNames) (G3 : OkD P w K mg base 2 "_law_weights" ["_law_deck_here", "_law_names_here"] spWts) (G4 : OkD P w K mg base 2 "_law_precedence" ["_law_deck_here", "_law_names_here"] spPrec)
    (G5 : OkI P w K mg base 3 C ["self", "weights", "precedence"] (spOInit C)) (G6 : ∀ N, N ∈ menus → OkD P w K mg base 12 "_law_rules" ["_law_deck_here", "_law_names_here", "_law_weights_here", "_law_precedence_here", "_law_most"] (spRules N))
    (G7 : ∀ N, N ∈ menus → OkD P w K mg base 115 "_law_joins" ["_law_rules_here"] (spLJ N)) (G8 : OkD P w K mg base 1 "_law_same" ["_law_actual", "_law_due"] spSame) (G9 : ∀ N, N ∈ menus → OkD P w K mg base 119 "converges" ["ordering", "rules"] (spConv N C))
    (G10 : ∀ N, N ∈ menus → OkD P w K mg base 3 "_law_term" ["_law_deck_here", "_law_depth", "_law_leaves_here", "_law_names_here"] (spTerm N 1)) (G11 : ∀ N, N ∈ menus → OkD P w K mg base 1 "_law_leaves" ["_law_names_here", "_law_many"] (spLeaves N))
    (G12 : ∀ N, N ∈ menus → OkD P w K mg base 4 "_law_apply" ["_law_sub", "_law_term_here"] (spRep N 4)) (G13 : OkD P w K mg base 1 "_law_draw" ["_law_deck_here", "_law_most"] spDraw)
    (G14 : ∀ N, N ∈ menus → OkD P w K mg base 113 "_law_walk" ["_law_deck_here", "_law_rules_here", "_law_term_here"] (spWalk N)) (G15 : ∀ N, N ∈ menus → OkD P w K mg base 114 "_law_normal_form" ["_law_rules_here", "_law_term_here"] (spLNf1 N))
    (G16 : ∀ N, N ∈ menus → OkD P w K mg base 118 "joined" ["rules", "first", "second"] (spJoined N)) : OkD P w K mg base 120 "law" ["_law_script"] (spLaw K) := by
  refine D.ok (k := 119) sc_law (fun vs H Q E h => ?_) (fun f cdv A outer s H vs Q E hr h => ?_)
  · obtain ⟨sc, ns, rfl, _⟩ := h
    rfl
  obtain ⟨sc, ns, rfl, hsc, q⟩ := h
  obtain ⟨f1, fd1, m1, k1, b1, F1, _⟩ := G1
  obtain ⟨f2, fd2, m2, k2, b2, F2, _⟩ := G2
  obtain ⟨f3, fd3, m3, k3, b3, F3, _⟩ := G3
  obtain ⟨f4, fd4, m4, k4, b4, F4, _⟩ := G4
  obtain ⟨f5, fd5, M5, b5, F5⟩ := G5
  obtain ⟨f6, fd6, m6, k6, b6, F6, _⟩ := OkD.any menu0 G6
  obtain ⟨f7, fd7, m7, k7, b7, F7, _⟩ := OkD.any menu0 fun N h => lj1 (G7 N h)
  obtain ⟨f8, fd8, m8, k8, b8, F8, _⟩ := G8
  obtain ⟨f9, fd9, m9, k9, b9, F9, _⟩ := OkD.any menu0 fun N h => conv1 (G9 N h)
  obtain ⟨f10, fd10, m10, k10, b10, F10, _⟩ := OkD.any menu0 G10
  obtain ⟨f11, fd11, m11, k11, b11, F11, _⟩ := OkD.any menu0 G11
  obtain ⟨f12, fd12, m12, k12, b12, F12, _⟩ := OkD.any menu0 G12
  obtain ⟨f13, fd13, m13, k13, b13, F13, _⟩ := G13
  obtain ⟨f14, fd14, m14, k14, b14, F14, _⟩ := OkD.any menu0 G14
  obtain ⟨f15, fd15, m15, k15, b15, F15, _⟩ := OkD.any menu0 G15
  obtain ⟨f16, fd16, m16, k16, b16, F16, _⟩ := OkD.any menu0 G16
  have nd := sc_law.nd
  refine ⟨_, pss_cons (ps_set (i := 1) nd rfl (Or.inl rfl) (pe_call F1 (hr.mono (by decide)) rfl m1 k1 b1 .nil pass0 (pa_cons (pv 0) pa_nil)))
    (pss_cons (ps_set (i := 2) nd rfl (Or.inl rfl) (pe_call F2 (hr.mono (by decide)) rfl m2 k2 b2 .nil pass0 (pa_cons (pv 1) pa_nil)))
    (pss_cons (ps_set (i := 3) nd rfl (Or.inl rfl) (pe_call F3 (hr.mono (by decide)) rfl m3 k3 b3 .nil pass0 (pa_cons (pv 1) (pa_cons (pv 2) pa_nil))))
    (pss_cons (ps_set (i := 4) nd rfl (Or.inl rfl) (pe_call F4 (hr.mono (by decide)) rfl m4 k4 b4 .nil pass0 (pa_cons (pv 1) (pa_cons (pv 2) pa_nil))))
    (pss_cons (ps_set (i := 5) nd rfl (Or.inl rfl) (pe_make M5 F5 (hr.mono (by decide)) rfl hC b5 .nil pass0 (pa_cons (pe_callTy call_dictD (by rfl) zd (by decide +kernel) (pa_cons (pv 3) pa_nil)) (pa_cons (pe_callTy call_list_of (by rfl) zl (by decide +kernel) (pa_cons (pv 4) pa_nil)) pa_nil))))
    (pss_cons (ps_set (i := 6) nd rfl (Or.inl rfl) (pe_call F6 (hr.mono (by decide)) rfl m6 k6 b6 .nil pass0 (pa_cons (pv 1) (pa_cons (pv 2) (pa_cons (pv 3) (pa_cons (pv 4) (pa_cons pe_int pa_nil)))))))
    (pss_cons (ps_set (i := 7) nd rfl (Or.inl rfl) (pe_call F7 (hr.mono (by decide)) rfl m7 k7 b7 .nil pass0 (pa_cons (pv 6) pa_nil)))
    (pss_cons (ps_if (pt_cmpR op_isN (pv 7) pe_non (nomark _)) (pss_one (ps_ret pe_bl)) pss_nil)
    (pss_cons (ps_if (pt_not (pt_val (pe_call F8 (hr.mono (by decide)) rfl m8 k8 b8 .nil pass0 (pa_cons (pe_call F9 hr rfl m9 k9 b9 .nil pass0 (pa_cons (pv 5) (pa_cons (pe_callTy call_list_of (by rfl) zl (by decide +kernel) (pa_cons (pv 6) pa_nil)) pa_nil))) (pa_cons (pv 7) pa_nil))))) (pss_one (ps_ret pe_bl)) pss_nil)
    (pss_cons (ps_if (pt_cmpR (opR_any (C := fun N => N ∈ menus) (R := fun N => rEqNil (fun H => RuleAt N H)) fun N hN => op_eqNil (fun H a y h => dp_pair h) (pairD_lay (menu_of N hN).ok) (hu2 hr)) (pv 6) (pe_lst pa_nil) (nomark _)) (pss_one (ps_ret pe_bl)) pss_nil)
    (pss_cons (ps_set (i := 8) nd rfl (Or.inl rfl) (pe_op op_cat (pe_slice sl_ld (pv 6) (po_some pe_int) po_none) (pe_lst (pa_cons (pe_tup (pa_cons (pe_ix ix_tup (pe_ix ix_list (pv 6) pe_int (fun _ _ => rfl)) pe_int (fun _ _ => rfl)) (pa_cons (pe_ix ix_tup (pe_ix ix_list (pv 6) pe_int (fun _ _ => rfl)) pe_int (fun _ _ => rfl)) pa_nil))) pa_nil))))
    (pss_cons (ps_if (PW.pt (pw_and (pt_val (pe_callB (callR_any (C := fun N => N ∈ menus) (R := rIsTm) fun N _ => call_isTm (N := N)) (by rfl) z0 (by decide +kernel) (pa_cons (pe_ix ix_tup (pe_ix ix_list (pv 6) pe_int (fun _ _ => rfl)) pe_int (fun _ _ => rfl)) (pa_cons (pe_bltn (v := .ty "tuple") (by rfl) zt (by decide +kernel) rfl) pa_nil))))
        (pw_and1 (pt_not (pt_val (pe_call F8 (hr.mono (by decide)) rfl m8 k8 b8 .nil pass0 (pa_cons (pe_call F9 hr rfl m9 k9 b9 .nil pass0 (pa_cons (pv 5) (pa_cons (pv 8) pa_nil))) (pa_cons pe_bl pa_nil)))))))) (pss_one (ps_ret pe_bl)) pss_nil)
    (pss_cons (ps_set (i := 9) nd rfl (Or.inl rfl) (pe_disp (pps_cons pe_int (pe_call F10 (hr.mono (by decide)) rfl m10 k10 b10 .nil pass0 (pa_cons (pv 1) (pa_cons pe_int (pa_cons (pe_call F11 (hr.mono (by decide)) rfl m11 k11 b11 .nil pass0 (pa_cons (pv 2) (pa_cons pe_int pa_nil))) (pa_cons (pv 2) pa_nil)))))
        (pps_cons pe_int (pe_call F10 (hr.mono (by decide)) rfl m10 k10 b10 .nil pass0 (pa_cons (pv 1) (pa_cons pe_int (pa_cons (pe_call F11 (hr.mono (by decide)) rfl m11 k11 b11 .nil pass0 (pa_cons (pv 2) (pa_cons pe_int pa_nil))) (pa_cons (pv 2) pa_nil))))) pps_nil)) (by rfl) (by rfl) (fun z => by cases z) (by decide)))
    (pss_cons (ps_set (i := 10) nd rfl (Or.inl rfl) (pe_call F12 (hr.mono (by decide)) rfl m12 k12 b12 .nil pass0 (pa_cons (pv 9) (pa_cons (pe_ix ix_tup (pe_ix ix_list (pv 6) (pe_call F13 (hr.mono (by decide)) rfl m13 k13 b13 .nil pass0 (pa_cons (pv 1) (pa_cons (pe_callB call_len_seq (by rfl) z2 PySem.boot_len (pa_cons (pv 6) pa_nil)) pa_nil))) (fun _ _ => rfl)) pe_int (fun _ _ => rfl)) pa_nil))))
    (pss_cons (ps_set (i := 11) nd rfl (Or.inl rfl) (pe_lst (pa_cons (pe_call F14 (hr.mono (by decide)) rfl m14 k14 b14 .nil pass0 (pa_cons (pv 1) (pa_cons (pv 6) (pa_cons (pv 10) pa_nil)))) (pa_cons (pe_call F14 (hr.mono (by decide)) rfl m14 k14 b14 .nil pass0 (pa_cons (pv 1) (pa_cons (pv 6) (pa_cons (pv 10) pa_nil)))) pa_nil))))
    (pss_cons (ps_set (i := 12) nd rfl (Or.inl rfl) (pe_lst (pa_cons (pe_call F15 (hr.mono (by decide)) rfl m15 k15 b15 .nil pass0 (pa_cons (pv 6) (pa_cons (pe_ix ix_list (pv 11) pe_int (fun _ _ => rfl)) pa_nil))) (pa_cons (pe_call F15 (hr.mono (by decide)) rfl m15 k15 b15 .nil pass0 (pa_cons (pv 6) (pa_cons (pe_ix ix_list (pv 11) pe_int (fun _ _ => rfl)) pa_nil))) pa_nil))))
    (pss_cons (ps_if (PW.pt (pw_or (pt_cmpR op_is_bl (pv 7) pe_bl (nomark _)) (pw_or1 (pt_cmpR (opR_any (C := fun N => N ∈ menus) (R := rInNone) fun N hN => op_inNone (menu_of N hN).ok (hu2 hr)) pe_non (pv 12) (by rfl))))) (pss_one (ps_ret pe_bl)) pss_nil)
    (pss_one (ps_ret (pe_and (pe_cmpR (opR_any (C := fun N => N ∈ menus) (R := rEqTm) fun N hN => op_eqTm (menu_of N hN).ok (hu2 hr)) (pe_ix ix_list (pv 12) pe_int (fun _ _ => rfl)) (pe_ix ix_list (pv 12) pe_int (fun _ _ => rfl)) (nomark _))
      (pe_one (pe_call F8 (hr.mono (by decide)) rfl m8 k8 b8 .nil pass0 (pa_cons (pe_call F16 (hr.mono (by decide)) rfl m16 k16 b16 .nil pass0 (pa_cons (pv 6) (pa_cons (pe_ix ix_list (pv 11) pe_int (fun _ _ => rfl)) (pa_cons (pe_ix ix_list (pv 11) pe_int (fun _ _ => rfl)) pa_nil)))) (pa_cons pe_bl pa_nil))))))))))))))))))))))), ?_⟩
  refine ⟨_, rfl, sc, ns, rfl, hsc, fun dk sl H1 hdn s1 d1 => ?_⟩
  have fr : ∀ {Hx : Hp} {x : Addr}, DeckAt Hx dk sl → Hx x = none → x ≠ dk := fun {Hx x} d hx e => by
    obtain ⟨_, _, _, _, h, _⟩ := d
    rw [e, h] at hx; cases hx
  refine ⟨_, rfl, dk, sl, rfl, d1, fun N nl H2 bb2 d2 hN hnl0 hnl => ?_⟩
  have hM := menu_of N hN
  have hnld := fr d1 hnl0
  refine ⟨_, rfl, _, rfl, dk, sl, nl, N, rfl, d2, hnl, hnld, hM.len, fun kvs wd H3 bb3 d3 hwd0 hwd hW => ?_⟩
  have hwdd := fr d2 hwd0
  refine ⟨_, rfl, _, rfl, dk, sl, nl, N, rfl, d3, bb3 _ _ hnld hnl, hnld, hM.len, hM.nd, fun pr pl H4 bb4 d4 hpl0 hpl hpn hpm => ?_⟩
  have hpld := fr d3 hpl0
  have hwd4 := bb4 _ _ hwdd hwd
  have hnl4 := bb4 _ _ hnld (bb3 _ _ hnld hnl)
  refine ⟨_, rfl, wd, kvs, rfl, .inl hwd4, fun e1 he1 => ?_⟩
  have s5 := same_new he1 (.dK kvs)
  have g1 := upd_same (H := H4) (a := e1) (o := .dK kvs)
  refine ⟨_, rfl, pl, _, rfl, .inl (SqL.of (s5 _ _ hpl)), fun e2 he2 => ?_⟩
  have s6 := same_new he2 (.lst (pr.map V.str))
  have g2 := upd_same (H := upd H4 e1 (.dK kvs)) (a := e2) (o := .lst (pr.map V.str))
  have g1' := s6 _ _ g1
  have s56 := s5.trans s6
  generalize upd (upd H4 e1 (.dK kvs)) e2 (.lst (pr.map V.str)) = H6 at g2 g1' s56
  intro o dx ho hdx hne
  have s7 : Same H6 (upd (upd H6 dx (.own o)) o (.ins C dx [])) := (same_new hdx _).trans (same_new (by rw [upd_ne (Ne.symm hne)]; exact ho) _)
  refine ⟨o, dx, e1, e2, kvs, pr, rfl, upd_same, s7 _ _ g1', hW.ok hM.no, s7 _ _ g2, hpn, fun a ha => hM.no a (hpm a ha), fun H8 fr8 hO => ⟨rfl, ?_⟩⟩
  have s8 : Same H4 H8 := fun b ob h => by
    have h6 := s56 _ _ h
    exact fr8 b ob (ne_of_none h6 ho) (s7 _ _ h6)
  have hww : ∀ i, i < 5 → (valV kvs (Sum.inr (N.getD i "") : Key)).getD (.int 1) = natV (wOf N kvs i) := fun i _ => (hW.wof i).1
  have hWB := hW.wb hM.ok
  generalize wOf N kvs = ww at hww hWB
  have d8 := d4.same s8
  refine ⟨_, rfl, _, rfl, _, rfl, _, rfl, N, hN, dk, sl, nl, wd, pl, ww, pr, rfl, d8, s8 _ _ hnl4, hnld, hM.len, ⟨kvs, s8 _ _ hwd4, hww⟩, hwdd, s8 _ _ hpl, hpld, fun R rl ys H9 bb9 d9 hrl0 hrl hys hRl hRs => ?_⟩
  have hrld := fr d8 hrl0
  have hF : RF N ww pr R := ⟨hRs, hWB⟩
  have hO9 := hO.but d8 bb9
  have hnl9 := bb9 _ _ hnld (s8 _ _ hnl4)
  refine ⟨_, rfl, N, hN, rl, R, rfl, ⟨ys, hrl, hys⟩, hF.n4, hF.rb, hF.cpb, hF.cpnf, fun ob H10 s10 hT hFa => ?_⟩
  refine ⟨_, rfl, rfl, _, rfl, ?_⟩
  cases ob with
  | none =>
    refine iteT ?_
    exact q H10
  | some b =>
    refine iteF ?_
    have hys10 : AllAt (RuleAt N H10) R ys := AllAt.mono (fun e z h => rule_same h s10) hys
    have hrl10 := s10 _ _ hrl
    have d10 := d9.same s10
    refine ⟨_, rfl, _, rfl, rl, ys, rfl, .inl (SqL.of hrl10), fun l2 hl2 => ?_⟩
    have sA := same_new hl2 (.lst ys)
    have gA := upd_same (H := H10) (a := l2) (o := .lst ys)
    generalize upd H10 l2 (.lst ys) = HA at sA gA
    have hysA : AllAt (RuleAt N HA) R ys := AllAt.mono (fun e z h => rule_same h sA) hys10
    refine ⟨N, hN, o, l2, kvs, ww, pr, R, rfl, (hO9.same s10).same sA, hww, ⟨ys, gA, hysA⟩, fun r hr => ⟨(hF.n4 r hr).1, (hF.n4 r hr).2.1⟩,
      (fun c => (c = true → AllT R) ∧ (c = false → ∃ r1 r2, r1 ∈ R ∧ r2 ∈ R ∧ PairsAre R r1 r2 false)), .inr ⟨hF, fun h => ⟨fun _ => h, fun e => (by cases e)⟩, fun h => ⟨fun e => (by cases e), fun _ => h⟩⟩, fun c H11 s11 hB => ?_⟩
    have hcb : c = b := by
      cases c <;> cases b
      · rfl
      · exact absurd (hB.2 rfl) (hF.one (hT rfl))
      · exact absurd (hFa rfl) (hF.one (hB.1 rfl))
      · rfl
    subst hcb
    refine ⟨_, rfl, c, c, rfl, fun H12 s12 => ⟨_, rfl, ?_⟩⟩
    rw [decide_eq_true (rfl : c = c)]
    refine iteF ?_
    have s9C : Same H9 H12 := s10.trans (sA.trans (s11.trans s12))
    refine ⟨_, rfl, (show 0 ≤ sizeLine by decide), fun l0 hl0 => ?_⟩
    have s13 := s9C.trans (same_new hl0 (.lst []))
    have g0 := upd_same (H := H12) (a := l0) (o := .lst [])
    generalize upd H12 l0 (.lst []) = H13 at s13 g0
    have hrl13 := s13 _ _ hrl
    have hys13 : AllAt (RuleAt N H13) R ys := AllAt.mono (fun e z h => rule_same h s13) hys
    have d13 := d9.same s13
    have hO13 := hO9.same s13
    refine ⟨N, hN, rl, l0, R, ys, rfl, rfl, hrl13, hys13, g0, _, rfl, ?_⟩
    cases R with
    | nil =>
      refine iteT ?_
      exact q H13
    | cons r0 R' =>
      refine iteF ?_
      obtain ⟨y0, ys', rfl, hy0, hys'⟩ := hys13
      obtain ⟨a0, xl, xr, rfl, ha0, hxl, hxr⟩ := id hy0
      refine ⟨_, rfl, _, rfl, rl, _, 1, rfl, rfl, rfl, (by rw [List.length_cons]; omega), SqL.of hrl13, fun p1 hp1 => ?_⟩
      have t1 := same_new hp1 (.lst ((V.ref a0 :: ys').drop 1))
      have h1 := upd_same (H := H13) (a := p1) (o := .lst ((V.ref a0 :: ys').drop 1))
      refine ⟨_, rfl, rl, _, 0, _, rfl, rfl, SqL.of (t1 _ _ hrl13), atI_nat (j := 0) rfl, a0, _, 1, xr, rfl, rfl, SqT.of (t1 _ _ ha0), atI_nat (j := 1) rfl, _, rfl, rl, _, 0, _, rfl, rfl, SqL.of (t1 _ _ hrl13), atI_nat (j := 0) rfl, a0, _, 0, xl, rfl, rfl, SqT.of (t1 _ _ ha0), atI_nat (j := 0) rfl, (show 2 ≤ sizeLine by decide), fun tp htp => ?_⟩
      have t2 := same_new htp (.tup [xr, xl])
      have h2 := upd_same (H := upd H13 p1 (.lst ((V.ref a0 :: ys').drop 1))) (a := tp) (o := .tup [xr, xl])
      refine ⟨(show 1 ≤ sizeLine by decide), fun l3 hl3 => ?_⟩
      have t3 := same_new hl3 (.lst [.ref tp])
      have h3 := upd_same (H := upd (upd H13 p1 (.lst ((V.ref a0 :: ys').drop 1))) tp (.tup [xr, xl])) (a := l3) (o := .lst [.ref tp])
      have h1' := t3 _ _ (t2 _ _ h1)
      have h2' := t3 _ _ h2
      have t123 := t1.trans (t2.trans t3)
      generalize upd (upd (upd H13 p1 (.lst ((V.ref a0 :: ys').drop 1))) tp (.tup [xr, xl])) l3 (.lst [.ref tp]) = H14 at h1' h2' h3 t123
      have hyl : ys'.length ≤ 2 := by
        have := hys'.length
        rw [List.length_cons] at hRl
        omega
      refine ⟨p1, l3, _, _, rfl, rfl, h1', h3, (by simp only [List.drop_succ_cons, List.drop_zero, List.length_cons, List.length_nil]; exact szT (by omega)), fun p3 hp3 => ?_⟩
      have t4 := same_new hp3 (.lst ((V.ref a0 :: ys').drop 1 ++ [.ref tp]))
      have h4 := upd_same (H := H14) (a := p3) (o := .lst ((V.ref a0 :: ys').drop 1 ++ [.ref tp]))
      generalize upd H14 p3 (.lst ((V.ref a0 :: ys').drop 1 ++ [.ref tp])) = H15 at t4 h4
      have t15 := t123.trans t4
      have hxr15 := hxr.same t15
      have hxl15 := hxl.same t15
      have hys15 : AllAt (RuleAt N H15) R' ys' := AllAt.mono (fun e z h => rule_same h t15) hys'
      have hTu : AllAt (RuleAt N H15) (R' ++ [(r0.2, r0.1)]) (ys' ++ [.ref tp]) := AllAt.snoc hys15 ⟨tp, xr, xl, rfl, t4 _ _ h2', hxr15, hxl15⟩
      have hr0m : r0 ∈ r0 :: R' := List.mem_cons_self ..
      refine ⟨_, rfl, rl, _, 0, _, rfl, rfl, SqL.of (t15 _ _ hrl13), atI_nat (j := 0) rfl, a0, _, 1, xr, rfl, rfl, SqT.of (t15 _ _ ha0), atI_nat (j := 1) rfl, N, hN, r0.2, xr, rfl, hxr15, _, rfl, ?_⟩
      cases hv : r0.2.isV
      case' true =>
        refine iteF ?_
        have tx := t15
        generalize H15 = Hx at tx ⊢
      case' false =>
        refine iteT ?_
        refine ⟨_, rfl, _, rfl, N, hN, o, p3, kvs, ww, pr, R' ++ [(r0.2, r0.1)], rfl, hO13.same t15, hww, ⟨_, h4, hTu⟩, (fun r hr => by
          rcases List.mem_append.mp hr with hr | hr
          · exact ⟨(hF.n4 r (List.mem_cons_of_mem _ hr)).1, (hF.n4 r (List.mem_cons_of_mem _ hr)).2.1⟩
          · rw [List.mem_singleton] at hr
            subst hr
            exact ⟨(hF.n4 r0 hr0m).2.1, (hF.n4 r0 hr0m).1⟩),
          (fun c => c = false), .inl ⟨⟨(r0.2, r0.1), List.mem_append.mpr (.inr (List.mem_singleton.mpr rfl)), hF.asymm hr0m⟩, rfl⟩, fun c2 H16 s16 hc2 => ?_⟩
        subst hc2
        refine ⟨false, false, rfl, fun H17 s17 => ⟨_, rfl, ?_⟩⟩
        refine iteF ?_
        have tx := t15.trans (s16.trans s17)
        generalize H17 = Hx at tx ⊢
      all_goals
        have hrlx := tx _ _ hrl13
        have hysx : AllAt (RuleAt N Hx) (r0 :: R') (V.ref a0 :: ys') := AllAt.mono (fun e z h => rule_same h tx) ⟨_, _, rfl, hy0, hys'⟩
        have dx' := d13.same tx
        have hnlx := tx _ _ (s13 _ _ hnl9)
        intro dp hdp
        have dpd := fr dx' hdp
        have dps : sl ≠ dp := fun e => by obtain ⟨_, _, _, _, _, h, _⟩ := dx'; rw [e, hdp] at h; cases h
        have u0 := same_new hdp (.dK [])
        have c0 := upd_same (H := Hx) (a := dp) (o := .dK [])
        refine ⟨_, rfl, _, rfl, N, hN, nl, rfl, u0 _ _ hnlx, hM.len, fun la lya Ha hla ua hla1 hLa => ?_⟩
        have da := (dx'.same u0).same ua
        refine ⟨_, rfl, N, hN, dk, sl, la, nl, leaf2, lya, rfl, da, hla1, fr (dx'.same u0) hla, hLa, by decide, by decide, by decide, ua _ _ (u0 _ _ hnlx), hnld, hM.len, fun ta za Hb ub db hza hta _ => ?_⟩
        refine ⟨_, rfl, _, rfl, N, hN, nl, rfl, ub _ _ hnld (ua _ _ (u0 _ _ hnlx)), hM.len, fun lb lyb Hc hlb uc hlb1 hLb => ?_⟩
        have dc := db.same uc
        refine ⟨_, rfl, N, hN, dk, sl, lb, nl, leaf2, lyb, rfl, dc, hlb1, fr db hlb, hLb, by decide, by decide, by decide, uc _ _ (ub _ _ hnld (ua _ _ (u0 _ _ hnlx))), hnld, hM.len, fun tb zb Hd ud dd hzb htb _ => ?_⟩
        have c1 := ud _ _ dpd (uc _ _ (ub _ _ dpd (ua _ _ c0)))
        refine ⟨c1, [(Sum.inl 0, za), (Sum.inl 1, zb)], rfl, (show 2 ≤ 15 by decide), ?_⟩
        have bHd : ButD dk Hx Hd := (ButD.of u0).trans ((ButD.of ua).trans (ub.trans ((ButD.of uc).trans ud)))
        have bHe : ButD dk Hx (upd Hd dp (.dK (mergeK [] [(Sum.inl 0, za), (Sum.inl 1, zb)]))) := fun b ob nb h => kp (ne_of_none h hdp) (bHd b ob nb h) _
        have tde : TupSame Hd (upd Hd dp (.dK (mergeK [] [(Sum.inl 0, za), (Sum.inl 1, zb)]))) := but_upd.tupD c1
        have hza' := ((TmAt.same hza uc).tupS (dc.tup ud)).tupS tde
        have hzb' := hzb.tupS tde
        have hsub : SubAt N (upd Hd dp (.dK (mergeK [] [(Sum.inl 0, za), (Sum.inl 1, zb)]))) dp ((PSub.nil.set 0 ta).set 1 tb) 2 := ⟨_, upd_same, (show 2 ≤ 2 by decide), (SubK.nil.put hza').put hzb'⟩
        have de : DeckAt (upd Hd dp (.dK (mergeK [] [(Sum.inl 0, za), (Sum.inl 1, zb)]))) dk sl := by
          obtain ⟨ns, a, b, c, k1, k2, k3, k4⟩ := dd
          exact ⟨ns, a, b, c, kp dpd.symm k1 _, kp dps k2 _, k3, k4⟩
        generalize upd Hd dp (.dK (mergeK [] [(Sum.inl 0, za), (Sum.inl 1, zb)])) = He at bHe hsub de
        have tpe : TupSame Hx He := dx'.tup bHe
        have hrle := bHe _ _ hrld hrlx
        have hyse : AllAt (RuleAt N He) (r0 :: R') (V.ref a0 :: ys') := AllAt.mono (fun e z h => rule_tupS h tpe) hysx
        have hyl2 : (V.ref a0 :: ys').length = (r0 :: R').length := hyse.length
        have him : ∀ n, (((PSub.nil.set 0 ta).set 1 tb).tot n).nest ≤ 3 := fun n => by
          unfold PSub.tot PSub.set
          by_cases e1 : n = 1
          · rw [if_pos e1]; show tb.nest ≤ 3; omega
          · rw [if_neg e1]
            by_cases e0 : n = 0
            · rw [if_pos e0]; show ta.nest ≤ 3; omega
            · rw [if_neg e0]; show 1 ≤ 3; decide
        refine ⟨_, rfl, _, rfl, _, rfl, _, rfl, rl, _, rfl, .inl (SqL.of hrle), dk, sl, (V.ref a0 :: ys').length, rfl, de, by rw [List.length_cons]; omega, by rw [List.length_cons]; omega, fun k Hf hk bf df => ?_⟩
        have hrlf := bf _ _ hrld hrle
        have tpf : TupSame He Hf := de.tup bf
        have hysf : AllAt (RuleAt N Hf) (r0 :: R') (V.ref a0 :: ys') := AllAt.mono (fun e z h => rule_tupS h tpf) hyse
        have hg : (V.ref a0 :: ys')[k]? = some ((V.ref a0 :: ys')[k]'hk) := List.getElem?_eq_getElem hk
        obtain ⟨ri, hri, ai, xi, yi, hzi, hai, hxi, hyi⟩ := hysf.get hg
        have hrim := List.mem_of_getElem? hri
        rw [hzi] at hg
        have hsf : SubAt N Hf dp ((PSub.nil.set 0 ta).set 1 tb) 2 := by
          obtain ⟨kv, k1, k2, k3⟩ := hsub
          exact ⟨kv, bf _ _ dpd k1, k2, k3.tupS tpf⟩
        refine ⟨rl, _, (k : Int), _, rfl, rfl, SqL.of hrlf, at_of (j := k) rfl hg, ai, _, 0, xi, rfl, rfl, SqT.of hai, atI_nat (j := 0) rfl, N, hN, ri.1, xi, dp, _, 2, rfl, hxi, hsf, (hF.n4 ri hrim).1, fun zt Hg sg hzt => ?_⟩
        have g0 : GB ww (ri.1.ap ((PSub.nil.set 0 ta).set 1 tb).tot) := hF.gin hrim him
        generalize ri.1.ap ((PSub.nil.set 0 ta).set 1 tb).tot = T0 at hzt g0
        have dg := df.same sg
        have hRg : RulesAt N Hg rl (r0 :: R') := ⟨_, sg _ _ hrlf, AllAt.mono (fun e z h => rule_same h sg) hysf⟩
        have wb := hF.wb.wbd
        have bnd : ∀ t, GB ww t ∧ Rws (r0 :: R') T0 t → t.nest ≤ 110 ∧ t.size ≤ 10000 := fun t h => by
          have := h.1.nest wb; have := h.1.size wb; omega
        have stp : ∀ t u, GB ww t ∧ Rws (r0 :: R') T0 t → St (r0 :: R') t u → GB ww u ∧ Rws (r0 :: R') T0 u := fun t u h k => ⟨hF.gst h.1 k, h.2.trans (.one k.rw)⟩
        refine ⟨_, rfl, _, rfl, _, rfl, N, hN, dk, sl, rl, zt, T0, r0 :: R', _, rfl, dg, hRg, hrld, hzt, hF.rb, hRl, bnd, stp, ⟨g0, .refl _⟩, fun E1 w1 Hh bh dh hw1 hE1 => ?_⟩
        have hRh := hRg.but bh (dg.tup bh) hrld
        refine ⟨_, rfl, _, rfl, _, rfl, N, hN, dk, sl, rl, zt, T0, r0 :: R', _, rfl, dh, hRh, hrld, hzt.tupS (dg.tup bh), hF.rb, hRl, bnd, stp, ⟨g0, .refl _⟩, fun E2 w2 Hi bi di hw2 hE2 => ?_⟩
        have hRi := hRh.but bi (dh.tup bi) hrld
        have hw1i := hw1.tupS (dh.tup bi)
        refine ⟨(show 2 ≤ sizeLine by decide), fun el hel => ?_⟩
        have si := same_new hel (.lst [w1, w2])
        have gel := upd_same (H := Hi) (a := el) (o := .lst [w1, w2])
        generalize upd Hi el (.lst [w1, w2]) = Hj at si gel
        have hRj := hRi.same si
        have hw1j := hw1i.same si
        have hw2j := hw2.same si
        refine ⟨_, rfl, _, rfl, el, _, 0, w1, rfl, rfl, SqL.of gel, atI_nat (j := 0) rfl, N, hN, r0 :: R', E1, rl, w1, GB ww, rfl, hRj, hw1j, hF.rb, hF.safe.lax, hE1.1, fun v1 Hk sk hv1 => ?_⟩
        generalize n1 : nf (r0 :: R') 400 E1 = o1 at hv1
        refine ⟨_, rfl, _, rfl, el, _, 1, w2, rfl, rfl, SqL.of (sk _ _ gel), atI_nat (j := 1) rfl, N, hN, r0 :: R', E2, rl, w2, GB ww, rfl, hRj.same sk, hw2j.same sk, hF.rb, hF.safe.lax, hE2.1, fun v2 Hl sl' hv2 => ?_⟩
        generalize n2 : nf (r0 :: R') 400 E2 = o2 at hv2
        refine ⟨(show 2 ≤ sizeLine by decide), fun fl hfl => ?_⟩
        have sm := same_new hfl (.lst [v1, v2])
        have gfl := upd_same (H := Hl) (a := fl) (o := .lst [v1, v2])
        have hv1' := (hv1.same sl').same sm
        have hv2' := hv2.same sm
        have sjm := sk.trans (sl'.trans sm)
        generalize upd Hl fl (.lst [v1, v2]) = Hm at sm gfl hv1' hv2' sjm
        refine ⟨_, rfl, c, false, rfl, rfl, _, rfl, ?_⟩
        cases c with
        | false =>
          refine iteT ?_
          exact q Hm
        | true =>
          refine iteF ?_
          refine ⟨_, rfl, N, hN, fl, [o1, o2], _, rfl, rfl, gfl, ⟨v1, _, rfl, hv1', v2, [], rfl, hv2', rfl⟩, _, rfl, ?_⟩
          cases o1 with
          | none =>
            refine iteT ?_
            exact q Hm
          | some x1 =>
            cases o2 with
            | none =>
              refine iteT ?_
              exact q Hm
            | some x2 =>
              refine iteF ?_
              have hxx : x1 = x2 := hF.same (hT rfl) hE1.2 hE2.2 n1 n2
              have gx1 := (hF.safe.nf hE1.1 n1).nest wb
              refine ⟨_, rfl, fl, _, 0, v1, rfl, rfl, SqL.of gfl, atI_nat (j := 0) rfl, _, rfl, fl, _, 1, v2, rfl, rfl, SqL.of gfl, atI_nat (j := 1) rfl, N, hN, x1, x2, hv1', hv2', by omega, _, rfl, ?_⟩
              rw [decide_eq_true hxx]
              refine iteT ?_
              refine ⟨_, rfl, _, rfl, el, _, 0, w1, rfl, rfl, SqL.of (sjm _ _ gel), atI_nat (j := 0) rfl, _, rfl, el, _, 1, w2, rfl, rfl, SqL.of (sjm _ _ gel), atI_nat (j := 1) rfl, N, hN, r0 :: R', E1, E2, x1, x2, rl, w1, w2, GB ww, 400, 400, rfl, hRj.same sjm, hw1j.same sjm, hw2j.same sjm, hF.rb, hF.safe, hE1.1, hE2.1, n1, n2, fun Hn sn => ?_⟩
              refine ⟨decide (x1 = x2), true, rfl, fun Ho so => ?_⟩
              rw [decide_eq_true (show decide (x1 = x2) = true from decide_eq_true hxx)]
              exact q Ho
end
end K78
end
section
set_option maxHeartbeats 4000000
namespace K78
open PySem PySem.Spec PyProof.Rows L2
/-! ### what the top leaves, and the law over it -/
/-- what the top leaves -/
structure Top (K : PySem.W.Frag) (mg : Str → Option Value) (CO CG : Addr) (tk1 tk2 tk3 : Tok) : Prop where
  d_is_variable : DF K mg "is_variable" s_is_variable ["term"]
  d_size : DF K mg "size" s_size ["term"]
  d_nesting : DF K mg "nesting" s_nesting ["term"]
  d_variables : DF K mg "variables" s_variables ["term"]
  d_subterm_at : DF K mg "subterm_at" s_subterm_at ["term", "position"]
  d_exchanged : DF K mg "exchanged" s_exchanged ["term", "position", "new"]
  d_replace_at : DF K mg "replace_at" s_replace_at ["term", "position", "new"]
  d_shift : DF K mg "shift" s_shift ["term", "by"]
  d_extend : DF K mg "_extend" s_extend ["pattern", "term", "found"]
  d_replace : DF K mg "_replace" s_replace ["substitution", "term"]
  d_fitting : DF K mg "_fitting" s_fitting ["term"]
  d_apply : DF K mg "apply" s_apply ["substitution", "term"]
  d_unify_all : DF K mg "unify_all" s_unify_all ["pairs"]
  d_unify : DF K mg "unify" s_unify ["first", "second"]
  d_variable_counts : DF K mg "variable_counts" s_variable_counts ["term"]
  d_has_all_variables : DF K mg "has_all_variables" s_has_all_variables ["first", "second"]
  d_check_weights : DF K mg "check_weights" s_check_weights ["weights"]
  d_check_precedence : DF K mg "check_precedence" s_check_precedence ["precedence"]
  d_rewrite_at_position : DF K mg "rewrite_at_position" s_rewrite_at_position ["rules", "term", "position"]
  d_rewrite : DF K mg "rewrite" s_rewrite ["rules", "term"]
  d_normalize : DF K mg "normalize" s_normalize ["rules", "term"]
  d_joined : DF K mg "joined" s_joined ["rules", "first", "second"]
  d_renamed : DF K mg "renamed" s_renamed ["first", "second"]
  d_critical_pairs : DF K mg "critical_pairs" s_critical_pairs ["first", "second"]
  d_converges : DF K mg "converges" s_converges ["ordering", "rules"]
  d_law_deck : DF K mg "_law_deck" s_law_deck ["_law_script"]
  d_law_draw : DF K mg "_law_draw" s_law_draw ["_law_deck_here", "_law_most"]
  d_law_same : DF K mg "_law_same" s_law_same ["_law_actual", "_law_due"]
  d_law_names : DF K mg "_law_names" s_law_names ["_law_deck_here"]
  d_law_weights : DF K mg "_law_weights" s_law_weights ["_law_deck_here", "_law_names_here"]
  d_law_precedence : DF K mg "_law_precedence" s_law_precedence ["_law_deck_here", "_law_names_here"]
  d_law_term : DF K mg "_law_term" s_law_term ["_law_deck_here", "_law_depth", "_law_leaves_here", "_law_names_here"]
  d_law_leaves : DF K mg "_law_leaves" s_law_leaves ["_law_names_here", "_law_many"]
  d_law_apply : DF K mg "_law_apply" s_law_apply ["_law_sub", "_law_term_here"]
  d_law_vars : DF K mg "_law_vars" s_law_vars ["_law_term_here"]
  d_law_count : DF K mg "_law_count" s_law_count ["_law_term_here", "_law_name"]
  d_law_weight : DF K mg "_law_weight" s_law_weight ["_law_term_here", "_law_weights_here"]
  d_law_higher : DF K mg "_law_higher" s_law_higher ["_law_first", "_law_second", "_law_precedence_here"]
  d_law_greater : DF K mg "_law_greater" s_law_greater ["_law_first", "_law_second", "_law_weights_here", "_law_precedence_here"]
  d_law_compare : DF K mg "_law_compare" s_law_compare ["_law_first", "_law_second", "_law_weights_here", "_law_precedence_here"]
  d_law_unify : DF K mg "_law_unify" s_law_unify ["_law_first", "_law_second"]
  d_law_match : DF K mg "_law_match" s_law_match ["_law_pattern", "_law_term_here", "_law_known"]
  d_law_places : DF K mg "_law_places" s_law_places ["_law_term_here"]
  d_law_at : DF K mg "_law_at" s_law_at ["_law_term_here", "_law_place"]
  d_law_put : DF K mg "_law_put" s_law_put ["_law_term_here", "_law_place", "_law_new"]
  d_law_shift : DF K mg "_law_shift" s_law_shift ["_law_term_here", "_law_by"]
  d_law_rule : DF K mg "_law_rule" s_law_rule ["_law_deck_here", "_law_names_here", "_law_weights_here", "_law_precedence_here"]
  d_law_step_at : DF K mg "_law_step_at" s_law_step_at ["_law_rules_here", "_law_term_here", "_law_place"]
  d_law_once : DF K mg "_law_once" s_law_once ["_law_rules_here", "_law_term_here"]
  d_law_normal_form : DF K mg "_law_normal_form" s_law_normal_form ["_law_rules_here", "_law_term_here"]
  d_law_rules : DF K mg "_law_rules" s_law_rules ["_law_deck_here", "_law_names_here", "_law_weights_here", "_law_precedence_here", "_law_most"]
  d_law_walk : DF K mg "_law_walk" s_law_walk ["_law_deck_here", "_law_rules_here", "_law_term_here"]
  d_law_pairs : DF K mg "_law_pairs" s_law_pairs ["_law_first", "_law_second"]
  d_law_joins : DF K mg "_law_joins" s_law_joins ["_law_rules_here"]
  d_law : DF K mg "law" s_law ["_law_script"]
  d_positions : DFK K mg "positions" s_positions ["term", "with_variables"] 1 ["with_variables"] [("with_variables", .bl true)]
  d_match_all : DFK K mg "match_all" s_match_all ["pairs", "known"] 1 ["known"] [("known", .non)]
  d_match : DFB K mg "match" s_match ["pattern", "term", "known"] [.non] [("known", .non)]
  o_symbol_weight : DM K CO "symbol_weight" "Ordering.symbol_weight" s_O_symbol_weight ["self", "symbol"]
  o_weight : DM K CO "weight" "Ordering.weight" s_O_weight ["self", "term"]
  o_rank : DM K CO "rank" "Ordering.rank" s_O_rank ["self", "symbol"]
  o_ranks_higher : DM K CO "ranks_higher" "Ordering.ranks_higher" s_O_ranks_higher ["self", "first", "second"]
  o_exceeds : DM K CO "exceeds" "Ordering.exceeds" s_O_exceeds ["self", "first", "second"]
  o_compare : DM K CO "compare" "Ordering.compare" s_O_compare ["self", "first", "second"]
  o_init : DI K CO "Ordering.__init__" s_O_init ["self", "weights", "precedence"]
  o_c : OrdC K CO
  g_leader : DM K CG "leader" "TermGraph.leader" s_G_leader ["self", "node"]
  g_merge : DM K CG "merge" "TermGraph.merge" s_G_merge ["self", "first", "second"]
  g_new_node : DM K CG "new_node" "TermGraph.new_node" s_G_new_node ["self", "symbol", "arguments", "variable"]
  g_add_term : DM K CG "add_term" "TermGraph.add_term" s_G_add_term ["self", "term"]
  g_below : DM K CG "below" "TermGraph.below" s_G_below ["self", "group"]
  g_unite : DM K CG "unite" "TermGraph.unite" s_G_unite ["self", "first", "second"]
  g_bottom_up : DM K CG "bottom_up" "TermGraph.bottom_up" s_G_bottom_up ["self"]
  g_measures : DM K CG "measures" "TermGraph.measures" s_G_measures ["self", "order"]
  g_built : DM K CG "built" "TermGraph.built" s_G_built ["self", "order"]
  g_init : DI K CG "TermGraph.__init__" s_G_init ["self"]
  g_c : GrC K CG
  c_o : mg "Ordering" = some (.ref CO)
  c_g : mg "TermGraph" = some (.ref CG)
  c_ms : mg "MAX_SIZE" = some (.int 1000 tk1)
  c_mn : mg "MAX_NESTING" = some (.int 100 tk2)
  c_tr : mg "TRUE_SYMBOL" = some (.str "true" tk3)
  z_isinstance : mg "isinstance" = none
  z_tuple : mg "tuple" = none
  z_max : mg "max" = none
  z_min : mg "min" = none
  z_range : mg "range" = none
  z_len : mg "len" = none
  z_zip : mg "zip" = none
  z_dict : mg "dict" = none
  z_int : mg "int" = none
  z_sum : mg "sum" = none
  z_bool : mg "bool" = none
  z_list : mg "list" = none
  z_sorted : mg "sorted" = none
  z_all : mg "all" = none
  z_enumerate : mg "enumerate" = none

section
variable {P : Program} {w : World} {K : PySem.W.Frag} {mg : Str → Option Value} {base : Heap} {CO CG : Addr} {tk1 tk2 tk3 : Tok}
section
variable {N : List Str}
theorem Top.is_variable (T : Top K mg CO CG tk1 tk2 tk3) : OkD P w K mg base 1 "is_variable" ["term"] (spIsVar N) := ok_is_variable T.d_is_variable T.z_isinstance T.z_tuple
theorem Top.unify (T : Top K mg CO CG tk1 tk2 tk3) (hM : Menu N) : OkD P w K mg base 7 "unify" ["first", "second"] (spUnify N) := by
  have hv : OkD P w K mg base 1 "is_variable" ["term"] (spIsVar N) := T.is_variable
  have hl := ok_leader (P := P) (w := w) (mg := mg) (base := base) (N := N) T.g_c T.g_leader
  have hme := ok_merge (P := P) (w := w) (mg := mg) (base := base) (N := N) T.z_min T.g_c T.g_merge
  have hnn := ok_new (P := P) (w := w) (mg := mg) (base := base) (N := N) T.z_len T.g_c T.g_new_node
  have hbe := ok_below T.g_c T.g_below hl
  exact ok_unify T.d_unify (ok_uall hM.ok T.z_sorted T.z_list T.c_g T.c_ms T.c_mn T.g_c T.d_unify_all (ok_ginit T.g_c T.g_init) (ok_add T.z_tuple T.g_c T.g_add_term hv hnn 4) (ok_unite hM.ok T.z_zip T.z_len T.g_c T.g_unite hl hme)
    (ok_bu T.z_sorted T.z_list T.g_c T.g_bottom_up hl hbe) (ok_meas T.z_sum T.z_max T.g_c T.g_measures hbe) (ok_built T.z_tuple T.g_c T.g_built hbe) hl)
theorem Top.sub (T : Top K mg CO CG tk1 tk2 tk3) : OkD P w K mg base 2 "subterm_at" ["term", "position"] (spSub N) := ok_subterm_at T.d_subterm_at T.z_len T.is_variable
theorem Top.app (T : Top K mg CO CG tk1 tk2 tk3) : OkD P w K mg base 114 "apply" ["substitution", "term"] (spApply N 10) :=
  ok_apply (n := 10) T.d_apply (ok_fitting T.d_fitting T.c_ms T.c_mn (ok_size T.d_size T.is_variable 100) (ok_nest T.d_nesting T.z_max T.is_variable 100)) (ok_replace T.d_replace T.z_tuple T.is_variable 10)
theorem Top.joined (T : Top K mg CO CG tk1 tk2 tk3) (hM : Menu N) : OkD P w K mg base 118 "joined" ["rules", "first", "second"] (spJoined N) := by
  have hv : OkD P w K mg base 1 "is_variable" ["term"] (spIsVar N) := T.is_variable
  have hm := ok_match T.d_match (ok_match_all T.d_match_all (ok_ext hM.ok T.d_extend T.z_zip T.z_len hv 10))
  have hra := ok_rewrite_at (n1 := 0) T.d_rewrite_at_position T.sub hm (ok_replace_at (n := 111) T.d_replace_at T.sub (ok_exch T.d_exchanged 111) (by decide)) T.app
  exact ok_joined hM.ok T.d_joined (ok_normalize T.d_normalize (ok_rewrite T.d_rewrite (ok_positions T.d_positions T.z_range T.z_len hv 110) hra))
theorem Top.cps (T : Top K mg CO CG tk1 tk2 tk3) (hM : Menu N) : OkD P w K mg base 115 "critical_pairs" ["first", "second"] (spCPs N) := by
  have hv : OkD P w K mg base 1 "is_variable" ["term"] (spIsVar N) := T.is_variable
  exact ok_cps hM.ok T.d_critical_pairs (ok_renamed T.z_max T.d_renamed (ok_vars T.d_variables hv 4) (ok_shift T.d_shift T.z_tuple hv 4)) (ok_positions T.d_positions T.z_range T.z_len hv 4) (T.unify hM) T.sub T.app
    (ok_replace_at (n := 10) T.d_replace_at T.sub (ok_exch T.d_exchanged 10) (by decide))
theorem Top.cmp (T : Top K mg CO CG tk1 tk2 tk3) (hM : Menu N) : OkM P w K mg base 8 CO "compare" ["self", "first", "second"] (spCmp N CO 4) := by
  have hv : OkD P w K mg base 1 "is_variable" ["term"] (spIsVar N) := T.is_variable
  exact ok_ocmp (n := 4) hM.ok (by decide) T.o_c T.o_compare (ok_exc hM.ok hM.nt T.o_c T.z_range T.z_len T.o_exceeds hv (fun n => ok_hav T.d_has_all_variables (ok_vc T.d_variable_counts hv n)) (ok_ow T.o_c T.o_weight hv (ok_sw T.o_c T.o_symbol_weight))
    (ok_rh T.o_c T.o_ranks_higher (ok_rank T.o_c T.c_tr T.o_rank)) 4 (by decide))
theorem Top.conv (T : Top K mg CO CG tk1 tk2 tk3) (hM : Menu N) : OkD P w K mg base 119 "converges" ["ordering", "rules"] (spConv N CO) := ok_conv hM.ok T.z_all T.o_c T.d_converges (T.cmp hM) (T.cps hM) (T.joined hM)
theorem Top.lstep (T : Top K mg CO CG tk1 tk2 tk3) (hM : Menu N) : OkD P w K mg base 112 "_law_step_at" ["_law_rules_here", "_law_term_here", "_law_place"] (spStep N false) :=
  ok_lstep T.d_law_step_at (ok_lat T.d_law_at) (ok_lmatch hM.ok T.d_law_match T.z_isinstance T.z_tuple T.z_len T.z_dict T.z_range 10) (ok_lput T.d_law_put 111) (ok_lapply T.d_law_apply T.z_isinstance T.z_tuple 10)
theorem Top.lplaces (T : Top K mg CO CG tk1 tk2 tk3) : ∀ n, OkD P w K mg base n "_law_places" ["_law_term_here"] (spLPos N n) := ok_lplaces T.d_law_places T.z_isinstance T.z_tuple T.z_range T.z_len
theorem Top.lnf (T : Top K mg CO CG tk1 tk2 tk3) (hM : Menu N) : OkD P w K mg base 114 "_law_normal_form" ["_law_rules_here", "_law_term_here"] (spLNf1 N) := lnf1 (ok_lnf T.d_law_normal_form T.z_range (ok_lonce T.d_law_once (T.lplaces 110) (T.lstep hM)))
theorem Top.draw (T : Top K mg CO CG tk1 tk2 tk3) : OkD P w K mg base 1 "_law_draw" ["_law_deck_here", "_law_most"] spDraw := ok_draw T.z_int T.z_len T.d_law_draw
theorem Top.lterm (T : Top K mg CO CG tk1 tk2 tk3) : ∀ d, OkD P w K mg base (d + 2) "_law_term" ["_law_deck_here", "_law_depth", "_law_leaves_here", "_law_names_here"] (spTerm N d) := ok_term T.d_law_term T.z_len T.draw
theorem Top.lvars (T : Top K mg CO CG tk1 tk2 tk3) : ∀ n, OkD P w K mg base n "_law_vars" ["_law_term_here"] (spLVars N n) := ok_lvars T.d_law_vars T.z_isinstance T.z_tuple
theorem Top.lpairs (T : Top K mg CO CG tk1 tk2 tk3) (hM : Menu N) : OkD P w K mg base 66 "_law_pairs" ["_law_first", "_law_second"] (spLPs N) :=
  ok_lps hM.ok T.z_max T.d_law_pairs (T.lvars 5) (T.lplaces 4) (ok_lunify hM.ok T.z_isinstance T.z_tuple T.z_range T.z_len T.z_list T.d_law_unify (ok_lapply T.d_law_apply T.z_isinstance T.z_tuple 64) (lvarsT (T.lvars 64))) (ok_lat T.d_law_at)
    (ok_lshift T.d_law_shift T.z_isinstance T.z_tuple 4) (ok_lapply T.d_law_apply T.z_isinstance T.z_tuple 10) (ok_lput T.d_law_put 10)
theorem Top.lcmp (T : Top K mg CO CG tk1 tk2 tk3) (hM : Menu N) : OkD P w K mg base 10 "_law_compare" ["_law_first", "_law_second", "_law_weights_here", "_law_precedence_here"] (spLCmp N 8) :=
  ok_lcmp (n := 8) hM.ok (by decide) T.d_law_compare (ok_lgt hM.ok hM.nt T.z_isinstance T.z_tuple T.z_range T.z_len T.d_law_greater (fun n => lvarsT (T.lvars n)) (ok_lcount T.d_law_count T.z_isinstance T.z_tuple T.z_int T.z_sum) (ok_lweight T.d_law_weight T.z_isinstance T.z_tuple T.z_sum) (ok_lhi T.d_law_higher) 8 (by decide))
theorem Top.lleaves (T : Top K mg CO CG tk1 tk2 tk3) : OkD P w K mg base 1 "_law_leaves" ["_law_names_here", "_law_many"] (spLeaves N) := ok_leaves T.z_range T.d_law_leaves
theorem Top.lrules (T : Top K mg CO CG tk1 tk2 tk3) (hM : Menu N) : OkD P w K mg base 12 "_law_rules" ["_law_deck_here", "_law_names_here", "_law_weights_here", "_law_precedence_here", "_law_most"] (spRules N) :=
  ok_rules T.z_isinstance T.z_tuple T.z_range T.d_law_rules T.draw (ok_rule T.d_law_rule T.lleaves (T.lterm 2) (T.lterm 1) (lvarsT (T.lvars 5)) (T.lcmp hM)) (T.lcmp hM)
end
theorem Top.law (T : Top K mg CO CG tk1 tk2 tk3) : OkD P w K mg base 120 "law" ["_law_script"] (spLaw K) :=
  ok_law T.z_isinstance T.z_tuple T.z_dict T.z_list T.z_len T.c_o T.d_law (ok_deck T.z_list T.d_law_deck) (ok_names T.z_list T.d_law_names T.draw) (ok_wts T.d_law_weights T.draw) (ok_prec T.z_list T.z_range T.z_len T.d_law_precedence T.draw)
    (ok_oinit T.z_dict T.z_list T.o_c T.o_init (ok_cw T.z_isinstance T.z_bool T.z_int T.c_tr T.d_check_weights) (ok_cp T.z_enumerate T.c_tr T.d_check_precedence))
    (fun N h => T.lrules (menu_of N h)) (fun N h => ok_lj (menu_of N h).ok T.d_law_joins (T.lpairs (menu_of N h)) (T.lnf (menu_of N h))) (ok_same T.z_isinstance T.z_tuple T.z_bool T.d_law_same) (fun N h => T.conv (menu_of N h))
    (fun N h => T.lterm 1) (fun N h => T.lleaves) (fun N h => ok_lapply T.d_law_apply T.z_isinstance T.z_tuple 4) T.draw
    (fun N h => ok_walk (menu_of N h).ok T.z_range T.z_len T.d_law_walk (T.lplaces 110) (T.lstep (menu_of N h)) T.draw) (fun N h => T.lnf (menu_of N h)) (fun N h => T.joined (menu_of N h))
end
end K78
end
section
set_option maxHeartbeats 4000000
namespace K78
open PySem PySem.Spec PyProof.Rows L2
/-! ### facts of the top -/
section
variable {K : PySem.W.Frag} {h : Heap} {mg : Str → Option Value}
theorem df_mk {x : Str} {st : Stmt} {ps : List Str} {f : Addr} {oc : Value} {od an : Option Addr} {osl : Array (Option Value)} {kV doc pm cdv ct : Value} (X : K.In h) (G : h.Ns mainGlobals mg)
    (hb : ∀ (kV doc pm : Value) (an : Option Addr) (cdv ct : Value) (us : List Value), us.length = ps.length → bindArgs (PySem.W.fnOf x x (defArgs st) (defBody st) (defScope st) .none kV doc pm an cdv ct) ⟨us, []⟩ = pure (ps.zip us))
    (a : PySem.W.nsIn K mainGlobals x = some (some (.ref f))) (l : K.lookup f = some ⟨oc, od, .func (PySem.W.fnOf x x (defArgs st) (defBody st) (defScope st) .none kV doc pm an cdv ct), osl⟩)
    (c : PySem.W.codeIn K cdv x = true) (k : PySem.W.keepIn K (.ref f) = true) : DF K mg x st ps :=
  ⟨f, _, PySem.W.mg_of X G a, fun_mk l c k, (fun_mk l c k).binds hb⟩
theorem dm_mk {C : Addr} {m qual : Str} {st : Stmt} {ps : List Str} {f : Addr} {oc : Value} {od an : Option Addr} {osl : Array (Option Value)} {kV doc pm cdv ct : Value}
    (hb : ∀ (kV doc pm : Value) (an : Option Addr) (cdv ct : Value) (us : List Value), us.length = ps.length → bindArgs (PySem.W.fnOf m qual (defArgs st) (defBody st) (defScope st) .none kV doc pm an cdv ct) ⟨us, []⟩ = pure (ps.zip us))
    (a : PySem.W.findIn K (.ref C) m = some (some (.ref f))) (i : PySem.W.isFn K (.ref f) = true) (l : K.lookup f = some ⟨oc, od, .func (PySem.W.fnOf m qual (defArgs st) (defBody st) (defScope st) .none kV doc pm an cdv ct), osl⟩)
    (c : PySem.W.codeIn K cdv qual = true) (k : PySem.W.keepIn K (.ref f) = true) : DM K C m qual st ps :=
  ⟨f, _, ⟨a, i, k⟩, fun_mk l c k, (fun_mk l c k).binds hb⟩
theorem dfk_mk {x : Str} {st : Stmt} {ps : List Str} {n : Nat} {q : Str} {v : V} {f : Addr} {oc : Value} {od an : Option Addr} {osl : Array (Option Value)} {D : Addr} {u doc pm cdv ct : Value} (X : K.In h) (G : h.Ns mainGlobals mg)
    (hb : ∀ (kV doc pm : Value) (an : Option Addr) (cdv ct : Value) (us ws : List Value), us.length = n → ws.length = 1 → bindArgs (PySem.W.fnOf x x (defArgs st) (defBody st) (defScope st) .none kV doc pm an cdv ct) ⟨us, [q].zip ws⟩ = pure (ps.zip (us ++ ws)))
    (a : PySem.W.nsIn K mainGlobals x = some (some (.ref f))) (l : K.lookup f = some ⟨oc, od, .func (PySem.W.fnOf x x (defArgs st) (defBody st) (defScope st) .none (.ref D) doc pm an cdv ct), osl⟩)
    (c : PySem.W.codeIn K cdv x = true) (k : PySem.W.keepIn K (.ref f) = true) (d : PySem.W.nsIn K D q = some (some u)) (r : RelV v u) : DFK K mg x st ps n [q] [(q, v)] :=
  ⟨f, _, PySem.W.mg_of X G a, ⟨⟨oc, od, .none, .ref D, doc, pm, an, cdv, ct, osl, rfl, l, c, .inl ⟨rfl, rfl⟩, .inr ⟨D, rfl, fun p hp => by rw [List.mem_singleton] at hp; subst hp; exact ⟨u, d, r⟩⟩⟩, k⟩,
    ⟨fun s us ws _ h1 h2 => .of_eq (hb _ _ _ _ _ _ us ws h1 h2), fun r1 r2 => r1.append r2⟩⟩
theorem dfb_mk {x : Str} {st : Stmt} {ps : List Str} {n : Nat} {q : Str} {v : V} {f : Addr} {oc : Value} {od an : Option Addr} {osl : Array (Option Value)} {D : Addr} {u doc pm cdv ct : Value} (X : K.In h) (G : h.Ns mainGlobals mg)
    (hb : ∀ (D : Addr) (doc pm : Value) (an : Option Addr) (cdv ct : Value) (us ks : List Value), us.length = n → ks.length = 1 → KwChain D ([q].zip ks) (bindArgs (PySem.W.fnOf x x (defArgs st) (defBody st) (defScope st) .none (.ref D) doc pm an cdv ct) ⟨us, []⟩) (ps.zip (us ++ ks)))
    (a : PySem.W.nsIn K mainGlobals x = some (some (.ref f))) (l : K.lookup f = some ⟨oc, od, .func (PySem.W.fnOf x x (defArgs st) (defBody st) (defScope st) .none (.ref D) doc pm an cdv ct), osl⟩)
    (c : PySem.W.codeIn K cdv x = true) (k : PySem.W.keepIn K (.ref f) = true) (d : PySem.W.nsIn K D q = some (some u)) (r : RelV v u) (hn : n + 1 = ps.length := by rfl) : DFB K mg x st ps [v] [(q, v)] := by
  have F : FunD K x x (defArgs st) (defBody st) (defScope st) [] [(q, v)] f (PySem.W.fnOf x x (defArgs st) (defBody st) (defScope st) .none (.ref D) doc pm an cdv ct) :=
    ⟨⟨oc, od, .none, .ref D, doc, pm, an, cdv, ct, osl, rfl, l, c, .inl ⟨rfl, rfl⟩, .inr ⟨D, rfl, fun p hp => by rw [List.mem_singleton] at hp; subst hp; exact ⟨u, d, r⟩⟩⟩, k⟩
  exact ⟨f, _, PySem.W.mg_of X G a, F, F.binds0 n (by simp) hn hb⟩
theorem di_mk {C : Addr} {qual : Str} {st : Stmt} {ps : List Str} {f : Addr} {oc : Value} {od an : Option Addr} {osl : Array (Option Value)} {kV doc pm cdv ct : Value}
    (hb : ∀ (kV doc pm : Value) (an : Option Addr) (cdv ct : Value) (us : List Value), us.length = ps.length → bindArgs (PySem.W.fnOf "__init__" qual (defArgs st) (defBody st) (defScope st) .none kV doc pm an cdv ct) ⟨us, []⟩ = pure (ps.zip us))
    (m : PySem.W.makesIn K C = true) (a : PySem.W.findIn K (.ref C) "__init__" = some (some (.ref f))) (i : PySem.W.isFn K (.ref f) = true) (kc : PySem.W.keepIn K (.ref C) = true)
    (l : K.lookup f = some ⟨oc, od, .func (PySem.W.fnOf "__init__" qual (defArgs st) (defBody st) (defScope st) .none kV doc pm an cdv ct), osl⟩)
    (c : PySem.W.codeIn K cdv qual = true) (k : PySem.W.keepIn K (.ref f) = true) : DI K C qual st ps :=
  ⟨f, _, ⟨m, a, i, kc⟩, fun_mk l c k, (fun_mk l c k).binds hb⟩
/-- the classes and the numbers stand where the top says -/
theorem top_ex {CO CG : Addr} {tk1 tk2 tk3 : Tok} (eO : PySem.W.nsIn K mainGlobals "Ordering" = some (some (.ref CO))) (eG : PySem.W.nsIn K mainGlobals "TermGraph" = some (some (.ref CG))) (e1 : PySem.W.nsIn K mainGlobals "MAX_SIZE" = some (some (.int 1000 tk1)))
    (e2 : PySem.W.nsIn K mainGlobals "MAX_NESTING" = some (some (.int 100 tk2))) (e3 : PySem.W.nsIn K mainGlobals "TRUE_SYMBOL" = some (some (.str "true" tk3)))
    (k : PySem.W.nsIn K mainGlobals "Ordering" = some (some (.ref CO)) → PySem.W.nsIn K mainGlobals "TermGraph" = some (some (.ref CG)) → PySem.W.nsIn K mainGlobals "MAX_SIZE" = some (some (.int 1000 tk1)) → PySem.W.nsIn K mainGlobals "MAX_NESTING" = some (some (.int 100 tk2)) → PySem.W.nsIn K mainGlobals "TRUE_SYMBOL" = some (some (.str "true" tk3)) → Top K mg CO CG tk1 tk2 tk3) :
    ∃ (CO CG : Addr) (tk1 tk2 tk3 : Tok), Top K mg CO CG tk1 tk2 tk3 := ⟨CO, CG, tk1, tk2, tk3, k eO eG e1 e2 e3⟩
theorem law_fin {P : Program} {w : World} {CO CG fa : Addr} {tk1 tk2 tk3 : Tok} (T : Top K mg CO CG tk1 tk2 tk3) (hmg : mg "law" = some (.ref fa)) :
    ∃ fd, (∀ (s : Shared) (u : Value), BindsTo s fd ⟨[u], []⟩ [("_law_script", u)]) ∧ ∀ base : Heap, K.In base → base.Ns mainGlobals mg → FnOk P w K mg base CX0 200 fa fd ["_law_script"] (spLaw K) := by
  obtain ⟨f, fd, m, F, _⟩ := T.d_law.ex
  rw [m] at hmg
  cases hmg
  obtain ⟨oc, od, osl, lk⟩ := lk_of F
  refine ⟨fd, fun s u => ?_, fun base _ _ => ?_⟩
  · obtain ⟨_, _, _, _, _, _, _, _, _, rfl, _, _⟩ := F.ex
    exact BindsTo.of_eq rfl
  · obtain ⟨f', fd', m', _, _, F', oc', od', osl', lk'⟩ := T.law (P := P) (w := w) (base := base)
    rw [m] at m'
    cases m'
    rw [lk] at lk'
    cases lk'
    exact F'.mono (by decide)
theorem noattr {C : Addr} {m : Str} (h : PySem.W.findIn K (.ref C) m = some none) : NoAttr K C m := h
end
end K78
end
section
set_option maxHeartbeats 0
open PySem PySem.W PyProof.Rows
open_top k78head for PySem.Challenge.rw_elenchus_k78_whole_converging_rules
end
section
set_option maxHeartbeats 0
open PySem PySem.W PyProof.Rows
theorem PySem.Challenge.cw_elenchus_k78_whole_converging_rules_holds : PySem.Challenge.rw_elenchus_k78_whole_converging_rules.Holds := by
  refine k78head ?_
  k_fill
  refine L2.walk_of (l := PySem.Challenge.rw_elenchus_k78_whole_converging_rules) (n := 63) (k := 200) (x := "_law_script") (CX := fun _ => L2.CX0) (sp := fun w => K78.spLaw (k78head.heap_39 w.params)) rfl (by decide) rfl ⟨rfl, by decide, by decide⟩ (fun w h Y => PySem.W.kIn_of Y) ?F (fun _ _ a ns hl _ hS => ⟨a, ns, rfl, hS, fun _ => rfl⟩) (fun _ _ _ _ _ z => z)
  case F =>
    intro w mg fa h KX G hmg
    have hT : ∃ (CO CG : Addr) (tk1 tk2 tk3 : Tok), K78.Top (k78head.heap_39 w.params) mg CO CG tk1 tk2 tk3 := by
      clear hmg
      refine' K78.top_ex ?aO ?aG ?a1 ?a2 ?a3 ?T
      (case aO => k_is); (case aG => k_is); (case a1 => k_is); (case a2 => k_is); (case a3 => k_is)
      intro eO eG e1 e2 e3
      constructor
      · refine' K78.df_mk KX G (fun _ _ _ _ _ _ us hl => match us, hl with | [_], _ => rfl) ?a ?l ?c ?k
        (case a => k_is); (case l => k_is); (case c => k_is); (case k => k_is)
      · refine' K78.df_mk KX G (fun _ _ _ _ _ _ us hl => match us, hl with | [_], _ => rfl) ?a ?l ?c ?k
        (case a => k_is); (case l => k_is); (case c => k_is); (case k => k_is)
      · refine' K78.df_mk KX G (fun _ _ _ _ _ _ us hl => match us, hl with | [_], _ => rfl) ?a ?l ?c ?k
        (case a => k_is); (case l => k_is); (case c => k_is); (case k => k_is)
      · refine' K78.df_mk KX G (fun _ _ _ _ _ _ us hl => match us, hl with | [_], _ => rfl) ?a ?l ?c ?k
        (case a => k_is); (case l => k_is); (case c => k_is); (case k => k_is)
      · refine' K78.df_mk KX G (fun _ _ _ _ _ _ us hl => match us, hl with | [_, _], _ => rfl) ?a ?l ?c ?k
        (case a => k_is); (case l => k_is); (case c => k_is); (case k => k_is)
      · refine' K78.df_mk KX G (fun _ _ _ _ _ _ us hl => match us, hl with | [_, _, _], _ => rfl) ?a ?l ?c ?k
        (case a => k_is); (case l => k_is); (case c => k_is); (case k => k_is)
      · refine' K78.df_mk KX G (fun _ _ _ _ _ _ us hl => match us, hl with | [_, _, _], _ => rfl) ?a ?l ?c ?k
        (case a => k_is); (case l => k_is); (case c => k_is); (case k => k_is)
      · refine' K78.df_mk KX G (fun _ _ _ _ _ _ us hl => match us, hl with | [_, _], _ => rfl) ?a ?l ?c ?k
        (case a => k_is); (case l => k_is); (case c => k_is); (case k => k_is)
      · refine' K78.df_mk KX G (fun _ _ _ _ _ _ us hl => match us, hl with | [_, _, _], _ => rfl) ?a ?l ?c ?k
        (case a => k_is); (case l => k_is); (case c => k_is); (case k => k_is)
      · refine' K78.df_mk KX G (fun _ _ _ _ _ _ us hl => match us, hl with | [_, _], _ => rfl) ?a ?l ?c ?k
        (case a => k_is); (case l => k_is); (case c => k_is); (case k => k_is)
      · refine' K78.df_mk KX G (fun _ _ _ _ _ _ us hl => match us, hl with | [_], _ => rfl) ?a ?l ?c ?k
        (case a => k_is); (case l => k_is); (case c => k_is); (case k => k_is)
      · refine' K78.df_mk KX G (fun _ _ _ _ _ _ us hl => match us, hl with | [_, _], _ => rfl) ?a ?l ?c ?k
        (case a => k_is); (case l => k_is); (case c => k_is); (case k => k_is)
      · refine' K78.df_mk KX G (fun _ _ _ _ _ _ us hl => match us, hl with | [_], _ => rfl) ?a ?l ?c ?k
        (case a => k_is); (case l => k_is); (case c => k_is); (case k => k_is)
      · refine' K78.df_mk KX G (fun _ _ _ _ _ _ us hl => match us, hl with | [_, _], _ => rfl) ?a ?l ?c ?k
        (case a => k_is); (case l => k_is); (case c => k_is); (case k => k_is)
      · refine' K78.df_mk KX G (fun _ _ _ _ _ _ us hl => match us, hl with | [_], _ => rfl) ?a ?l ?c ?k
        (case a => k_is); (case l => k_is); (case c => k_is); (case k => k_is)
      · refine' K78.df_mk KX G (fun _ _ _ _ _ _ us hl => match us, hl with | [_, _], _ => rfl) ?a ?l ?c ?k
        (case a => k_is); (case l => k_is); (case c => k_is); (case k => k_is)
      · refine' K78.df_mk KX G (fun _ _ _ _ _ _ us hl => match us, hl with | [_], _ => rfl) ?a ?l ?c ?k
        (case a => k_is); (case l => k_is); (case c => k_is); (case k => k_is)
      · refine' K78.df_mk KX G (fun _ _ _ _ _ _ us hl => match us, hl with | [_], _ => rfl) ?a ?l ?c ?k
        (case a => k_is); (case l => k_is); (case c => k_is); (case k => k_is)
      · refine' K78.df_mk KX G (fun _ _ _ _ _ _ us hl => match us, hl with | [_, _, _], _ => rfl) ?a ?l ?c ?k
        (case a => k_is); (case l => k_is); (case c => k_is); (case k => k_is)
      · refine' K78.df_mk KX G (fun _ _ _ _ _ _ us hl => match us, hl with | [_, _], _ => rfl) ?a ?l ?c ?k
        (case a => k_is); (case l => k_is); (case c => k_is); (case k => k_is)
      · refine' K78.df_mk KX G (fun _ _ _ _ _ _ us hl => match us, hl with | [_, _], _ => rfl) ?a ?l ?c ?k
        (case a => k_is); (case l => k_is); (case c => k_is); (case k => k_is)
      · refine' K78.df_mk KX G (fun _ _ _ _ _ _ us hl => match us, hl with | [_, _, _], _ => rfl) ?a ?l ?c ?k
        (case a => k_is); (case l => k_is); (case c => k_is); (case k => k_is)
      · refine' K78.df_mk KX G (fun _ _ _ _ _ _ us hl => match us, hl with | [_, _], _ => rfl) ?a ?l ?c ?k
        (case a => k_is); (case l => k_is); (case c => k_is); (case k => k_is)
      · refine' K78.df_mk KX G (fun _ _ _ _ _ _ us hl => match us, hl with | [_, _], _ => rfl) ?a ?l ?c ?k
        (case a => k_is); (case l => k_is); (case c => k_is); (case k => k_is)
      · refine' K78.df_mk KX G (fun _ _ _ _ _ _ us hl => match us, hl with | [_, _], _ => rfl) ?a ?l ?c ?k
        (case a => k_is); (case l => k_is); (case c => k_is); (case k => k_is)
      · refine' K78.df_mk KX G (fun _ _ _ _ _ _ us hl => match us, hl with | [_], _ => rfl) ?a ?l ?c ?k
        (case a => k_is); (case l => k_is); (case c => k_is); (case k => k_is)
      · refine' K78.df_mk KX G (fun _ _ _ _ _ _ us hl => match us, hl with | [_, _], _ => rfl) ?a ?l ?c ?k
        (case a => k_is); (case l => k_is); (case c => k_is); (case k => k_is)
      · refine' K78.df_mk KX G (fun _ _ _ _ _ _ us hl => match us, hl with | [_, _], _ => rfl) ?a ?l ?c ?k
        (case a => k_is); (case l => k_is); (case c => k_is); (case k => k_is)
      · refine' K78.df_mk KX G (fun _ _ _ _ _ _ us hl => match us, hl with | [_], _ => rfl) ?a ?l ?c ?k
        (case a => k_is); (case l => k_is); (case c => k_is); (case k => k_is)
      · refine' K78.df_mk KX G (fun _ _ _ _ _ _ us hl => match us, hl with | [_, _], _ => rfl) ?a ?l ?c ?k
        (case a => k_is); (case l => k_is); (case c => k_is); (case k => k_is)
      · refine' K78.df_mk KX G (fun _ _ _ _ _ _ us hl => match us, hl with | [_, _], _ => rfl) ?a ?l ?c ?k
        (case a => k_is); (case l => k_is); (case c => k_is); (case k => k_is)
      · refine' K78.df_mk KX G (fun _ _ _ _ _ _ us hl => match us, hl with | [_, _, _, _], _ => rfl) ?a ?l ?c ?k
        (case a => k_is); (case l => k_is); (case c => k_is); (case k => k_is)
      · refine' K78.df_mk KX G (fun _ _ _ _ _ _ us hl => match us, hl with | [_, _], _ => rfl) ?a ?l ?c ?k
        (case a => k_is); (case l => k_is); (case c => k_is); (case k => k_is)
      · refine' K78.df_mk KX G (fun _ _ _ _ _ _ us hl => match us, hl with | [_, _], _ => rfl) ?a ?l ?c ?k
        (case a => k_is); (case l => k_is); (case c => k_is); (case k => k_is)
      · refine' K78.df_mk KX G (fun _ _ _ _ _ _ us hl => match us, hl with | [_], _ => rfl) ?a ?l ?c ?k
        (case a => k_is); (case l => k_is); (case c => k_is); (case k => k_is)
      · refine' K78.df_mk KX G (fun _ _ _ _ _ _ us hl => match us, hl with | [_, _], _ => rfl) ?a ?l ?c ?k
        (case a => k_is); (case l => k_is); (case c => k_is); (case k => k_is)
      · refine' K78.df_mk KX G (fun _ _ _ _ _ _ us hl => match us, hl with | [_, _], _ => rfl) ?a ?l ?c ?k
        (case a => k_is); (case l => k_is); (case c => k_is); (case k => k_is)
      · refine' K78.df_mk KX G (fun _ _ _ _ _ _ us hl => match us, hl with | [_, _, _], _ => rfl) ?a ?l ?c ?k
        (case a => k_is); (case l => k_is); (case c => k_is); (case k => k_is)
      · refine' K78.df_mk KX G (fun _ _ _ _ _ _ us hl => match us, hl with | [_, _, _, _], _ => rfl) ?a ?l ?c ?k
        (case a => k_is); (case l => k_is); (case c => k_is); (case k => k_is)
      · refine' K78.df_mk KX G (fun _ _ _ _ _ _ us hl => match us, hl with | [_, _, _, _], _ => rfl) ?a ?l ?c ?k
        (case a => k_is); (case l => k_is); (case c => k_is); (case k => k_is)
      · refine' K78.df_mk KX G (fun _ _ _ _ _ _ us hl => match us, hl with | [_, _], _ => rfl) ?a ?l ?c ?k
        (case a => k_is); (case l => k_is); (case c => k_is); (case k => k_is)
      · refine' K78.df_mk KX G (fun _ _ _ _ _ _ us hl => match us, hl with | [_, _, _], _ => rfl) ?a ?l ?c ?k
        (case a => k_is); (case l => k_is); (case c => k_is); (case k => k_is)
      · refine' K78.df_mk KX G (fun _ _ _ _ _ _ us hl => match us, hl with | [_], _ => rfl) ?a ?l ?c ?k
        (case a => k_is); (case l => k_is); (case c => k_is); (case k => k_is)
      · refine' K78.df_mk KX G (fun _ _ _ _ _ _ us hl => match us, hl with | [_, _], _ => rfl) ?a ?l ?c ?k
        (case a => k_is); (case l => k_is); (case c => k_is); (case k => k_is)
      · refine' K78.df_mk KX G (fun _ _ _ _ _ _ us hl => match us, hl with | [_, _, _], _ => rfl) ?a ?l ?c ?k
        (case a => k_is); (case l => k_is); (case c => k_is); (case k => k_is)
      · refine' K78.df_mk KX G (fun _ _ _ _ _ _ us hl => match us, hl with | [_, _], _ => rfl) ?a ?l ?c ?k
        (case a => k_is); (case l => k_is); (case c => k_is); (case k => k_is)
      · refine' K78.df_mk KX G (fun _ _ _ _ _ _ us hl => match us, hl with | [_, _, _, _], _ => rfl) ?a ?l ?c ?k
        (case a => k_is); (case l => k_is); (case c => k_is); (case k => k_is)
      · refine' K78.df_mk KX G (fun _ _ _ _ _ _ us hl => match us, hl with | [_, _, _], _ => rfl) ?a ?l ?c ?k
        (case a => k_is); (case l => k_is); (case c => k_is); (case k => k_is)
      · refine' K78.df_mk KX G (fun _ _ _ _ _ _ us hl => match us, hl with | [_, _], _ => rfl) ?a ?l ?c ?k
        (case a => k_is); (case l => k_is); (case c => k_is); (case k => k_is)
      · refine' K78.df_mk KX G (fun _ _ _ _ _ _ us hl => match us, hl with | [_, _], _ => rfl) ?a ?l ?c ?k
        (case a => k_is); (case l => k_is); (case c => k_is); (case k => k_is)
      · refine' K78.df_mk KX G (fun _ _ _ _ _ _ us hl => match us, hl with | [_, _, _, _, _], _ => rfl) ?a ?l ?c ?k
        (case a => k_is); (case l => k_is); (case c => k_is); (case k => k_is)
      · refine' K78.df_mk KX G (fun _ _ _ _ _ _ us hl => match us, hl with | [_, _, _], _ => rfl) ?a ?l ?c ?k
        (case a => k_is); (case l => k_is); (case c => k_is); (case k => k_is)
      · refine' K78.df_mk KX G (fun _ _ _ _ _ _ us hl => match us, hl with | [_, _], _ => rfl) ?a ?l ?c ?k
        (case a => k_is); (case l => k_is); (case c => k_is); (case k => k_is)
      · refine' K78.df_mk KX G (fun _ _ _ _ _ _ us hl => match us, hl with | [_], _ => rfl) ?a ?l ?c ?k
        (case a => k_is); (case l => k_is); (case c => k_is); (case k => k_is)
      · refine' K78.df_mk KX G (fun _ _ _ _ _ _ us hl => match us, hl with | [_], _ => rfl) ?a ?l ?c ?k
        (case a => k_is); (case l => k_is); (case c => k_is); (case k => k_is)
      · refine' K78.dfk_mk KX G (fun _ _ _ _ _ _ us ws h1 h2 => match us, ws, h1, h2 with | [_], [_], _, _ => rfl) ?a ?l ?c ?k ?d ?r
        (case a => k_is); (case l => k_is); (case c => k_is); (case k => k_is); (case d => k_is); (case r => exact rfl)
      · refine' K78.dfk_mk KX G (fun _ _ _ _ _ _ us ws h1 h2 => match us, ws, h1, h2 with | [_], [_], _, _ => rfl) ?a ?l ?c ?k ?d ?r
        (case a => k_is); (case l => k_is); (case c => k_is); (case k => k_is); (case d => k_is); (case r => exact rfl)
      · refine' K78.dfb_mk (n := 2) KX G (fun _ _ _ _ _ _ us ks h1 h2 => match us, ks, h1, h2 with | [_, _], [_], _, _ => ⟨_, _, _, _, _, _, rfl, rfl, rfl⟩) ?a ?l ?c ?k ?d ?r
        (case a => k_is); (case l => k_is); (case c => k_is); (case k => k_is); (case d => k_is); (case r => exact rfl)
      · refine' K78.dm_mk (fun _ _ _ _ _ _ us hl => match us, hl with | [_, _], _ => rfl) ?a ?i ?l ?c ?k
        (case a => k_is); (case i => k_is); (case l => k_is); (case c => k_is); (case k => k_is)
      · refine' K78.dm_mk (fun _ _ _ _ _ _ us hl => match us, hl with | [_, _], _ => rfl) ?a ?i ?l ?c ?k
        (case a => k_is); (case i => k_is); (case l => k_is); (case c => k_is); (case k => k_is)
      · refine' K78.dm_mk (fun _ _ _ _ _ _ us hl => match us, hl with | [_, _], _ => rfl) ?a ?i ?l ?c ?k
        (case a => k_is); (case i => k_is); (case l => k_is); (case c => k_is); (case k => k_is)
      · refine' K78.dm_mk (fun _ _ _ _ _ _ us hl => match us, hl with | [_, _, _], _ => rfl) ?a ?i ?l ?c ?k
        (case a => k_is); (case i => k_is); (case l => k_is); (case c => k_is); (case k => k_is)
      · refine' K78.dm_mk (fun _ _ _ _ _ _ us hl => match us, hl with | [_, _, _], _ => rfl) ?a ?i ?l ?c ?k
        (case a => k_is); (case i => k_is); (case l => k_is); (case c => k_is); (case k => k_is)
      · refine' K78.dm_mk (fun _ _ _ _ _ _ us hl => match us, hl with | [_, _, _], _ => rfl) ?a ?i ?l ?c ?k
        (case a => k_is); (case i => k_is); (case l => k_is); (case c => k_is); (case k => k_is)
      · refine' K78.di_mk (fun _ _ _ _ _ _ us hl => match us, hl with | [_, _, _], _ => rfl) ?m ?a ?i ?kc ?l ?c ?k
        (case m => k_is); (case a => k_is); (case i => k_is); (case kc => k_is); (case l => k_is); (case c => k_is); (case k => k_is)
      · refine' K78.OrdC.mk ⟨?pg, ?hd, ?po, ?sa⟩ (K78.noattr ?n1) (K78.noattr ?n2)
        (case pg => k_is); (case hd => k_is); (case po => k_is); (case sa => k_is); (case n1 => k_is); (case n2 => k_is)
      · refine' K78.dm_mk (fun _ _ _ _ _ _ us hl => match us, hl with | [_, _], _ => rfl) ?a ?i ?l ?c ?k
        (case a => k_is); (case i => k_is); (case l => k_is); (case c => k_is); (case k => k_is)
      · refine' K78.dm_mk (fun _ _ _ _ _ _ us hl => match us, hl with | [_, _, _], _ => rfl) ?a ?i ?l ?c ?k
        (case a => k_is); (case i => k_is); (case l => k_is); (case c => k_is); (case k => k_is)
      · refine' K78.dm_mk (fun _ _ _ _ _ _ us hl => match us, hl with | [_, _, _, _], _ => rfl) ?a ?i ?l ?c ?k
        (case a => k_is); (case i => k_is); (case l => k_is); (case c => k_is); (case k => k_is)
      · refine' K78.dm_mk (fun _ _ _ _ _ _ us hl => match us, hl with | [_, _], _ => rfl) ?a ?i ?l ?c ?k
        (case a => k_is); (case i => k_is); (case l => k_is); (case c => k_is); (case k => k_is)
      · refine' K78.dm_mk (fun _ _ _ _ _ _ us hl => match us, hl with | [_, _], _ => rfl) ?a ?i ?l ?c ?k
        (case a => k_is); (case i => k_is); (case l => k_is); (case c => k_is); (case k => k_is)
      · refine' K78.dm_mk (fun _ _ _ _ _ _ us hl => match us, hl with | [_, _, _], _ => rfl) ?a ?i ?l ?c ?k
        (case a => k_is); (case i => k_is); (case l => k_is); (case c => k_is); (case k => k_is)
      · refine' K78.dm_mk (fun _ _ _ _ _ _ us hl => match us, hl with | [_], _ => rfl) ?a ?i ?l ?c ?k
        (case a => k_is); (case i => k_is); (case l => k_is); (case c => k_is); (case k => k_is)
      · refine' K78.dm_mk (fun _ _ _ _ _ _ us hl => match us, hl with | [_, _], _ => rfl) ?a ?i ?l ?c ?k
        (case a => k_is); (case i => k_is); (case l => k_is); (case c => k_is); (case k => k_is)
      · refine' K78.dm_mk (fun _ _ _ _ _ _ us hl => match us, hl with | [_, _], _ => rfl) ?a ?i ?l ?c ?k
        (case a => k_is); (case i => k_is); (case l => k_is); (case c => k_is); (case k => k_is)
      · refine' K78.di_mk (fun _ _ _ _ _ _ us hl => match us, hl with | [_], _ => rfl) ?m ?a ?i ?kc ?l ?c ?k
        (case m => k_is); (case a => k_is); (case i => k_is); (case kc => k_is); (case l => k_is); (case c => k_is); (case k => k_is)
      · refine' K78.GrC.mk ⟨?pg, ?hd, ?po, ?sa⟩ (K78.noattr ?n1) (K78.noattr ?n2) (K78.noattr ?n3) (K78.noattr ?n4) (K78.noattr ?n5) (K78.noattr ?n6)
        (case pg => k_is); (case hd => k_is); (case po => k_is); (case sa => k_is); (case n1 => k_is); (case n2 => k_is); (case n3 => k_is); (case n4 => k_is); (case n5 => k_is); (case n6 => k_is)
      · exact PySem.W.mg_of KX G eO
      · exact PySem.W.mg_of KX G eG
      · exact PySem.W.mg_of KX G e1
      · exact PySem.W.mg_of KX G e2
      · exact PySem.W.mg_of KX G e3
      · exact PySem.W.mg_none_of KX G (by k_is)
      · exact PySem.W.mg_none_of KX G (by k_is)
      · exact PySem.W.mg_none_of KX G (by k_is)
      · exact PySem.W.mg_none_of KX G (by k_is)
      · exact PySem.W.mg_none_of KX G (by k_is)
      · exact PySem.W.mg_none_of KX G (by k_is)
      · exact PySem.W.mg_none_of KX G (by k_is)
      · exact PySem.W.mg_none_of KX G (by k_is)
      · exact PySem.W.mg_none_of KX G (by k_is)
      · exact PySem.W.mg_none_of KX G (by k_is)
      · exact PySem.W.mg_none_of KX G (by k_is)
      · exact PySem.W.mg_none_of KX G (by k_is)
      · exact PySem.W.mg_none_of KX G (by k_is)
      · exact PySem.W.mg_none_of KX G (by k_is)
      · exact PySem.W.mg_none_of KX G (by k_is)
    obtain ⟨CO, CG, tk1, tk2, tk3, T⟩ := hT
    exact K78.law_fin T hmg
end
