import PyProof.Rows.All
import Wide.All
import OpenK.AllK
import Wide.FinOn
import PySem.Str
import KE.KStateDown
import HandS.ForMost
import HandS.ForExc
import HandS.Head0
import HandS.Head1
import HandS.Head2
import HandS.HeadEnd
import HandS.HeadHook1
import HandS.HeadHook2
import HandS.HeadHook3
import HandS.HeadHook4
import HandS.Defaults
import HandS.HotCalls
import HandS.Rev
import HandS.RevTup
import HandS.Conv
import KE.KxLen
import HandS.TupAny
import HandS.DeepEq
import PyProof.NeData
import HandS.ExcInit
import HandS.ExcField
import HandS.ExcCtx
import HandS.TryElse
import HandS.Zip
import HandS.Lambda
import HandS.Codes
import HandS.Wide
import KE.LtSeq
import PySem.Challenge.RW_goaltrail_k35_whole_ways_lead
/-! GM1 -/
set_option Elab.async false
set_option linter.all false
set_option maxRecDepth 10000
/-! Terms, putting in, readings. Plain mathematics. -/
namespace G35
open PySem

inductive Tm (α : Type) where
  | num (n : Int)
  | any (x : α)
  | app (f : Str) (ks : List (Tm α))

namespace Tm
variable {α β γ : Type}
theorem ind {P : Tm α → Prop} (hn : ∀ n, P (.num n)) (ha : ∀ x, P (.any x)) (hp : ∀ f ks, (∀ k ∈ ks, P k) → P (.app f ks)) : ∀ t, P t := by
  intro t
  refine Tm.rec (motive_1 := P) (motive_2 := fun ks => ∀ k ∈ ks, P k) hn ha hp ?_ ?_ t
  · intro k hk
    cases hk
  · intro h tl h1 h2 k hk
    rcases List.mem_cons.mp hk with e | e
    · rw [e]; exact h1
    · exact h2 k e
mutual
def sub (θ : α → Tm β) : Tm α → Tm β
  | .num n => .num n
  | .any x => θ x
  | .app f ks => .app f (subs θ ks)
def subs (θ : α → Tm β) : List (Tm α) → List (Tm β)
  | [] => []
  | t :: ts => sub θ t :: subs θ ts
end
theorem subs_map (θ : α → Tm β) : ∀ ks : List (Tm α), subs θ ks = ks.map (sub θ)
  | [] => by simp [subs]
  | t :: ts => by simp [subs, subs_map θ ts]
theorem sub_num (θ : α → Tm β) (n : Int) : sub θ (.num n) = .num n := by simp [sub]
theorem sub_any (θ : α → Tm β) (x : α) : sub θ (.any x) = θ x := by simp [sub]
theorem sub_app (θ : α → Tm β) (f : Str) (ks : List (Tm α)) : sub θ (.app f ks) = .app f (ks.map (sub θ)) := by simp [sub, subs_map]
mutual
def vars : Tm α → List α
  | .num _ => []
  | .any x => [x]
  | .app _ ks => varsL ks
def varsL : List (Tm α) → List α
  | [] => []
  | t :: ts => vars t ++ varsL ts
end
theorem varsL_eq : ∀ ks : List (Tm α), varsL ks = ks.flatMap vars
  | [] => by simp [varsL]
  | t :: ts => by simp [varsL, varsL_eq ts]
theorem vars_num (n : Int) : vars (.num n : Tm α) = [] := by simp [vars]
theorem vars_any (x : α) : vars (.any x) = [x] := by simp [vars]
theorem vars_app (f : Str) (ks : List (Tm α)) : vars (.app f ks) = ks.flatMap vars := by simp [vars, varsL_eq]
mutual
def size : Tm α → Nat
  | .num _ => 1
  | .any _ => 1
  | .app _ ks => 1 + sizeL ks
def sizeL : List (Tm α) → Nat
  | [] => 0
  | t :: ts => size t + sizeL ts
end
theorem sizeL_eq : ∀ ks : List (Tm α), sizeL ks = (ks.map size).sum
  | [] => by simp [sizeL]
  | t :: ts => by simp [sizeL, sizeL_eq ts]
theorem size_num (n : Int) : size (.num n : Tm α) = 1 := by simp [size]
theorem size_any (x : α) : size (.any x) = 1 := by simp [size]
theorem size_app (f : Str) (ks : List (Tm α)) : size (.app f ks) = 1 + (ks.map size).sum := by simp [size, sizeL_eq]
mutual
def depth : Tm α → Nat
  | .num _ => 1
  | .any _ => 1
  | .app _ ks => 1 + depthL ks
def depthL : List (Tm α) → Nat
  | [] => 0
  | t :: ts => max (depth t) (depthL ts)
end
theorem depth_num (n : Int) : depth (.num n : Tm α) = 1 := by simp [depth]
theorem depth_any (x : α) : depth (.any x) = 1 := by simp [depth]
theorem depth_app (f : Str) (ks : List (Tm α)) : depth (.app f ks) = 1 + depthL ks := by simp [depth]
theorem depthL_le {d : Nat} : ∀ {ks : List (Tm α)}, depthL ks ≤ d ↔ ∀ k ∈ ks, depth k ≤ d
  | [] => by simp [depthL]
  | t :: ts => by simp [depthL, Nat.max_le, depthL_le (ks := ts)]
theorem depth_kid {f : Str} {ks : List (Tm α)} {k : Tm α} (h : k ∈ ks) : depth k < depth (.app f ks) := by
  rw [depth_app]
  have := depthL_le.mp (Nat.le_refl (depthL ks)) k h
  omega
theorem depth_pos (t : Tm α) : 1 ≤ depth t := by
  cases t with
  | num n => rw [depth_num]; exact Nat.le_refl _
  | any x => rw [depth_any]; exact Nat.le_refl _
  | app f ks => rw [depth_app]; omega
theorem size_pos (t : Tm α) : 1 ≤ size t := by
  cases t with
  | num n => rw [size_num]; exact Nat.le_refl _
  | any x => rw [size_any]; exact Nat.le_refl _
  | app f ks => rw [size_app]; omega
theorem mem_sum {l : List Nat} {n : Nat} (h : n ∈ l) : n ≤ l.sum := by
  induction l with
  | nil => cases h
  | cons a r ih =>
    rw [List.sum_cons]
    rcases List.mem_cons.mp h with e | e
    · omega
    · have := ih e; omega
theorem size_kid {f : Str} {ks : List (Tm α)} {k : Tm α} (h : k ∈ ks) : size k < size (.app f ks) := by
  rw [size_app]
  have := mem_sum (List.mem_map.mpr ⟨k, h, rfl⟩ : size k ∈ ks.map size)
  omega
theorem depth_le_size : ∀ t : Tm α, depth t ≤ size t := by
  refine ind (fun n => by rw [depth_num, size_num]; exact Nat.le_refl _) (fun x => by rw [depth_any, size_any]; exact Nat.le_refl _) fun f ks ih => ?_
  rw [depth_app, size_app]
  have : depthL ks ≤ (ks.map size).sum := depthL_le.mpr fun k hk => Nat.le_trans (ih k hk) (mem_sum (List.mem_map.mpr ⟨k, hk, rfl⟩))
  omega

/-! ### substitution -/
theorem sub_congr {θ θ' : α → Tm β} : ∀ t : Tm α, (∀ x ∈ vars t, θ x = θ' x) → sub θ t = sub θ' t := by
  refine ind (fun n _ => by rw [sub_num, sub_num]) (fun x h => by rw [sub_any, sub_any]; exact h x (by rw [vars_any]; exact List.mem_singleton.mpr rfl)) fun f ks ih h => ?_
  rw [sub_app, sub_app]
  congr 1
  refine List.map_congr_left fun k hk => ih k hk fun x hx => h x ?_
  rw [vars_app]
  exact List.mem_flatMap.mpr ⟨k, hk, hx⟩
theorem sub_inv {θ θ' : α → Tm β} : ∀ t : Tm α, sub θ t = sub θ' t → ∀ x ∈ vars t, θ x = θ' x := by
  refine ind (fun n _ x hx => by rw [vars_num] at hx; cases hx) (fun y h x hx => ?_) fun f ks ih h x hx => ?_
  · rw [vars_any] at hx
    rw [sub_any, sub_any] at h
    rw [List.mem_singleton.mp hx]
    exact h
  · rw [vars_app] at hx
    obtain ⟨k, hk, hx⟩ := List.mem_flatMap.mp hx
    rw [sub_app, sub_app] at h
    injection h with _ h2
    exact ih k hk (List.map_inj_left.mp h2 k hk) x hx
theorem sub_sub (θ : α → Tm β) (η : β → Tm γ) : ∀ t : Tm α, sub η (sub θ t) = sub (fun x => sub η (θ x)) t := by
  refine ind (fun n => by rw [sub_num, sub_num, sub_num]) (fun x => by rw [sub_any, sub_any]) fun f ks ih => ?_
  rw [sub_app, sub_app, sub_app, List.map_map]
  congr 1
  exact List.map_congr_left fun k hk => ih k hk
theorem sub_id : ∀ t : Tm α, sub Tm.any t = t := by
  refine ind (fun n => sub_num _ n) (fun x => sub_any _ x) fun f ks ih => ?_
  rw [sub_app]
  congr 1
  exact (List.map_congr_left ih).trans (List.map_id _)
theorem vars_sub (θ : α → Tm β) : ∀ t : Tm α, vars (sub θ t) = (vars t).flatMap fun x => vars (θ x) := by
  refine ind (fun n => by rw [sub_num, vars_num, vars_num]; rfl) (fun x => by rw [sub_any, vars_any]; simp) fun f ks ih => ?_
  rw [sub_app, vars_app, vars_app, List.flatMap_map, List.flatMap_assoc]
  have : ∀ l : List (Tm α), (∀ k ∈ l, vars (sub θ k) = (vars k).flatMap fun x => vars (θ x)) → (l.flatMap fun k => vars (sub θ k)) = l.flatMap fun k => (vars k).flatMap fun x => vars (θ x) := by
    intro l
    induction l with
    | nil => intro _; rfl
    | cons a r ihr =>
      intro h
      rw [List.flatMap_cons, List.flatMap_cons, h a (List.mem_cons_self ..), ihr fun k hk => h k (List.mem_cons_of_mem _ hk)]
  exact this ks ih
theorem size_sub_ge (θ : α → Tm β) : ∀ t : Tm α, ∀ x ∈ vars t, size (θ x) ≤ size (sub θ t) := by
  refine ind (fun n x hx => by rw [vars_num] at hx; cases hx) (fun y x hx => ?_) fun f ks ih x hx => ?_
  · rw [vars_any] at hx
    rw [sub_any, List.mem_singleton.mp hx]
    exact Nat.le_refl _
  · rw [vars_app] at hx
    obtain ⟨k, hk, hx⟩ := List.mem_flatMap.mp hx
    rw [sub_app]
    have h1 := ih k hk x hx
    have h2 : size (sub θ k) < size (.app f (ks.map (sub θ))) := size_kid (List.mem_map.mpr ⟨k, hk, rfl⟩)
    omega
/-- an unknown within a greater term reads as less than the term -/
theorem size_sub_gt (θ : α → Tm β) {f : Str} {ks : List (Tm α)} {x : α} (hx : x ∈ vars (.app f ks)) : size (θ x) < size (sub θ (.app f ks)) := by
  rw [vars_app] at hx
  obtain ⟨k, hk, hx⟩ := List.mem_flatMap.mp hx
  rw [sub_app]
  have h1 := size_sub_ge θ k x hx
  have h2 : size (sub θ k) < size (.app f (ks.map (sub θ))) := size_kid (List.mem_map.mpr ⟨k, hk, rfl⟩)
  omega
theorem depth_sub_ge (θ : α → Tm β) : ∀ t : Tm α, depth t ≤ depth (sub θ t) := by
  refine ind (fun n => by rw [sub_num, depth_num, depth_num]; exact Nat.le_refl _) (fun x => by rw [sub_any, depth_any]; exact depth_pos _) fun f ks ih => ?_
  rw [sub_app, depth_app, depth_app]
  refine Nat.add_le_add_left (depthL_le.mpr fun k hk => Nat.le_trans (ih k hk) ?_) 1
  exact depthL_le.mp (Nat.le_refl _) _ (List.mem_map.mpr ⟨k, hk, rfl⟩)
/-- a term without unknowns -/
theorem sub_ground {t : Tm α} (h : vars t = []) (θ θ' : α → Tm β) : sub θ t = sub θ' t := sub_congr t fun x hx => by rw [h] at hx; cases hx
theorem sub_ground_id {t : Tm α} (h : vars t = []) (θ : α → Tm α) : sub θ t = t := (sub_ground h θ Tm.any).trans (sub_id t)

/-! ### the apps within a term -/
mutual
def apps : Tm α → List (Tm α)
  | .num _ => []
  | .any _ => []
  | .app f ks => .app f ks :: appsL ks
def appsL : List (Tm α) → List (Tm α)
  | [] => []
  | t :: ts => apps t ++ appsL ts
end
theorem appsL_eq : ∀ ks : List (Tm α), appsL ks = ks.flatMap apps
  | [] => by simp [appsL]
  | t :: ts => by simp [appsL, appsL_eq ts]
theorem apps_num (n : Int) : apps (.num n : Tm α) = [] := by simp [apps]
theorem apps_any (x : α) : apps (.any x) = [] := by simp [apps]
theorem apps_app (f : Str) (ks : List (Tm α)) : apps (.app f ks) = .app f ks :: ks.flatMap apps := by simp [apps, appsL_eq]
theorem apps_kid {f : Str} {ks : List (Tm α)} {k u : Tm α} (hk : k ∈ ks) (h : u ∈ apps k) : u ∈ apps (.app f ks) := by
  rw [apps_app]
  exact List.mem_cons_of_mem _ (List.mem_flatMap.mpr ⟨k, hk, h⟩)
/-- the apps of a read term: a read app of the term, or one of what an unknown reads as -/
theorem apps_sub {θ : α → Tm β} : ∀ t : Tm α, ∀ u ∈ apps (sub θ t), (∃ s ∈ apps t, u = sub θ s) ∨ ∃ x ∈ vars t, u ∈ apps (θ x) := by
  refine ind (fun n u hu => by rw [sub_num, apps_num] at hu; cases hu) (fun x u hu => ?_) fun f ks ih u hu => ?_
  · rw [sub_any] at hu
    exact .inr ⟨x, by rw [vars_any]; exact List.mem_singleton.mpr rfl, hu⟩
  · rw [sub_app, apps_app] at hu
    rcases List.mem_cons.mp hu with e | hu
    · exact .inl ⟨.app f ks, by rw [apps_app]; exact List.mem_cons_self .., by rw [sub_app]; exact e⟩
    · obtain ⟨k', hk', hu⟩ := List.mem_flatMap.mp hu
      obtain ⟨k, hk, rfl⟩ := List.mem_map.mp hk'
      rcases ih k hk u hu with ⟨s, hs, e⟩ | ⟨x, hx, hu⟩
      · exact .inl ⟨s, apps_kid hk hs, e⟩
      · exact .inr ⟨x, by rw [vars_app]; exact List.mem_flatMap.mpr ⟨k, hk, hx⟩, hu⟩
/-- each app of t, read by σ, is one of S, read by σ -/
def Cov (S : List (Tm α)) (σ : α → Tm β) (t : Tm α) : Prop := ∀ u ∈ apps (sub σ t), ∃ s ∈ S, u = sub σ s
theorem Cov.kid {S : List (Tm α)} {σ : α → Tm β} {f : Str} {ks : List (Tm α)} (h : Cov S σ (.app f ks)) {k : Tm α} (hk : k ∈ ks) : Cov S σ k := fun u hu => h u (by
  rw [sub_app]
  exact apps_kid (List.mem_map.mpr ⟨k, hk, rfl⟩) hu)
theorem Cov.of {S : List (Tm α)} {σ : α → Tm β} {t : Tm α} (h : ∀ s ∈ apps t, s ∈ S) (hv : ∀ x ∈ vars t, Cov S σ (.any x)) : Cov S σ t := fun u hu => by
  rcases apps_sub t u hu with ⟨s, hs, e⟩ | ⟨x, hx, hu⟩
  · exact ⟨s, h s hs, e⟩
  · exact hv x hx u (by rw [sub_any]; exact hu)
theorem Cov.mono {S S' : List (Tm α)} {σ : α → Tm β} {t : Tm α} (h : Cov S σ t) (hs : ∀ s ∈ S, s ∈ S') : Cov S' σ t := fun u hu => by
  obtain ⟨s, h1, e⟩ := h u hu
  exact ⟨s, hs s h1, e⟩
theorem Cov.read {S : List (Tm α)} {σ : α → Tm β} {t t' : Tm α} (h : Cov S σ t) (e : sub σ t' = sub σ t) : Cov S σ t' := fun u hu => h u (by rw [← e]; exact hu)
/-- how many of S read as something no greater -/
def noMore (S : List Nat) (n : Nat) : Nat := (S.filter fun m => decide (m ≤ n)).length
theorem noMore_lt {S : List Nat} {a b : Nat} (h : a < b) (hb : b ∈ S) : noMore S a < noMore S b := by
  unfold noMore
  induction S with
  | nil => cases hb
  | cons m r ih =>
    have mono : ∀ l : List Nat, (l.filter fun m => decide (m ≤ a)).length ≤ (l.filter fun m => decide (m ≤ b)).length := by
      intro l
      induction l with
      | nil => exact Nat.le_refl _
      | cons c l ihl =>
        rw [List.filter_cons, List.filter_cons]
        by_cases h1 : c ≤ a
        · rw [if_pos (decide_eq_true h1), if_pos (decide_eq_true (by omega)), List.length_cons, List.length_cons]; omega
        · rw [if_neg (by simpa using h1)]
          split
          · rw [List.length_cons]; omega
          · exact ihl
    rw [List.filter_cons, List.filter_cons]
    rcases List.mem_cons.mp hb with e | hb
    · rw [if_neg (by simp; omega), if_pos (by simp; omega), List.length_cons]
      have := mono r
      omega
    · have := ih hb
      by_cases h1 : m ≤ a
      · rw [if_pos (decide_eq_true h1), if_pos (decide_eq_true (by omega)), List.length_cons, List.length_cons]; omega
      · rw [if_neg (by simpa using h1)]
        split
        · rw [List.length_cons]; omega
        · exact this
theorem noMore_le (S : List Nat) (n : Nat) : noMore S n ≤ S.length := List.length_filter_le ..
theorem depth_noMore {T : List (Tm β)} : ∀ u : Tm β, (∀ v ∈ apps u, v ∈ T) → depth u ≤ noMore (T.map size) (size u) + 1 := by
  refine ind (fun n _ => by rw [depth_num]; omega) (fun x _ => by rw [depth_any]; omega) fun f ks ih h => ?_
  rw [depth_app]
  have hm : Tm.app f ks ∈ T := h _ (by rw [apps_app]; exact List.mem_cons_self ..)
  have : depthL ks ≤ noMore (T.map size) (size (.app f ks)) := depthL_le.mpr fun k hk => by
    have h1 := ih k hk fun v hv => h v (apps_kid hk hv)
    have h2 := noMore_lt (S := T.map size) (size_kid (f := f) hk) (List.mem_map.mpr ⟨_, hm, rfl⟩)
    omega
  omega
/-- the depth of a covered term -/
theorem Cov.depth {S : List (Tm α)} {σ : α → Tm β} {t : Tm α} (h : Cov S σ t) : (sub σ t).depth ≤ S.length + 1 := by
  have h1 := depth_noMore (T := S.map (sub σ)) (sub σ t) fun v hv => by
    obtain ⟨s, hs, e⟩ := h v hv
    exact List.mem_map.mpr ⟨s, hs, e.symm⟩
  have h2 := noMore_le ((S.map (sub σ)).map size) (size (sub σ t))
  simp only [List.length_map] at h2
  omega
end Tm
end G35

/-! GM2 -/
set_option Elab.async false
set_option linter.all false
set_option maxRecDepth 10000
/-! Puttings-in, their reading; the unifier's loop. -/
namespace G35
open PySem
abbrev PT := Tm Str
abbrev Puts := List (Str × PT)
def look (P : Puts) (x : Str) : Option PT := (P.find? fun q => decide (q.1 = x)).map (·.2)
theorem look_nil (x : Str) : look [] x = none := rfl
theorem look_app (P : Puts) (y : Str) (t : PT) (x : Str) (hy : look P y = none) : look (P ++ [(y, t)]) x = if x = y then some t else look P x := by
  unfold look at hy ⊢
  rw [List.find?_append]
  by_cases e : x = y
  · subst e
    rw [if_pos rfl]
    cases h : P.find? fun q => decide (q.1 = x) with
    | some q => rw [h] at hy; cases hy
    | none => simp
  · rw [if_neg e]
    cases h : P.find? fun q => decide (q.1 = x) with
    | some q => simp
    | none => simp [Ne.symm e]
/-- σ reads by P; rk falls along P -/
structure Good (P : Puts) (σ : Str → PT) (rk : Str → Nat) : Prop where
  free : ∀ x, look P x = none → σ x = .any x
  put : ∀ x t, look P x = some t → σ x = t.sub σ
  rank : ∀ x t, look P x = some t → ∀ y ∈ t.vars, rk y < rk x
/-- θ solves P -/
def Sol (θ : Str → PT) (P : Puts) : Prop := ∀ x t, look P x = some t → θ x = t.sub θ
theorem good_nil : Good [] Tm.any (fun _ => 0) := ⟨fun _ _ => rfl, (fun x t h => nomatch h), (fun x t h => nomatch h)⟩
section
variable {P : Puts} {σ : Str → PT} {rk : Str → Nat}
theorem Good.ind (G : Good P σ rk) {Φ : Str → Prop} (h1 : ∀ x, look P x = none → Φ x) (h2 : ∀ x t, look P x = some t → (∀ y ∈ t.vars, Φ y) → Φ x) : ∀ x, Φ x := by
  have key : ∀ n x, rk x < n → Φ x := by
    intro n
    induction n with
    | zero => intro x h; omega
    | succ n ih =>
      intro x hx
      cases e : look P x with
      | none => exact h1 x e
      | some t => exact h2 x t e fun y hy => ih y (by have := G.rank x t e y hy; omega)
  exact fun x => key _ x (Nat.lt_succ_self _)
/-- what solves P reads through σ -/
theorem Good.through (G : Good P σ rk) {θ : Str → PT} (h : Sol θ P) : ∀ x, (σ x).sub θ = θ x := by
  refine G.ind (fun x e => by rw [G.free x e, Tm.sub_any]) fun x t e ih => ?_
  rw [G.put x t e, Tm.sub_sub, h x t e]
  exact Tm.sub_congr t ih
theorem Good.through' (G : Good P σ rk) {θ : Str → PT} (h : Sol θ P) (t : PT) : (t.sub σ).sub θ = t.sub θ := by
  rw [Tm.sub_sub]
  exact Tm.sub_congr t fun x _ => G.through h x
theorem Good.sol (G : Good P σ rk) : Sol σ P := G.put
theorem Good.idem (G : Good P σ rk) (x : Str) : (σ x).sub σ = σ x := G.through G.sol x
theorem Good.unbound (G : Good P σ rk) : ∀ x, ∀ y ∈ (σ x).vars, look P y = none := by
  refine G.ind (fun x e y hy => ?_) fun x t e ih y hy => ?_
  · rw [G.free x e, Tm.vars_any] at hy
    rw [List.mem_singleton.mp hy]
    exact e
  · rw [G.put x t e, Tm.vars_sub] at hy
    obtain ⟨z, hz, hy⟩ := List.mem_flatMap.mp hy
    exact ih z hz y hy
theorem Good.unbound' (G : Good P σ rk) (t : PT) : ∀ y ∈ (t.sub σ).vars, look P y = none := fun y hy => by
  rw [Tm.vars_sub] at hy
  obtain ⟨z, _, hy⟩ := List.mem_flatMap.mp hy
  exact G.unbound z y hy
theorem Good.uniq {σ' : Str → PT} {rk' : Str → Nat} (G : Good P σ rk) (G' : Good P σ' rk') : σ = σ' := by
  funext x
  revert x
  refine G.ind (fun x e => (G.free x e).trans (G'.free x e).symm) fun x t e ih => ?_
  rw [G.put x t e, G'.put x t e]
  exact Tm.sub_congr t ih
/-- one more putting-in -/
theorem Good.bind (G : Good P σ rk) {x : Str} {t : PT} (hx : look P x = none) (ho : x ∉ (t.sub σ).vars) :
    ∃ rk', Good (P ++ [(x, t)]) (fun y => (σ y).sub fun z => if z = x then t.sub σ else .any z) rk' := by
  let τ : Str → PT := fun z => if z = x then t.sub σ else .any z
  have tau_t : (t.sub σ).sub τ = t.sub σ := (Tm.sub_congr _ fun z hz => (by
    show (if z = x then t.sub σ else .any z) = Tm.any z
    rw [if_neg fun e => ho (by rw [← e]; exact hz)])).trans (Tm.sub_id _)
  let B : Nat := (t.vars.map rk).sum
  have hB : ∀ y ∈ t.vars, rk y ≤ B := fun y hy => Tm.mem_sum (List.mem_map.mpr ⟨y, hy, rfl⟩)
  have sx : σ x = .any x := G.free x hx
  refine ⟨fun y => rk y + if x ∈ (σ y).vars then B + 1 else 0, ⟨fun y e => ?_, fun y s e => ?_, fun y s e z hz => ?_⟩⟩
  · rw [look_app P x t y hx] at e
    by_cases hy : y = x
    · rw [if_pos hy] at e; cases e
    · rw [if_neg hy] at e
      show (σ y).sub τ = _
      rw [G.free y e, Tm.sub_any]
      show (if y = x then t.sub σ else .any y) = _
      rw [if_neg hy]
  · rw [look_app P x t y hx] at e
    show (σ y).sub τ = s.sub fun y => (σ y).sub τ
    rw [← Tm.sub_sub σ τ s]
    by_cases hy : y = x
    · rw [if_pos hy] at e
      cases e
      rw [hy, sx, Tm.sub_any, tau_t]
      show (if x = x then t.sub σ else .any x) = _
      rw [if_pos rfl]
    · rw [if_neg hy] at e
      rw [G.put y s e]
  · rw [look_app P x t y hx] at e
    show rk z + (if x ∈ (σ z).vars then B + 1 else 0) < rk y + if x ∈ (σ y).vars then B + 1 else 0
    by_cases hy : y = x
    · rw [if_pos hy] at e
      cases e
      have h1 : x ∉ (σ z).vars := fun h => ho (by rw [Tm.vars_sub]; exact List.mem_flatMap.mpr ⟨z, hz, h⟩)
      rw [if_neg h1, hy, sx, Tm.vars_any, if_pos (List.mem_singleton.mpr rfl)]
      have := hB z hz
      omega
    · rw [if_neg hy] at e
      have h1 := G.rank y s e z hz
      by_cases h2 : x ∈ (σ z).vars
      · rw [if_pos h2, if_pos (by rw [G.put y s e, Tm.vars_sub]; exact List.mem_flatMap.mpr ⟨z, hz, h2⟩)]
        omega
      · rw [if_neg h2]
        omega
theorem sol_bind {x : Str} {t : PT} (hx : look P x = none) (θ : Str → PT) : Sol θ (P ++ [(x, t)]) ↔ Sol θ P ∧ θ x = t.sub θ := by
  constructor
  · intro h
    refine ⟨fun y s e => h y s ?_, h x t ?_⟩
    · rw [look_app P x t y hx, if_neg]
      · exact e
      · intro z
        rw [z, hx] at e
        cases e
    · rw [look_app P x t x hx, if_pos rfl]
  · rintro ⟨h1, h2⟩ y s e
    rw [look_app P x t y hx] at e
    by_cases hy : y = x
    · rw [if_pos hy] at e
      cases e
      rw [hy]
      exact h2
    · rw [if_neg hy] at e
      exact h1 y s e
/-- an unknown does not read as a greater term that has it -/
theorem no_ring (G : Good P σ rk) {θ : Str → PT} (h : Sol θ P) {x : Str} {t : PT} (e : θ x = t.sub θ) (hne : t.sub σ ≠ .any x) : x ∉ (t.sub σ).vars := fun hx => by
  cases q : t.sub σ with
  | num n => rw [q, Tm.vars_num] at hx; cases hx
  | any y =>
    rw [q, Tm.vars_any] at hx
    rw [List.mem_singleton.mp hx] at hne
    exact hne q
  | app f ks =>
    rw [q] at hx
    have h1 := Tm.size_sub_gt θ hx
    rw [← q, G.through' h, ← e] at h1
    exact absurd h1 (Nat.lt_irrefl _)
end
/-! ### walking -/
def walkF : Nat → Puts → PT → Option PT
  | 0, _, _ => none
  | n + 1, P, .any x => (match look P x with
      | some s => walkF n P s
      | none => some (.any x))
  | _ + 1, _, .num m => some (.num m)
  | _ + 1, _, .app f ks => some (.app f ks)
theorem walkF_none {P : Puts} {x : Str} (n : Nat) (e : look P x = none) : walkF (n + 1) P (.any x) = some (.any x) := by
  show (match look P x with
      | some s => walkF n P s
      | none => some (.any x)) = _
  rw [e]
theorem walkF_some {P : Puts} {x : Str} {s : PT} (n : Nat) (e : look P x = some s) : walkF (n + 1) P (.any x) = walkF n P s := by
  show (match look P x with
      | some s => walkF n P s
      | none => some (.any x)) = _
  rw [e]
theorem walkF_mono {P : Puts} : ∀ {n : Nat} {t r : PT}, walkF n P t = some r → walkF (n + 1) P t = some r
  | 0, t, r, h => by cases h
  | n + 1, t, r, h => by
    cases t with
    | num m => exact h
    | app f ks => exact h
    | any x =>
      cases e : look P x with
      | none => rw [walkF_none _ e] at h ⊢; exact h
      | some s => rw [walkF_some _ e] at h ⊢; exact walkF_mono h
theorem walkF_le {P : Puts} {n m : Nat} {t r : PT} (h : walkF n P t = some r) (hm : n ≤ m) : walkF m P t = some r := by
  induction hm with
  | refl => exact h
  | step _ ih => exact walkF_mono ih
/-- walked: by any number of steps -/
def Walked (P : Puts) (t r : PT) : Prop := ∃ n, walkF n P t = some r
theorem Walked.uniq {P : Puts} {t r r' : PT} (h : Walked P t r) (h' : Walked P t r') : r = r' := by
  obtain ⟨n, h⟩ := h
  obtain ⟨m, h'⟩ := h'
  have e := (walkF_le h (Nat.le_max_left n m)).symm.trans (walkF_le h' (Nat.le_max_right n m))
  exact Option.some.inj e
theorem Walked.read {P : Puts} {θ : Str → PT} (hs : Sol θ P) : ∀ {n : Nat} {t r : PT}, walkF n P t = some r → r.sub θ = t.sub θ
  | 0, t, r, h => by cases h
  | n + 1, t, r, h => by
    cases t with
    | num m => cases h; rfl
    | app f ks => cases h; rfl
    | any x =>
      cases e : look P x with
      | none => rw [walkF_none _ e] at h; cases h; rfl
      | some s =>
        rw [walkF_some _ e] at h
        rw [Walked.read hs h, Tm.sub_any, hs x s e]
theorem Walked.keeps {P : Puts} {Φ : PT → Prop} (hP : ∀ x s, look P x = some s → Φ s) : ∀ {n : Nat} {t r : PT}, Φ t → walkF n P t = some r → Φ r
  | 0, t, r, _, h => by cases h
  | n + 1, t, r, ht, h => by
    cases t with
    | num m => cases h; exact ht
    | app f ks => cases h; exact ht
    | any x =>
      cases e : look P x with
      | none => rw [walkF_none _ e] at h; cases h; exact ht
      | some s => rw [walkF_some _ e] at h; exact Walked.keeps hP (hP x s e) h
theorem Walked.ends {P : Puts} : ∀ {n : Nat} {t r : PT}, walkF n P t = some r → ∀ x, r = .any x → look P x = none
  | 0, t, r, h => by cases h
  | n + 1, t, r, h => by
    intro x hr
    cases t with
    | num m => cases h; cases hr
    | app f ks => cases h; cases hr
    | any y =>
      cases e : look P y with
      | none =>
        rw [walkF_none _ e] at h
        cases h
        cases hr
        exact e
      | some s => rw [walkF_some _ e] at h; exact Walked.ends h x hr
theorem Good.walks {P : Puts} {σ : Str → PT} {rk : Str → Nat} (G : Good P σ rk) (t : PT) : ∃ r, Walked P t r := by
  cases t with
  | num m => exact ⟨_, 1, rfl⟩
  | app f ks => exact ⟨_, 1, rfl⟩
  | any x =>
    revert x
    refine G.ind (fun x e => ⟨.any x, 1, walkF_none _ e⟩) fun x t e ih => ?_
    cases t with
    | num m => exact ⟨.num m, 2, (walkF_some _ e).trans rfl⟩
    | app f ks => exact ⟨.app f ks, 2, (walkF_some _ e).trans rfl⟩
    | any y =>
      obtain ⟨r, n, h⟩ := ih y (by rw [Tm.vars_any]; exact List.mem_singleton.mpr rfl)
      exact ⟨r, n + 1, (walkF_some _ e).trans h⟩
end G35

/-! GM3 -/
set_option Elab.async false
set_option linter.all false
set_option maxRecDepth 10000
/-! The unifier's loop: it ends, and what it gives. -/
namespace G35
open PySem
/-- each app has at most two kids -/
def Ar {α : Type} (t : Tm α) : Prop := ∀ f ks, Tm.app f ks ∈ t.apps → ks.length ≤ 2
theorem Ar.kid {α : Type} {f : Str} {ks : List (Tm α)} (h : Ar (.app f ks)) {k : Tm α} (hk : k ∈ ks) : Ar k := fun g ls hu => h g ls (Tm.apps_kid hk hu)
theorem Ar.two {α : Type} {f : Str} {ks : List (Tm α)} (h : Ar (.app f ks)) : ks.length ≤ 2 := h f ks (by rw [Tm.apps_app]; exact List.mem_cons_self ..)
theorem Ar.num {α : Type} (n : Int) : Ar (.num n : Tm α) := fun f ks h => by rw [Tm.apps_num] at h; cases h
theorem Ar.any {α : Type} (x : α) : Ar (.any x) := fun f ks h => by rw [Tm.apps_any] at h; cases h
theorem Ar.app {α : Type} {f : Str} {ks : List (Tm α)} (h : ks.length ≤ 2) (hk : ∀ k ∈ ks, Ar k) : Ar (.app f ks) := fun g ls hu => by
  rw [Tm.apps_app] at hu
  rcases List.mem_cons.mp hu with e | hu
  · injection e with _ e2
    rw [e2]
    exact h
  · obtain ⟨k, h1, h2⟩ := List.mem_flatMap.mp hu
    exact hk k h1 g ls h2
theorem Ar.sub {α β : Type} {θ : α → Tm β} {t : Tm α} (h : Ar t) (hv : ∀ x ∈ t.vars, Ar (θ x)) : Ar (t.sub θ) := fun f ks hu => by
  rcases Tm.apps_sub t _ hu with ⟨s, hs, e⟩ | ⟨x, hx, hu⟩
  · cases s with
    | num n => rw [Tm.sub_num] at e; cases e
    | any x => 
      exfalso
      revert hs
      have key : ∀ t : Tm α, Tm.any x ∉ t.apps := by
        refine Tm.ind (fun n h => by rw [Tm.apps_num] at h; cases h) (fun y h => by rw [Tm.apps_any] at h; cases h) fun g ls ih h => ?_
        rw [Tm.apps_app] at h
        rcases List.mem_cons.mp h with e | h
        · cases e
        · obtain ⟨k, h1, h2⟩ := List.mem_flatMap.mp h
          exact ih k h1 h2
      exact key t
    | app g ls =>
      rw [Tm.sub_app] at e
      injection e with _ e2
      rw [e2, List.length_map]
      exact h g ls hs
  · exact hv x hx f ks hu
theorem Good.ar {P : Puts} {σ : Str → PT} {rk : Str → Nat} (G : Good P σ rk) (hP : ∀ x t, look P x = some t → Ar t) : ∀ x, Ar (σ x) :=
  G.ind (fun x e => by rw [G.free x e]; exact Ar.any x) fun x t e ih => by
    rw [G.put x t e]
    exact Ar.sub (hP x t e) ih

/-- u stands d deep in t -/
inductive At {α : Type} : Nat → Tm α → Tm α → Prop
  | here (t : Tm α) : At 0 t t
  | kid {d : Nat} {t : Tm α} {f : Str} {ks : List (Tm α)} {k : Tm α} : At d t (.app f ks) → k ∈ ks → At (d + 1) t k
theorem At.sub {α β : Type} {θ : α → Tm β} {d : Nat} {t u : Tm α} (h : At d t u) : At d (t.sub θ) (u.sub θ) := by
  induction h with
  | here t => exact .here _
  | kid _ hk ih =>
    rw [Tm.sub_app] at ih
    exact .kid ih (List.mem_map.mpr ⟨_, hk, rfl⟩)
theorem At.depth {α : Type} {d : Nat} {t u : Tm α} (h : At d t u) : d + u.depth ≤ t.depth := by
  induction h with
  | here t => omega
  | kid _ hk ih =>
    rename_i f ks k _
    have h2 : k.depth < (Tm.app f ks).depth := Tm.depth_kid hk
    omega

noncomputable section
open Classical
/-- the reading by P -/
def full (P : Puts) : Str → PT := if h : ∃ σ rk, Good P σ rk then choose h else Tm.any
theorem full_eq {P : Puts} {σ : Str → PT} {rk : Str → Nat} (G : Good P σ rk) : full P = σ := by
  have h : ∃ σ rk, Good P σ rk := ⟨σ, rk, G⟩
  unfold full
  rw [dif_pos h]
  obtain ⟨rk', G'⟩ := choose_spec h
  exact G'.uniq G
def walkO (P : Puts) (t : PT) : Option PT := if h : ∃ r, Walked P t r then some (choose h) else none
theorem walkO_eq {P : Puts} {t r : PT} (h : Walked P t r) : walkO P t = some r := by
  have h' : ∃ r, Walked P t r := ⟨r, h⟩
  unfold walkO
  rw [dif_pos h', (choose_spec h').uniq h]
theorem of_walkO {P : Puts} {t r : PT} (h : walkO P t = some r) : Walked P t r := by
  unfold walkO at h
  by_cases h' : ∃ r, Walked P t r
  · rw [dif_pos h'] at h
    rw [← Option.some.inj h]
    exact choose_spec h'
  · rw [dif_neg h'] at h
    cases h
abbrev Item := Nat × PT × PT
/-- what the loop needs at each turn -/
structure UG (st : List Item) (P : Puts) (σ : Str → PT) (rk : Str → Nat) : Prop where
  good : Good P σ rk
  len : P.length ≤ 10000
  stk : st.length ≤ 10000
  its : ∀ i ∈ st, i.1 ≤ 10000 ∧ (i.2.1.sub σ).depth ≤ 5000 ∧ (i.2.2.sub σ).depth ≤ 5000 ∧ Ar (i.2.1.sub σ) ∧ Ar (i.2.2.sub σ)
inductive UR where
  | done (r : Option Puts)
  | more (st : List Item) (P : Puts)
/-- one putting-in, or a ring -/
def bindR (x : Str) (t : PT) (rest : List Item) (P : Puts) : UR := if x ∈ (t.sub (full P)).vars then .done none else .more rest (P ++ [(x, t)])
/-- a turn at two walked terms -/
def uniS (d : Nat) (a b : PT) (rest : List Item) (P : Puts) : UR :=
  match a, b with
  | .any x, b => if b = .any x then .more rest P else bindR x b rest P
  | .num i, .any y => bindR y (.num i) rest P
  | .app f ks, .any y => bindR y (.app f ks) rest P
  | .num i, .num j => if i = j then .more rest P else .done none
  | .num _, .app _ _ => .done none
  | .app _ _, .num _ => .done none
  | .app f ks, .app g ls => if f = g ∧ ks.length = ls.length then .more ((ks.zip ls).map (fun p => (d + 1, p.1, p.2)) ++ rest) P else .done none
def uniF : Nat → List Item → Puts → Option (Option Puts)
  | 0, _, _ => none
  | n + 1, st, P => if ∃ σ rk, UG st P σ rk then (match st with
      | [] => some (some P)
      | (d, a, b) :: rest => (match walkO P a, walkO P b with
        | some a', some b' => (match uniS d a' b' rest P with
          | .done r => some r
          | .more st' P' => uniF n st' P')
        | _, _ => none)) else none
/-- by any number of turns -/
def Uni (st : List Item) (P : Puts) (r : Option Puts) : Prop := ∃ n, uniF n st P = some r
end
theorem uniF_mono : ∀ {n : Nat} {st : List Item} {P : Puts} {r : Option Puts}, uniF n st P = some r → uniF (n + 1) st P = some r
  | 0, st, P, r, h => by cases h
  | n + 1, st, P, r, h => by
    unfold uniF at h ⊢
    by_cases hg : ∃ σ rk, UG st P σ rk
    · rw [if_pos hg] at h ⊢
      cases st with
      | nil => exact h
      | cons i rest =>
        obtain ⟨d, a, b⟩ := i
        cases ha : walkO P a with
        | none => simp only [ha] at h; cases h
        | some a' =>
          cases hb : walkO P b with
          | none => simp only [ha, hb] at h; cases h
          | some b' =>
            simp only [ha, hb] at h ⊢
            cases hu : uniS d a' b' rest P with
            | done r' => simp only [hu] at h ⊢; exact h
            | more st' P' =>
              simp only [hu] at h ⊢
              exact uniF_mono h
    · rw [if_neg hg] at h
      cases h
theorem uniF_le {n m : Nat} {st : List Item} {P : Puts} {r : Option Puts} (h : uniF n st P = some r) (hm : n ≤ m) : uniF m st P = some r := by
  induction hm with
  | refl => exact h
  | step _ ih => exact uniF_mono ih
theorem Uni.uniq {st : List Item} {P : Puts} {r r' : Option Puts} (h : Uni st P r) (h' : Uni st P r') : r = r' := by
  obtain ⟨n, h⟩ := h
  obtain ⟨m, h'⟩ := h'
  exact Option.some.inj ((uniF_le h (Nat.le_max_left n m)).symm.trans (uniF_le h' (Nat.le_max_right n m)))
theorem Uni.nil {P : Puts} {σ : Str → PT} {rk : Str → Nat} (h : UG [] P σ rk) : Uni [] P (some P) := ⟨1, by
  unfold uniF
  rw [if_pos ⟨σ, rk, h⟩]⟩
theorem Uni.turn {d : Nat} {a b a' b' : PT} {rest : List Item} {P : Puts} {σ : Str → PT} {rk : Str → Nat} {r : Option Puts} (h : UG ((d, a, b) :: rest) P σ rk) (ha : Walked P a a') (hb : Walked P b b')
    (hr : uniS d a' b' rest P = .done r ∨ ∃ st' P', uniS d a' b' rest P = .more st' P' ∧ Uni st' P' r) : Uni ((d, a, b) :: rest) P r := by
  rcases hr with e | ⟨st', P', e, n, hn⟩
  · refine ⟨1, ?_⟩
    unfold uniF
    rw [if_pos ⟨σ, rk, h⟩]
    simp only [walkO_eq ha, walkO_eq hb, e]
  · refine ⟨n + 1, ?_⟩
    unfold uniF
    rw [if_pos ⟨σ, rk, h⟩]
    simp only [walkO_eq ha, walkO_eq hb, e]
    exact hn

/-! ### the loop's word -/
def cnt (V : List Str) (P : Puts) : Nat := (V.filter fun x => (look P x).isNone).length
theorem cnt_bind {V : List Str} {P : Puts} {x : Str} {t : PT} (hx : look P x = none) (hV : x ∈ V) : cnt V (P ++ [(x, t)]) < cnt V P := by
  unfold cnt
  have le : ∀ l : List Str, (l.filter fun y => (look (P ++ [(x, t)]) y).isNone).length ≤ (l.filter fun y => (look P y).isNone).length := by
    intro l
    induction l with
    | nil => exact Nat.le_refl _
    | cons y l ih =>
      rw [List.filter_cons, List.filter_cons, look_app P x t y hx]
      by_cases e : y = x
      · rw [if_pos e]
        simp only [Option.isNone_some, Bool.false_eq_true, if_false]
        split
        · rw [List.length_cons]; omega
        · exact ih
      · rw [if_neg e]
        split
        · rw [List.length_cons, List.length_cons]; omega
        · exact ih
  induction V with
  | nil => cases hV
  | cons y l ih =>
    rw [List.filter_cons, List.filter_cons]
    by_cases e : y = x
    · subst e
      rw [look_app P y t y hx, if_pos rfl, hx]
      simp only [Option.isNone_some, Bool.false_eq_true, if_false, Option.isNone_none, if_true, List.length_cons]
      have := le l
      omega
    · have h2 : x ∈ l := (List.mem_cons.mp hV).resolve_left fun z => e z.symm
      have := ih h2
      rw [look_app P x t y hx, if_neg e]
      split
      · rw [List.length_cons, List.length_cons]; omega
      · exact this
def StackOk : List Item → Prop
  | [] => True
  | i :: tl => tl.length ≤ 2 * i.1 ∧ StackOk tl
theorem StackOk.push {d : Nat} {rest : List Item} (h : StackOk rest) (hl : rest.length ≤ 2 * d) : ∀ {l : List (PT × PT)}, l.length ≤ 2 → StackOk (l.map (fun p => (d + 1, p.1, p.2)) ++ rest)
  | [], _ => h
  | [a], _ => ⟨by show rest.length ≤ _; simp; omega, h⟩
  | [a, b], _ => ⟨by simp; omega, by simp; omega, h⟩
  | a :: b :: c :: l, z => by simp at z
/-- what a set of putting-ins keeps: all in V, Φ of each term -/
structure In (V : List Str) (Φ : PT → Prop) (P : Puts) : Prop where
  keys : ∀ x t, look P x = some t → x ∈ V ∧ (∀ y ∈ t.vars, y ∈ V) ∧ Φ t
  len : P.length + cnt V P ≤ V.length
structure Well (V : List Str) (Φ : PT → Prop) (S : List PT) (P : Puts) (σ : Str → PT) (rk : Str → Nat) : Prop where
  good : Good P σ rk
  ins : In V Φ P
  cov : ∀ x, Tm.Cov S σ (.any x)
structure TOk (V : List Str) (Φ : PT → Prop) (S : List PT) (σ : Str → PT) (t : PT) : Prop where
  vars : ∀ y ∈ t.vars, y ∈ V
  phi : Φ t
  cov : Tm.Cov S σ t
/-- what Φ must bear -/
structure Phi (Φ : PT → Prop) : Prop where
  ar : ∀ t, Φ t → Ar t
  kid : ∀ f ks k, Φ (.app f ks) → k ∈ ks → Φ k
  any : ∀ x, Φ (.any x)
section
variable {V : List Str} {Φ : PT → Prop} {S : List PT}
theorem Well.ar (hΦ : Phi Φ) {P : Puts} {σ : Str → PT} {rk : Str → Nat} (W : Well V Φ S P σ rk) {t : PT} (h : Φ t) : Ar (t.sub σ) :=
  Ar.sub (hΦ.ar t h) fun x _ => W.good.ar (fun x t e => hΦ.ar t (W.ins.keys x t e).2.2) x
theorem Well.vars {P : Puts} {σ : Str → PT} {rk : Str → Nat} (W : Well V Φ S P σ rk) : ∀ x, x ∈ V → ∀ y ∈ (σ x).vars, y ∈ V :=
  W.good.ind (fun x e hx y hy => by
    rw [W.good.free x e, Tm.vars_any] at hy
    rw [List.mem_singleton.mp hy]
    exact hx) fun x t e ih hx y hy => by
    rw [W.good.put x t e, Tm.vars_sub] at hy
    obtain ⟨z, hz, hy⟩ := List.mem_flatMap.mp hy
    exact ih z hz ((W.ins.keys x t e).2.1 z hz) y hy
theorem Well.bind {P : Puts} {σ : Str → PT} {rk : Str → Nat} (W : Well V Φ S P σ rk) {x : Str} {t : PT} (hx : look P x = none) (hV : x ∈ V) (T : TOk V Φ S σ t) (ho : x ∉ (t.sub σ).vars) :
    ∃ rk', Well V Φ S (P ++ [(x, t)]) (fun y => (σ y).sub fun z => if z = x then t.sub σ else .any z) rk' ∧ ∀ u, Tm.Cov S σ u → Tm.Cov S (fun y => (σ y).sub fun z => if z = x then t.sub σ else .any z) u := by
  obtain ⟨rk', G'⟩ := W.good.bind hx ho
  let τ : Str → PT := fun z => if z = x then t.sub σ else .any z
  have ct : ∀ v ∈ (t.sub σ).apps, ∃ s ∈ S, v = s.sub fun y => (σ y).sub τ := fun v hv => by
    obtain ⟨s, hs, e⟩ := T.cov v hv
    refine ⟨s, hs, ?_⟩
    rw [← Tm.sub_sub σ τ s, ← e]
    -- v has no x
    have hvx : ∀ z ∈ v.vars, z ≠ x := fun z hz e2 => by
      refine ho ?_
      have key : ∀ w : PT, ∀ v ∈ w.apps, ∀ z ∈ v.vars, z ∈ w.vars := by
        refine Tm.ind (fun n v hv => by rw [Tm.apps_num] at hv; cases hv) (fun y v hv => by rw [Tm.apps_any] at hv; cases hv) fun f ks ih v hv z hz => ?_
        rw [Tm.apps_app] at hv
        rcases List.mem_cons.mp hv with e | hv
        · rw [← e]; exact hz
        · obtain ⟨k, hk, hv⟩ := List.mem_flatMap.mp hv
          rw [Tm.vars_app]
          exact List.mem_flatMap.mpr ⟨k, hk, ih k hk v hv z hz⟩
      rw [← e2]
      exact key _ v hv z hz
    refine ((Tm.sub_congr v fun z hz => ?_).trans (Tm.sub_id v)).symm
    show (if z = x then t.sub σ else .any z) = Tm.any z
    rw [if_neg (hvx z hz)]
  have cc : ∀ u, Tm.Cov S σ u → Tm.Cov S (fun y => (σ y).sub τ) u := fun u hu v hv => by
    rw [← Tm.sub_sub σ τ u] at hv
    rcases Tm.apps_sub (u.sub σ) v hv with ⟨w, hw, e⟩ | ⟨z, _, hz⟩
    · obtain ⟨s, hs, e2⟩ := hu w hw
      exact ⟨s, hs, by rw [e, e2, Tm.sub_sub]⟩
    · have hz : v ∈ (if z = x then t.sub σ else .any z : PT).apps := hz
      by_cases e : z = x
      · rw [if_pos e] at hz
        exact ct v hz
      · rw [if_neg e, Tm.apps_any] at hz
        cases hz
  refine ⟨rk', ⟨G', ⟨fun y s e => ?_, ?_⟩, fun y => cc _ (W.cov y)⟩, cc⟩
  · rw [look_app P x t y hx] at e
    by_cases hy : y = x
    · rw [if_pos hy] at e
      cases e
      rw [hy]
      exact ⟨hV, T.vars, T.phi⟩
    · rw [if_neg hy] at e
      exact W.ins.keys y s e
  · have h1 := cnt_bind (t := t) hx hV
    have h2 := W.ins.len
    rw [List.length_append, List.length_singleton]
    omega
/-- the loop's word at a stack -/
structure Jst (V : List Str) (Φ : PT → Prop) (S : List PT) (a0 : PT) (st : List Item) (P : Puts) (σ : Str → PT) (rk : Str → Nat) : Prop where
  well : Well V Φ S P σ rk
  root : Tm.Cov S σ a0
  stk : StackOk st
  its : ∀ i ∈ st, TOk V Φ S σ i.2.1 ∧ TOk V Φ S σ i.2.2 ∧ At i.1 (a0.sub σ) (i.2.1.sub σ)
theorem TOk.walked {P : Puts} {σ : Str → PT} {rk : Str → Nat} (W : Well V Φ S P σ rk) {t r : PT} (T : TOk V Φ S σ t) (h : Walked P t r) : TOk V Φ S σ r := by
  obtain ⟨n, h⟩ := h
  have e := Walked.read W.good.sol h
  have q := Walked.keeps (Φ := fun t => (∀ y ∈ t.vars, y ∈ V) ∧ Φ t) (fun x s e => (W.ins.keys x s e).2) ⟨T.vars, T.phi⟩ h
  exact ⟨q.1, q.2, T.cov.read e⟩
def szs (σ : Str → PT) (st : List Item) : Nat := (st.map fun i => (i.2.1.sub σ).size).sum
theorem Jst.guard (hΦ : Phi Φ) (hS : S.length ≤ 4000) (hV : V.length ≤ 9000) {a0 : PT} {st : List Item} {P : Puts} {σ : Str → PT} {rk : Str → Nat} (J : Jst V Φ S a0 st P σ rk) : UG st P σ rk := by
  have hd := J.root.depth
  have h1 : ∀ i ∈ st, i.1 ≤ S.length + 1 := fun i hi => by
    have := (J.its i hi).2.2.depth
    omega
  refine ⟨J.well.good, by have := J.well.ins.len; omega, ?_, fun i hi => ?_⟩
  · cases st with
    | nil => exact Nat.zero_le _
    | cons i tl =>
      have h2 := J.stk.1
      have h3 := h1 i (List.mem_cons_self ..)
      rw [List.length_cons]
      omega
  · obtain ⟨Ta, Tb, A⟩ := J.its i hi
    have := h1 i hi
    have ha := Ta.cov.depth
    have hb := Tb.cov.depth
    exact ⟨by omega, by omega, by omega, J.well.ar hΦ Ta.phi, J.well.ar hΦ Tb.phi⟩
/-- what the loop gives where it makes one -/
def Made (V : List Str) (Φ : PT → Prop) (S : List PT) (st : List Item) (P : Puts) (σ : Str → PT) : Option Puts → Prop
  | none => True
  | some P' => ∃ σ' rk', Well V Φ S P' σ' rk' ∧ (∀ u, Tm.Cov S σ u → Tm.Cov S σ' u) ∧ ∀ θ, Sol θ P' ↔ Sol θ P ∧ ∀ i ∈ st, i.2.1.sub θ = i.2.2.sub θ
theorem zip_eqs {θ : Str → PT} : ∀ {ks ls : List PT}, ks.length = ls.length → (ks.map (Tm.sub θ) = ls.map (Tm.sub θ) ↔ ∀ p ∈ ks.zip ls, p.1.sub θ = p.2.sub θ)
  | [], [], _ => by simp
  | [], _ :: _, h => by simp at h
  | _ :: _, [], h => by simp at h
  | k :: ks, l :: ls, h => by
    have ih := zip_eqs (θ := θ) (ks := ks) (ls := ls) (by simpa using h)
    simp only [List.map_cons, List.zip_cons_cons, List.mem_cons, List.cons.injEq, ih]
    constructor
    · rintro ⟨h1, h2⟩ p (rfl | hp)
      · exact h1
      · exact h2 p hp
    · intro h
      exact ⟨h _ (.inl rfl), fun p hp => h p (.inr hp)⟩
theorem zip_sizes {σ : Str → PT} {d : Nat} : ∀ {ks ls : List PT}, ks.length = ls.length → szs σ ((ks.zip ls).map fun p => (d, p.1, p.2)) = ((ks.map (Tm.sub σ)).map Tm.size).sum
  | [], [], _ => rfl
  | [], _ :: _, h => by simp at h
  | _ :: _, [], h => by simp at h
  | k :: ks, l :: ls, h => by
    have ih := zip_sizes (σ := σ) (d := d) (ks := ks) (ls := ls) (by simpa using h)
    unfold szs at ih ⊢
    simp only [List.zip_cons_cons, List.map_cons, List.sum_cons]
    rw [ih]
theorem uni_ok (hΦ : Phi Φ) (hS : S.length ≤ 4000) (hV : V.length ≤ 9000) {a0 : PT} : ∀ (c m : Nat) (st : List Item) (P : Puts) (σ : Str → PT) (rk : Str → Nat), cnt V P = c → szs σ st = m → Jst V Φ S a0 st P σ rk → ∃ r, Uni st P r ∧ Made V Φ S st P σ r := by
  intro c
  induction c using Nat.strongRecOn with
  | ind c ihc =>
  intro m
  induction m using Nat.strongRecOn with
  | ind m ihm =>
  intro st P σ rk hc hm J
  have hg := J.guard hΦ hS hV
  cases st with
  | nil => exact ⟨some P, Uni.nil hg, σ, rk, J.well, fun _ h => h, fun θ => ⟨fun h => ⟨h, fun i hi => nomatch hi⟩, fun h => h.1⟩⟩
  | cons i rest =>
    obtain ⟨d, a, b⟩ := i
    obtain ⟨Ta, Tb, A⟩ := J.its _ (List.mem_cons_self ..)
    obtain ⟨a', wa⟩ := J.well.good.walks a
    obtain ⟨b', wb⟩ := J.well.good.walks b
    have Ta' := TOk.walked J.well Ta wa
    have Tb' := TOk.walked J.well Tb wb
    obtain ⟨na, fa⟩ := id wa
    obtain ⟨nb, fb⟩ := id wb
    have ea : ∀ θ, Sol θ P → a'.sub θ = a.sub θ := fun θ h => Walked.read h fa
    have eb : ∀ θ, Sol θ P → b'.sub θ = b.sub θ := fun θ h => Walked.read h fb
    have sr : szs σ ((d, a, b) :: rest) = (a.sub σ).size + szs σ rest := by unfold szs; rw [List.map_cons, List.sum_cons]
    -- the rest, with P as it is
    have same : (∀ θ, Sol θ P → a'.sub θ = b'.sub θ) → uniS d a' b' rest P = .more rest P → ∃ r, Uni ((d, a, b) :: rest) P r ∧ Made V Φ S ((d, a, b) :: rest) P σ r := fun he hu => by
      have := Tm.size_pos (a.sub σ)
      obtain ⟨r, h1, h2⟩ := ihm (szs σ rest) (by omega) rest P σ rk hc rfl ⟨J.well, J.root, J.stk.2, fun i hi => J.its i (List.mem_cons_of_mem _ hi)⟩
      refine ⟨r, Uni.turn hg wa wb (.inr ⟨_, _, hu, h1⟩), ?_⟩
      cases r with
      | none => trivial
      | some P' =>
        obtain ⟨σ', rk', W', cc, hs⟩ := h2
        refine ⟨σ', rk', W', cc, fun θ => (hs θ).trans ⟨fun h => ⟨h.1, fun i hi => ?_⟩, fun h => ⟨h.1, fun i hi => h.2 i (List.mem_cons_of_mem _ hi)⟩⟩⟩
        rcases List.mem_cons.mp hi with e | hi
        · rw [e]
          show a.sub θ = b.sub θ
          rw [← ea θ h.1, ← eb θ h.1]
          exact he θ h.1
        · exact h.2 i hi
    -- a putting-in
    have put : ∀ (x : Str) (t : PT), look P x = none → x ∈ V → TOk V Φ S σ t → t ≠ .any x → (∀ θ, Sol θ P → (θ x = t.sub θ ↔ a'.sub θ = b'.sub θ)) → uniS d a' b' rest P = bindR x t rest P →
        ∃ r, Uni ((d, a, b) :: rest) P r ∧ Made V Φ S ((d, a, b) :: rest) P σ r := fun x t hx hxV T hne he hu => by
      unfold bindR at hu
      rw [full_eq J.well.good] at hu
      by_cases ho : x ∈ (t.sub σ).vars
      · rw [if_pos ho] at hu
        exact ⟨none, Uni.turn hg wa wb (.inl hu), trivial⟩
      · rw [if_neg ho] at hu
        obtain ⟨rk', W', cc⟩ := J.well.bind hx hxV T ho
        have hlt := cnt_bind (t := t) hx hxV
        have J' : Jst V Φ S a0 rest (P ++ [(x, t)]) (fun y => (σ y).sub fun z => if z = x then t.sub σ else .any z) rk' := by
          refine ⟨W', cc _ J.root, J.stk.2, fun i hi => ?_⟩
          obtain ⟨q1, q2, q3⟩ := J.its i (List.mem_cons_of_mem _ hi)
          refine ⟨⟨q1.vars, q1.phi, cc _ q1.cov⟩, ⟨q2.vars, q2.phi, cc _ q2.cov⟩, ?_⟩
          rw [← Tm.sub_sub, ← Tm.sub_sub]
          exact q3.sub
        obtain ⟨r, h1, h2⟩ := ihc _ (by rw [← hc]; exact hlt) _ rest _ _ rk' rfl rfl J'
        refine ⟨r, Uni.turn hg wa wb (.inr ⟨_, _, hu, h1⟩), ?_⟩
        cases r with
        | none => trivial
        | some P' =>
          obtain ⟨σ', rk'', W'', cc', hs⟩ := h2
          refine ⟨σ', rk'', W'', fun u hu => cc' u (cc u hu), fun θ => (hs θ).trans ⟨fun h => ?_, fun h => ?_⟩⟩
          · obtain ⟨hsol, hx2⟩ := (sol_bind hx θ).mp h.1
            refine ⟨hsol, fun i hi => ?_⟩
            rcases List.mem_cons.mp hi with e | hi
            · rw [e]
              show a.sub θ = b.sub θ
              rw [← ea θ hsol, ← eb θ hsol]
              exact (he θ hsol).mp hx2
            · exact h.2 i hi
          · refine ⟨(sol_bind hx θ).mpr ⟨h.1, (he θ h.1).mpr ?_⟩, fun i hi => h.2 i (List.mem_cons_of_mem _ hi)⟩
            rw [ea θ h.1, eb θ h.1]
            exact h.2 _ (List.mem_cons_self ..)
    have end_ : uniS d a' b' rest P = .done none → ∃ r, Uni ((d, a, b) :: rest) P r ∧ Made V Φ S ((d, a, b) :: rest) P σ r := fun hu => ⟨none, Uni.turn hg wa wb (.inl hu), trivial⟩
    have inV : ∀ x, TOk V Φ S σ (.any x) → x ∈ V := fun x T => T.vars x (by rw [Tm.vars_any]; exact List.mem_singleton.mpr rfl)
    cases a' with
    | any x =>
      by_cases e : b' = .any x
      · exact same (fun θ _ => by rw [e]) (by unfold uniS; rw [e]; simp)
      · refine put x b' (Walked.ends fa x rfl) (inV x Ta') Tb' e (fun θ h => by rw [Tm.sub_any]) ?_
        cases b' with
        | any y => unfold uniS; simp only; rw [if_neg e]
        | num n => unfold uniS; simp only; rw [if_neg e]
        | app g ls => unfold uniS; simp only; rw [if_neg e]
    | num i =>
      cases b' with
      | any y => exact put y (.num i) (Walked.ends fb y rfl) (inV y Tb') Ta' (by intro z; cases z) (fun θ h => by rw [Tm.sub_any]; exact eq_comm) rfl
      | num j =>
        by_cases e : i = j
        · exact same (fun θ _ => by rw [e]) (by unfold uniS; simp only; rw [if_pos e])
        · exact end_ (by unfold uniS; simp only; rw [if_neg e])
      | app g ls => exact end_ rfl
    | app f ks =>
      cases b' with
      | any y => exact put y (.app f ks) (Walked.ends fb y rfl) (inV y Tb') Ta' (by intro z; cases z) (fun θ h => by rw [Tm.sub_any]; exact eq_comm) rfl
      | num j => exact end_ rfl
      | app g ls =>
        by_cases e : f = g ∧ ks.length = ls.length
        · obtain ⟨e1, e2⟩ := e
          subst e1
          have hu : uniS d (.app f ks) (.app f ls) rest P = .more ((ks.zip ls).map (fun p => (d + 1, p.1, p.2)) ++ rest) P := by exact if_pos ⟨rfl, e2⟩
          have e3 : (a.sub σ).size = 1 + ((ks.map (Tm.sub σ)).map Tm.size).sum := by rw [← ea σ J.well.good.sol, Tm.sub_app, Tm.size_app]
          have e4 : szs σ ((ks.zip ls).map (fun p => (d + 1, p.1, p.2)) ++ rest) = ((ks.map (Tm.sub σ)).map Tm.size).sum + szs σ rest := by
            rw [← zip_sizes (d := d + 1) e2]
            unfold szs
            rw [List.map_append, List.sum_append]
          have J' : Jst V Φ S a0 ((ks.zip ls).map (fun p => (d + 1, p.1, p.2)) ++ rest) P σ rk := by
            refine ⟨J.well, J.root, StackOk.push J.stk.2 J.stk.1 ?_, fun i hi => ?_⟩
            · rw [List.length_zip]
              have := (hΦ.ar _ Ta'.phi).two
              omega
            · rcases List.mem_append.mp hi with hi | hi
              · obtain ⟨p, hp, rfl⟩ := List.mem_map.mp hi
                obtain ⟨h1, h2⟩ := List.of_mem_zip (show (p.1, p.2) ∈ ks.zip ls from hp)
                refine ⟨⟨fun y hy => Ta'.vars y (by rw [Tm.vars_app]; exact List.mem_flatMap.mpr ⟨_, h1, hy⟩), hΦ.kid _ _ _ Ta'.phi h1, Ta'.cov.kid h1⟩, ⟨fun y hy => Tb'.vars y (by rw [Tm.vars_app]; exact List.mem_flatMap.mpr ⟨_, h2, hy⟩), hΦ.kid _ _ _ Tb'.phi h2, Tb'.cov.kid h2⟩, ?_⟩
                have A2 := A
                rw [← ea σ J.well.good.sol, Tm.sub_app] at A2
                exact .kid A2 (List.mem_map.mpr ⟨_, h1, rfl⟩)
              · exact J.its i (List.mem_cons_of_mem _ hi)
          obtain ⟨r, h1, h2⟩ := ihm _ (by omega) _ P σ rk hc rfl J'
          refine ⟨r, Uni.turn hg wa wb (.inr ⟨_, _, hu, h1⟩), ?_⟩
          cases r with
          | none => trivial
          | some P' =>
            obtain ⟨σ', rk', W', cc, hs⟩ := h2
            refine ⟨σ', rk', W', cc, fun θ => (hs θ).trans ⟨fun h => ⟨h.1, fun i hi => ?_⟩, fun h => ⟨h.1, fun i hi => ?_⟩⟩⟩
            · rcases List.mem_cons.mp hi with e | hi
              · rw [e]
                show a.sub θ = b.sub θ
                rw [← ea θ h.1, ← eb θ h.1, Tm.sub_app, Tm.sub_app, (zip_eqs e2).mpr fun p hp => h.2 _ (List.mem_append_left _ (List.mem_map.mpr ⟨p, hp, rfl⟩))]
              · exact h.2 i (List.mem_append_right _ hi)
            · rcases List.mem_append.mp hi with hi | hi
              · obtain ⟨p, hp, rfl⟩ := List.mem_map.mp hi
                have q := h.2 _ (List.mem_cons_self ..)
                have q : a.sub θ = b.sub θ := q
                rw [← ea θ h.1, ← eb θ h.1, Tm.sub_app, Tm.sub_app] at q
                injection q with _ q2
                exact (zip_eqs e2).mp q2 p hp
              · exact h.2 i (List.mem_cons_of_mem _ hi)
        · exact end_ (by unfold uniS; simp only; rw [if_neg e])
end
end G35

/-! GM4 -/
set_option Elab.async false
set_option linter.all false
set_option maxRecDepth 10000
/-! Names told anew, marks, derivations over names by steps. -/
namespace G35
open PySem
/-! ### names in the order in which they first stand -/
def addN (acc : List Str) (x : Str) : List Str := if x ∈ acc then acc else acc ++ [x]
def firstsF (acc l : List Str) : List Str := l.foldl addN acc
def firsts (l : List Str) : List Str := firstsF [] l
def istr (n : Int) : Str := Str.ofString (toString n)
def nmU (i : Nat) : Str := Str.ofString "U" ++ istr ((i : Int) + 1)
def idx (x : Str) : List Str → Nat
  | [] => 0
  | y :: l => if x = y then 0 else idx x l + 1
def varsT (ts : List PT) : List Str := ts.flatMap Tm.vars
def toldBy (l : List Str) (t : PT) : PT := t.sub fun x => .any (nmU (idx x l))
def tolds (ts : List PT) : List PT := ts.map (toldBy (firsts (varsT ts)))
theorem mem_addN {acc : List Str} {x y : Str} : y ∈ addN acc x ↔ y ∈ acc ∨ y = x := by
  unfold addN
  by_cases h : x ∈ acc
  · rw [if_pos h]
    constructor
    · exact .inl
    · rintro (h1 | h1)
      · exact h1
      · rw [h1]; exact h
  · rw [if_neg h, List.mem_append, List.mem_singleton]
theorem mem_firstsF : ∀ {l acc : List Str} {y : Str}, y ∈ firstsF acc l ↔ y ∈ acc ∨ y ∈ l
  | [], acc, y => by simp [firstsF]
  | x :: l, acc, y => by
    have ih := mem_firstsF (l := l) (acc := addN acc x) (y := y)
    show y ∈ firstsF (addN acc x) l ↔ _
    rw [ih, mem_addN, List.mem_cons, or_assoc]
theorem mem_firsts {l : List Str} {y : Str} : y ∈ firsts l ↔ y ∈ l := by
  unfold firsts
  rw [mem_firstsF]
  simp
theorem nodup_firstsF : ∀ {l acc : List Str}, acc.Nodup → (firstsF acc l).Nodup
  | [], acc, h => h
  | x :: l, acc, h => by
    show (firstsF (addN acc x) l).Nodup
    refine nodup_firstsF ?_
    unfold addN
    by_cases hx : x ∈ acc
    · rw [if_pos hx]; exact h
    · rw [if_neg hx]
      refine List.nodup_append.mpr ⟨h, by simp, fun a ha b hb e => ?_⟩
      rw [List.mem_singleton.mp hb] at e
      exact hx (e ▸ ha)
theorem nodup_firsts {l : List Str} : (firsts l).Nodup := nodup_firstsF List.nodup_nil
theorem firsts_map {r : Str → Str} : ∀ {l acc : List Str}, (∀ x ∈ acc ++ l, ∀ y ∈ acc ++ l, r x = r y → x = y) → firstsF (acc.map r) (l.map r) = (firstsF acc l).map r
  | [], acc, _ => rfl
  | x :: l, acc, h => by
    show firstsF (addN (acc.map r) (r x)) (l.map r) = (firstsF (addN acc x) l).map r
    have e : addN (acc.map r) (r x) = (addN acc x).map r := by
      unfold addN
      by_cases hx : x ∈ acc
      · rw [if_pos hx, if_pos (List.mem_map.mpr ⟨x, hx, rfl⟩)]
      · rw [if_neg hx, if_neg, List.map_append]
        · rfl
        · intro hm
          obtain ⟨y, hy, e⟩ := List.mem_map.mp hm
          exact hx (h y (List.mem_append_left _ hy) x (List.mem_append_right _ (List.mem_cons_self ..)) e ▸ hy)
    rw [e]
    refine firsts_map fun a ha b hb e => h a ?_ b ?_ e
    · rcases List.mem_append.mp ha with ha | ha
      · rcases mem_addN.mp ha with ha | ha
        · exact List.mem_append_left _ ha
        · rw [ha]; exact List.mem_append_right _ (List.mem_cons_self ..)
      · exact List.mem_append_right _ (List.mem_cons_of_mem _ ha)
    · rcases List.mem_append.mp hb with ha | ha
      · rcases mem_addN.mp ha with ha | ha
        · exact List.mem_append_left _ ha
        · rw [ha]; exact List.mem_append_right _ (List.mem_cons_self ..)
      · exact List.mem_append_right _ (List.mem_cons_of_mem _ ha)
theorem idx_map {r : Str → Str} {x : Str} : ∀ {l : List Str}, (∀ y ∈ l, r x = r y → x = y) → idx (r x) (l.map r) = idx x l
  | [], _ => rfl
  | y :: l, h => by
    show (if r x = r y then 0 else idx (r x) (l.map r) + 1) = if x = y then 0 else idx x l + 1
    rw [idx_map fun z hz => h z (List.mem_cons_of_mem _ hz)]
    by_cases e : x = y
    · rw [if_pos e, if_pos (congrArg r e)]
    · rw [if_neg e, if_neg fun z => e (h y (List.mem_cons_self ..) z)]
theorem varsT_ren (r : Str → Str) (ts : List PT) : varsT (ts.map (Tm.sub fun x => .any (r x))) = (varsT ts).map r := by
  have h1 : ∀ t : PT, (t.sub fun x => .any (r x)).vars = t.vars.map r := fun t => by
    rw [Tm.vars_sub]
    induction t.vars with
    | nil => rfl
    | cons a l ih => rw [List.flatMap_cons, ih, Tm.vars_any]; rfl
  unfold varsT
  induction ts with
  | nil => rfl
  | cons t ts ih => rw [List.map_cons, List.flatMap_cons, List.flatMap_cons, ih, h1, List.map_append]
theorem mem_varsT {ts : List PT} {t : PT} {x : Str} (ht : t ∈ ts) (hx : x ∈ t.vars) : x ∈ varsT ts := List.mem_flatMap.mpr ⟨t, ht, hx⟩
/-- terms that are told by one another are told anew alike -/
theorem tolds_variant {ts ts' : List PT} {α β : Str → PT} (h1 : ts' = ts.map (Tm.sub α)) (h2 : ts = ts'.map (Tm.sub β)) : tolds ts = tolds ts' := by
  have key : ∀ x ∈ varsT ts, ∃ y, α x = .any y ∧ β y = .any x := fun x hx => by
    obtain ⟨t, ht, hx⟩ := List.mem_flatMap.mp hx
    have e : t.sub (fun x => (α x).sub β) = t.sub Tm.any := by
      rw [Tm.sub_id, ← Tm.sub_sub]
      have e2 : ts.map (Tm.sub Tm.any) = (ts.map (Tm.sub α)).map (Tm.sub β) := by
        rw [← h1, ← h2]
        exact (List.map_congr_left fun t _ => Tm.sub_id t).trans (List.map_id _)
      rw [List.map_map] at e2
      have e3 := List.map_inj_left.mp e2 t ht
      rw [Tm.sub_id] at e3
      exact e3.symm
    have e4 := Tm.sub_inv t e x hx
    cases q : α x with
    | num n => rw [q, Tm.sub_num] at e4; cases e4
    | app f ks => rw [q, Tm.sub_app] at e4; cases e4
    | any y =>
      rw [q, Tm.sub_any] at e4
      exact ⟨y, rfl, e4⟩
  let r : Str → Str := fun x => match α x with
    | .any y => y
    | _ => x
  have hr : ∀ x ∈ varsT ts, α x = .any (r x) ∧ β (r x) = .any x := fun x hx => by
    obtain ⟨y, e1, e2⟩ := key x hx
    have : r x = y := by show (match α x with | .any y => y | _ => x) = y; rw [e1]
    rw [this]
    exact ⟨e1, e2⟩
  have inj : ∀ x ∈ varsT ts, ∀ y ∈ varsT ts, r x = r y → x = y := fun x hx y hy e => by
    have a := (hr x hx).2
    have b := (hr y hy).2
    rw [e, b] at a
    injection a with a
    exact a.symm
  have e1 : ts' = ts.map (Tm.sub fun x => .any (r x)) := by
    rw [h1]
    exact List.map_congr_left fun t ht => Tm.sub_congr t fun x hx => (hr x (mem_varsT ht hx)).1
  unfold tolds
  rw [e1, varsT_ren]
  have e2 : firsts ((varsT ts).map r) = (firsts (varsT ts)).map r := firsts_map (acc := []) (by simpa using inj)
  rw [e2, List.map_map]
  refine List.map_congr_left fun t ht => ?_
  show toldBy _ t = toldBy _ (t.sub _)
  unfold toldBy
  rw [Tm.sub_sub]
  refine Tm.sub_congr t fun x hx => ?_
  rw [Tm.sub_any, idx_map fun y hy e => inj x (mem_varsT ht hx) y (mem_firsts.mp hy) e]

/-! ### marks -/
def dot : Str := Str.ofString "."
def mk (x : Str) (k : Nat) : Str := x ++ dot ++ istr (k : Int)
def NoDot (x : Str) : Prop := 46 ∉ x.cps.toList
theorem str_ext {x y : Str} (h : x.cps.toList = y.cps.toList) : x = y := by
  obtain ⟨a⟩ := x
  obtain ⟨b⟩ := y
  have : a = b := Array.ext' h
  rw [this]
theorem cps_app (x y : Str) : (x ++ y).cps.toList = x.cps.toList ++ y.cps.toList := by
  show (x.cps ++ y.cps).toList = _
  rw [Array.toList_append]
theorem dot_cps : dot.cps.toList = [46] := by decide +kernel
theorem istr_nodot : ∀ k : Fin 21, 46 ∉ (istr (k.val : Int)).cps.toList := by decide +kernel
theorem istr_inj : ∀ i j : Fin 21, (istr (i.val : Int)).cps.toList = (istr (j.val : Int)).cps.toList → i = j := by decide +kernel
theorem mk_cps (x : Str) (k : Nat) : (mk x k).cps.toList = x.cps.toList ++ 46 :: (istr (k : Int)).cps.toList := by
  unfold mk
  rw [cps_app, cps_app, dot_cps, List.append_assoc]
  rfl
theorem split_last {a b c d : List Nat} (hb : 46 ∉ b) (hd : 46 ∉ d) : a ++ 46 :: b = c ++ 46 :: d → a = c ∧ b = d := by
  induction a generalizing c with
  | nil =>
    intro h
    cases c with
    | nil => exact ⟨rfl, by simpa using h⟩
    | cons x c =>
      simp only [List.nil_append, List.cons_append, List.cons.injEq] at h
      exact absurd (by rw [h.2]; simp) hb
  | cons y a ih =>
    intro h
    cases c with
    | nil =>
      simp only [List.nil_append, List.cons_append, List.cons.injEq] at h
      exact absurd (by rw [← h.2]; simp) hd
    | cons x c =>
      simp only [List.cons_append, List.cons.injEq] at h
      obtain ⟨h1, h2⟩ := ih h.2
      exact ⟨by rw [h.1, h1], h2⟩
theorem mk_inj {x y : Str} {i j : Nat} (hi : i ≤ 20) (hj : j ≤ 20) (h : mk x i = mk y j) : x = y ∧ i = j := by
  have e : (mk x i).cps.toList = (mk y j).cps.toList := by rw [h]
  rw [mk_cps, mk_cps] at e
  obtain ⟨h1, h2⟩ := split_last (istr_nodot ⟨i, by omega⟩) (istr_nodot ⟨j, by omega⟩) e
  exact ⟨str_ext h1, congrArg Fin.val (istr_inj ⟨i, by omega⟩ ⟨j, by omega⟩ h2)⟩
theorem mk_dot (x : Str) (k : Nat) : ¬ NoDot (mk x k) := fun h => h (by rw [mk_cps]; simp)

/-! ### names by steps: (x, 0) of the question, (x, k + 1) of the rule that was taken k-th -/
abbrev AV := Str × Nat
abbrev AT := Tm AV
abbrev Rule := PT × List PT
def lift (k : Nat) (t : PT) : AT := t.sub fun x => .any (x, k)
def nu (t : Nat → Nat) : AV → Str
  | (x, 0) => x
  | (x, k + 1) => mk x (t k)
def conc (t : Nat → Nat) (u : AT) : PT := u.sub fun a => .any (nu t a)
def markT (n : Nat) (t : PT) : PT := t.sub fun x => .any (mk x n)
theorem conc_lift0 (t : Nat → Nat) (g : PT) : conc t (lift 0 g) = g := by
  unfold conc lift
  rw [Tm.sub_sub]
  refine (Tm.sub_congr g fun x _ => ?_).trans (Tm.sub_id g)
  rw [Tm.sub_any]
  rfl
theorem conc_lift (t : Nat → Nat) (k : Nat) (g : PT) : conc t (lift (k + 1) g) = markT (t k) g := by
  unfold conc lift markT
  rw [Tm.sub_sub]
  refine Tm.sub_congr g fun x _ => ?_
  rw [Tm.sub_any]
  rfl
theorem conc_sub (t : Nat → Nat) (θ : Str → PT) (u : AT) : (conc t u).sub θ = u.sub fun a => θ (nu t a) := by
  unfold conc
  rw [Tm.sub_sub]
  exact Tm.sub_congr u fun a _ => Tm.sub_any ..
/-- where ν_t parts names -/
def Dom (n : Nat) : AV → Prop
  | (x, 0) => NoDot x
  | (_, k + 1) => k < n
theorem Dom.mono {n m : Nat} {a : AV} (h : Dom n a) (hm : n ≤ m) : Dom m a := by
  obtain ⟨x, k⟩ := a
  cases k with
  | zero => exact h
  | succ k => exact Nat.lt_of_lt_of_le h hm
structure Marks (n : Nat) (t : Nat → Nat) : Prop where
  low : ∀ k, k < n → t k ≤ 20
  inj : ∀ j k, j < n → k < n → t j = t k → j = k
theorem nu_inj {n : Nat} {t : Nat → Nat} (M : Marks n t) {a b : AV} (ha : Dom n a) (hb : Dom n b) (h : nu t a = nu t b) : a = b := by
  obtain ⟨x, i⟩ := a
  obtain ⟨y, j⟩ := b
  cases i with
  | zero =>
    cases j with
    | zero => exact congrArg (fun z => (z, 0)) (show x = y from h)
    | succ j =>
      have e : x = mk y (t j) := h
      have hx : NoDot x := ha
      rw [e] at hx
      exact absurd hx (mk_dot _ _)
  | succ i =>
    cases j with
    | zero =>
      have e : mk x (t i) = y := h
      have hy : NoDot y := hb
      rw [← e] at hy
      exact absurd hy (mk_dot _ _)
    | succ j =>
      obtain ⟨h1, h2⟩ := mk_inj (M.low i ha) (M.low j hb) h
      rw [h1, M.inj i j ha hb h2]
noncomputable section
open Classical
/-- back from names to names by steps -/
def back (n : Nat) (t : Nat → Nat) (y : Str) : AV := if h : ∃ a, Dom n a ∧ nu t a = y then choose h else (y, 0)
theorem back_nu {n : Nat} {t : Nat → Nat} (M : Marks n t) {a : AV} (ha : Dom n a) : back n t (nu t a) = a := by
  have h : ∃ b, Dom n b ∧ nu t b = nu t a := ⟨a, ha, rfl⟩
  unfold back
  rw [dif_pos h]
  obtain ⟨h1, h2⟩ := choose_spec h
  exact nu_inj M h1 ha h2
end
def DomT (n : Nat) (u : AT) : Prop := ∀ a ∈ u.vars, Dom n a
/-- a solution over names by steps, as one over names -/
theorem back_sub {n : Nat} {t : Nat → Nat} (M : Marks n t) {u : AT} (hu : DomT n u) (θ : AV → PT) : (conc t u).sub (fun y => θ (back n t y)) = u.sub θ := by
  rw [conc_sub]
  exact Tm.sub_congr u fun a ha => congrArg θ (back_nu M (hu a ha))

/-! ### equations; sums -/
abbrev Eqs := List (AT × AT)
def Sat (θ : AV → PT) (C : Eqs) : Prop := ∀ p ∈ C, p.1.sub θ = p.2.sub θ
/-- θ solves C, named by t -/
def SatC (t : Nat → Nat) (θ : Str → PT) (C : Eqs) : Prop := ∀ p ∈ C, (conc t p.1).sub θ = (conc t p.2).sub θ
theorem satC_iff {t : Nat → Nat} {θ : Str → PT} {C : Eqs} : SatC t θ C ↔ Sat (fun a => θ (nu t a)) C := by
  constructor
  · intro h p hp
    have := h p hp
    rw [conc_sub, conc_sub] at this
    exact this
  · intro h p hp
    rw [conc_sub, conc_sub]
    exact h p hp
def DomC (n : Nat) (C : Eqs) : Prop := ∀ p ∈ C, DomT n p.1 ∧ DomT n p.2
theorem sat_back {n : Nat} {t : Nat → Nat} (M : Marks n t) {C : Eqs} (hC : DomC n C) {θ : AV → PT} (h : Sat θ C) : SatC t (fun y => θ (back n t y)) C := fun p hp => by
  rw [back_sub M (hC p hp).1, back_sub M (hC p hp).2]
  exact h p hp

def wKeep : Str := Str.ofString "keep"
def wNot : Str := Str.ofString "not"
def wEq : Str := Str.ofString "="
def wAsg : Str := Str.ofString ":="
def wLt : Str := Str.ofString "<"
def wLe : Str := Str.ofString "<="
def wAdd : Str := Str.ofString "+"
def wSub : Str := Str.ofString "-"
def wMul : Str := Str.ofString "*"
def wDiv : Str := Str.ofString "/"
def wMod : Str := Str.ofString "/:"
def sumW : List Str := [wAdd, wSub, wMul, wDiv, wMod]
def deedW : List Str := [wEq, wAsg, wLt, wLe]
def Named (f : Str) : Prop := f ∉ [wEq, wAsg, wLt, wLe, wNot, wKeep]
/-- what a mark makes of two numbers, the second one 0 or 1 -/
def doneM (f : Str) (a b : Int) : Int ⊕ Str :=
  if f = wAdd then .inl (a + b) else if f = wSub then .inl (a - b) else if f = wMul then .inl (a * b) else if b = 0 then .inr (Str.ofString "nought") else if f = wDiv then .inl a else .inl 0
def reck {α : Type} : Tm α → Int ⊕ Str
  | .num n => .inl n
  | .any _ => .inr (Str.ofString "open")
  | .app f [.num a, .num b] => if f ∈ sumW then doneM f a b else .inr (Str.ofString "kind")
  | .app _ _ => .inr (Str.ofString "kind")
theorem reck_ground {α : Type} {u : Tm α} {v : Int} (h : reck u = .inl v) : u.vars = [] ∧ u.depth ≤ 2 := by
  unfold reck at h
  split at h
  · exact ⟨Tm.vars_num _, by rw [Tm.depth_num]; omega⟩
  · cases h
  · rename_i f a b
    refine ⟨by rw [Tm.vars_app]; simp [Tm.vars_num], ?_⟩
    rw [Tm.depth_app]
    have : Tm.depthL [Tm.num (α := α) a, Tm.num b] ≤ 1 := Tm.depthL_le.mpr fun k hk => by
      rcases List.mem_cons.mp hk with e | hk
      · rw [e, Tm.depth_num]; exact Nat.le_refl _
      · rw [List.mem_singleton.mp hk, Tm.depth_num]; exact Nat.le_refl _
    omega
  · cases h
end G35

/-! GM5 -/
set_option Elab.async false
set_option linter.all false
set_option maxRecDepth 10000
/-! The searcher's mirror; derivations. -/
namespace G35
open PySem
/-! ### shapes -/
/-- a sum's kids are two small numbers; at most two kids -/
structure Shp {α : Type} (t : Tm α) : Prop where
  ar : Ar t
  sums : ∀ f ks, Tm.app f ks ∈ t.apps → f ∈ sumW → ∃ a b : Int, ks = [.num a, .num b] ∧ (0 ≤ a ∧ a ≤ 2) ∧ 0 ≤ b ∧ b ≤ 1
theorem Shp.any {α : Type} (x : α) : Shp (.any x) := ⟨Ar.any x, fun f ks h => by rw [Tm.apps_any] at h; cases h⟩
theorem Shp.num {α : Type} (n : Int) : Shp (.num n : Tm α) := ⟨Ar.num n, fun f ks h => by rw [Tm.apps_num] at h; cases h⟩
theorem Shp.kid {α : Type} {f : Str} {ks : List (Tm α)} (h : Shp (.app f ks)) {k : Tm α} (hk : k ∈ ks) : Shp k := ⟨h.ar.kid hk, fun g ls hu => h.sums g ls (Tm.apps_kid hk hu)⟩
theorem Shp.app {α : Type} {f : Str} {ks : List (Tm α)} (hf : f ∉ sumW) (h : ks.length ≤ 2) (hk : ∀ k ∈ ks, Shp k) : Shp (.app f ks) := by
  refine ⟨Ar.app h fun k z => (hk k z).ar, fun g ls hu hg => ?_⟩
  rw [Tm.apps_app] at hu
  rcases List.mem_cons.mp hu with e | hu
  · injection e with e1 _
    rw [e1] at hg
    exact absurd hg hf
  · obtain ⟨k, h1, h2⟩ := List.mem_flatMap.mp hu
    exact (hk k h1).sums g ls h2 hg
theorem Shp.sum {α : Type} {f : Str} {a b : Int} (ha : 0 ≤ a ∧ a ≤ 2) (hb : 0 ≤ b ∧ b ≤ 1) : Shp (.app f [.num a, .num b] : Tm α) := by
  refine ⟨Ar.app (Nat.le_refl _) fun k hk => ?_, fun g ls hu hg => ?_⟩
  · rcases List.mem_cons.mp hk with e | hk
    · rw [e]; exact Ar.num a
    · rw [List.mem_singleton.mp hk]; exact Ar.num b
  · rw [Tm.apps_app] at hu
    rcases List.mem_cons.mp hu with e | hu
    · injection e with _ e2
      exact ⟨a, b, e2, ha, hb⟩
    · simp [Tm.apps_num] at hu
theorem no_any_app {α : Type} {x : α} : ∀ t : Tm α, Tm.any x ∉ t.apps := by
  refine Tm.ind (fun n h => by rw [Tm.apps_num] at h; cases h) (fun y h => by rw [Tm.apps_any] at h; cases h) fun g ls ih h => ?_
  rw [Tm.apps_app] at h
  rcases List.mem_cons.mp h with e | h
  · cases e
  · obtain ⟨k, h1, h2⟩ := List.mem_flatMap.mp h
    exact ih k h1 h2
theorem Shp.sub {α β : Type} {θ : α → Tm β} {t : Tm α} (h : Shp t) (hv : ∀ x ∈ t.vars, Shp (θ x)) : Shp (t.sub θ) := by
  refine ⟨Ar.sub h.ar fun x hx => (hv x hx).ar, fun f ks hu hf => ?_⟩
  rcases Tm.apps_sub t _ hu with ⟨s, hs, e⟩ | ⟨x, hx, hu⟩
  · cases s with
    | num n => rw [Tm.sub_num] at e; cases e
    | any x => exact absurd hs (no_any_app t)
    | app g ls =>
      rw [Tm.sub_app] at e
      injection e with e1 e2
      obtain ⟨a, b, e3, z⟩ := h.sums g ls hs (e1 ▸ hf)
      exact ⟨a, b, by rw [e2, e3]; simp [Tm.sub_num], z⟩
  · exact (hv x hx).sums f ks hu hf
theorem shp_phi : Phi (Shp (α := Str)) := ⟨fun t h => h.ar, fun f ks k h hk => h.kid hk, Shp.any⟩
/-- a goal -/
def GoalOk {α : Type} (g : Tm α) : Prop := ∃ f ks, g = .app f ks ∧ ((f = wKeep ∧ ks = []) ∨ (f = wNot ∧ ∃ w us, ks = [.app w us] ∧ Named w) ∨ (f ∈ deedW ∧ ∃ l r, ks = [l, r]) ∨ Named f)
theorem GoalOk.sub {α β : Type} {θ : α → Tm β} {g : Tm α} (h : GoalOk g) : GoalOk (g.sub θ) := by
  obtain ⟨f, ks, rfl, h⟩ := h
  refine ⟨f, ks.map (Tm.sub θ), Tm.sub_app .., ?_⟩
  rcases h with ⟨h1, h2⟩ | ⟨h1, w, us, h2, h3⟩ | ⟨h1, l, r, h2⟩ | h
  · exact .inl ⟨h1, by rw [h2]; rfl⟩
  · exact .inr (.inl ⟨h1, w, us.map (Tm.sub θ), by rw [h2]; simp [Tm.sub_app], h3⟩)
  · exact .inr (.inr (.inl ⟨h1, l.sub θ, r.sub θ, by rw [h2]; rfl⟩))
  · exact .inr (.inr (.inr h))

/-! ### the searcher's state -/
structure Ent where
  goals : List (Option PT × Nat)
  puts : Puts
  way : List Nat
inductive Fin where
  | all | spent | big | enough
  | fault (w : Str) (g : PT)
abbrev Ans := List (Str × PT) × List Nat
structure SSt where
  left : List Ent
  given : List Ans
  taken : Nat
  fin : Option Fin
structure Cfg where
  rules : List Rule
  asked : List Str
  bound : Nat
  most : Nat
def signKids : PT → Str × List PT
  | .app f ks => (f, ks)
  | _ => (Str.ofString "", [])
def sameWord (h g : PT) : Prop := (signKids h).1 = (signKids g).1 ∧ (signKids h).2.length = (signKids g).2.length
noncomputable section
open Classical
def uniO (st : List Item) (P : Puts) : Option (Option Puts) := if h : ∃ r, Uni st P r then some (choose h) else none
theorem uniO_eq {st : List Item} {P : Puts} {r : Option Puts} (h : Uni st P r) : uniO st P = some r := by
  have h' : ∃ r, Uni st P r := ⟨r, h⟩
  unfold uniO
  rw [dif_pos h', (choose_spec h').uniq h]
theorem of_uniO {st : List Item} {P : Puts} {r : Option Puts} (h : uniO st P = some r) : Uni st P r := by
  unfold uniO at h
  by_cases h' : ∃ r, Uni st P r
  · rw [dif_pos h'] at h
    rw [← Option.some.inj h]
    exact choose_spec h'
  · rw [dif_neg h'] at h
    cases h
/-- parts up to 40 -/
def parts40 (t : PT) : Nat := if t.size ≤ 40 then t.size else 41
def told1 (g : PT) : PT := toldBy (firsts g.vars) g
/-- a deed: none: no word; some (inr w): a fault; some (inl none): it falls -/
def deedF (f : Str) (l r : PT) (P : Puts) : Option (Option Puts ⊕ Str) :=
  if f = wEq then (uniO [(0, l, r)] P).map .inl
  else if f = wAsg then (match reck r with
    | .inr w => some (.inr w)
    | .inl v => (uniO [(0, l, .num v)] P).map .inl)
  else (match reck l with
    | .inr w => some (.inr w)
    | .inl a => (match reck r with
      | .inr w => some (.inr w)
      | .inl b => some (.inl (if a < b ∨ f = wLe ∧ a = b then some P else none))))
def waysF (τ : Nat) (g : PT) (gs : List (Option PT × Nat)) (P : Puts) (way : List Nat) (ht : Nat) : List Rule → Nat → Option (List Ent)
  | [], _ => some []
  | (h, b) :: rs, k => (match waysF τ g gs P way ht rs (k + 1) with
    | none => none
    | some tl => if sameWord h g then (match uniO [(0, markT τ h, g)] P with
        | none => none
        | some none => some tl
        | some (some P') => some (⟨b.map (fun q => (some (markT τ q), ht)) ++ gs, P', way ++ [k + 1]⟩ :: tl)) else some tl)
def takeF (c : Cfg) (s : SSt) (left : List Ent) (g : PT) (h : Nat) (gs : List (Option PT × Nat)) (P : Puts) (way : List Nat) : Option SSt :=
  if s.taken = c.bound then some { s with left := left, fin := some .spent }
  else if 40 < (g.sub (full P)).size then some { s with left := left, taken := s.taken + 1, fin := some .big }
  else match g.sub (full P) with
    | .app f ks =>
      if f = wKeep then some { s with left := left.take h ++ [⟨gs, P, way ++ [0]⟩], taken := s.taken + 1 }
      else if f = wNot then
        if (Tm.app f ks).vars ≠ [] then some { s with left := left, taken := s.taken + 1, fin := some (.fault (Str.ofString "open") (told1 (.app f ks))) }
        else (match ks with
          | [G] => some { s with left := left ++ [⟨gs, P, way ++ [0]⟩, ⟨[(some G, left.length), (none, left.length)], P, way ++ [0]⟩], taken := s.taken + 1 }
          | _ => none)
      else if f ∈ deedW then (match ks with
        | [l, r] => (match deedF f l r P with
          | none => none
          | some (.inr w) => some { s with left := left, taken := s.taken + 1, fin := some (.fault w (told1 (.app f ks))) }
          | some (.inl none) => some { s with left := left, taken := s.taken + 1 }
          | some (.inl (some P')) => some { s with left := left ++ [⟨gs, P', way ++ [0]⟩], taken := s.taken + 1 })
        | _ => none)
      else (match waysF (s.taken + 1) (.app f ks) gs P way left.length c.rules 0 with
        | none => none
        | some ways => some { s with left := left ++ ways.reverse, taken := s.taken + 1 })
    | _ => none
def tellF (c : Cfg) (s : SSt) (left : List Ent) (P : Puts) (way : List Nat) : SSt :=
  if 40 < ((c.asked.map fun x => parts40 (full P x)).sum) then { s with left := left, fin := some .big }
  else { s with left := left, given := s.given ++ [(c.asked.zip (tolds (c.asked.map (full P))), way)], fin := if s.given.length + 1 = c.most then some .enough else none }
def stepF (c : Cfg) (s : SSt) : Option SSt :=
  match s.left.getLast? with
  | none => some { s with fin := some .all }
  | some e => (match e.goals with
    | [] => some (tellF c s s.left.dropLast e.puts e.way)
    | (none, h) :: _ => some { s with left := s.left.dropLast.take h }
    | (some g, h) :: gs => takeF c s s.left.dropLast g h gs e.puts e.way)
/-- what a step needs of a way that was left -/
structure EG (e : Ent) : Prop where
  good : ∃ σ rk, Good e.puts σ rk
  shp : ∀ x t, look e.puts x = some t → Shp t
  plen : e.puts.length ≤ 10000
  goals : ∀ q ∈ e.goals, ∀ g, q.1 = some g → Shp g ∧ GoalOk g
  glen : e.goals.length ≤ 1000
  wlen : e.way.length ≤ 1000
structure SG (s : SSt) : Prop where
  ents : ∀ e ∈ s.left, EG e
  len : s.left.length ≤ 1000
  tak : s.taken ≤ 1000
  giv : s.given.length ≤ 1000
def runF (c : Cfg) : Nat → SSt → Option SSt
  | 0, _ => none
  | n + 1, s => if SG s then (match s.fin with
      | some _ => some s
      | none => (match stepF c s with
        | none => none
        | some s' => runF c n s')) else none
end
theorem runF_mono {c : Cfg} : ∀ {n : Nat} {s r : SSt}, runF c n s = some r → runF c (n + 1) s = some r
  | 0, s, r, h => by cases h
  | n + 1, s, r, h => by
    unfold runF at h ⊢
    by_cases hg : SG s
    · rw [if_pos hg] at h ⊢
      cases hf : s.fin with
      | some f => simp only [hf] at h ⊢; exact h
      | none =>
        simp only [hf] at h ⊢
        cases hs : stepF c s with
        | none => simp only [hs] at h; cases h
        | some s' => simp only [hs] at h ⊢; exact runF_mono h
    · rw [if_neg hg] at h
      cases h
theorem runF_le {c : Cfg} {n m : Nat} {s r : SSt} (h : runF c n s = some r) (hm : n ≤ m) : runF c m s = some r := by
  induction hm with
  | refl => exact h
  | step _ ih => exact runF_mono ih

/-! ### derivations -/
/-- one step of a way: goal g, number n, new equations, new goals -/
inductive Step (rules : List Rule) (B k : Nat) (C : Eqs) : AT → Nat → Eqs → List AT → Prop
  | rule {i : Nat} {f : Str} {us : List PT} {ks : List AT} {b : List PT} (hr : rules[i]? = some (.app f us, b)) (hf : Named f) (hl : us.length = ks.length) :
      Step rules B k C (.app f ks) (i + 1) [(.app f ks, lift (k + 1) (.app f us))] (b.map (lift (k + 1)))
  | eq {l r : AT} : Step rules B k C (.app wEq [l, r]) 0 [(l, r)] []
  | asg {l r : AT} {u : PT} {v : Int} (h : ∀ θ, Sat θ C → r.sub θ = u) (hv : reck u = .inl v) : Step rules B k C (.app wAsg [l, r]) 0 [(l, .num v)] []
  | less {f : Str} {l r : AT} {u1 u2 : PT} {a b : Int} (hf : f = wLt ∨ f = wLe) (h1 : ∀ θ, Sat θ C → l.sub θ = u1) (h2 : ∀ θ, Sat θ C → r.sub θ = u2) (ha : reck u1 = .inl a) (hb : reck u2 = .inl b) (hab : a < b ∨ f = wLe ∧ a = b) :
      Step rules B k C (.app f [l, r]) 0 [] []
  | no {G : AT} {u : PT} (h : ∀ θ, Sat θ C → G.sub θ = u) (hv : u.vars = []) (hd : u.depth ≤ B) : Step rules B k C (.app wNot [G]) 0 [] []
  | keep : Step rules B k C (.app wKeep []) 0 [] []
/-- built from the front -/
inductive Der (rules : List Rule) (B : Nat) (gs0 : List PT) : List Nat → Eqs → List AT → Prop
  | nil : Der rules B gs0 [] [] (gs0.map (lift 0))
  | snoc {w : List Nat} {C C' : Eqs} {g : AT} {gs new : List AT} {n : Nat} : Der rules B gs0 w C (g :: gs) → Step rules B w.length C g n C' new → Der rules B gs0 (w ++ [n]) (C ++ C') (new ++ gs)
/-- gone along -/
inductive Path (rules : List Rule) (B : Nat) (Cend : Eqs) : Nat → Eqs → List AT → List Nat → Prop
  | done {k : Nat} : Path rules B Cend k Cend [] []
  | step {k : Nat} {C C' : Eqs} {g : AT} {gs new : List AT} {n : Nat} {w : List Nat} : Step rules B k C g n C' new → Path rules B Cend (k + 1) (C ++ C') (new ++ gs) w → Path rules B Cend k C (g :: gs) (n :: w)
theorem Der.path {rules : List Rule} {B : Nat} {gs0 : List PT} {w : List Nat} {C Cend : Eqs} {gs : List AT} (d : Der rules B gs0 w C gs) : ∀ w', Path rules B Cend w.length C gs w' → Path rules B Cend 0 [] (gs0.map (lift 0)) (w ++ w') := by
  induction d with
  | nil => intro w' h; exact h
  | @snoc w C C' g gs new n _ hs ih =>
    intro w' h
    rw [List.append_assoc]
    rw [List.length_append, List.length_singleton] at h
    exact ih _ (.step hs h)
theorem Path.grows {rules : List Rule} {B : Nat} {Cend : Eqs} {k : Nat} {C : Eqs} {gs : List AT} {w : List Nat} (p : Path rules B Cend k C gs w) : ∀ q ∈ C, q ∈ Cend := by
  induction p with
  | done => exact fun _ h => h
  | step _ _ ih => exact fun q hq => ih q (List.mem_append_left _ hq)
/-! ### ways in order -/
def LtD (a b : List Nat) : Prop := ∃ p x y a' b', a = p ++ x :: a' ∧ b = p ++ y :: b' ∧ x < y
theorem LtD.more {a b : List Nat} (h : LtD a b) (s : List Nat) : LtD (a ++ s) b := by
  obtain ⟨p, x, y, a', b', h1, h2, h3⟩ := h
  exact ⟨p, x, y, a' ++ s, b', by rw [h1]; simp, h2, h3⟩
theorem LtD.more2 {a b : List Nat} (h : LtD a b) (s : List Nat) : LtD a (b ++ s) := by
  obtain ⟨p, x, y, a', b', h1, h2, h3⟩ := h
  exact ⟨p, x, y, a', b' ++ s, h1, by rw [h2]; simp, h3⟩
/-- what the law asks of an answer -/
structure AnsOk (rules : List Rule) (gs0 : List PT) (asked : List Str) (B : Nat) (an : Ans) : Prop where
  wlen : an.2.length ≤ 20
  it : ∃ (Cend : Eqs) (θ : AV → PT), Path rules B Cend 0 [] (gs0.map (lift 0)) an.2 ∧ Sat θ Cend ∧ (∀ p ∈ Cend, (p.1.sub θ).depth ≤ B ∧ (p.2.sub θ).depth ≤ B) ∧ DomC an.2.length Cend ∧
    an.1 = asked.zip (tolds (asked.map fun x => θ (x, 0))) ∧ (∀ x ∈ asked, (θ (x, 0)).depth ≤ B) ∧ ∀ η, Sat η Cend → ∃ β : Str → PT, ∀ x ∈ asked, η (x, 0) = (θ (x, 0)).sub β
end G35

/-! GM6 -/
set_option Elab.async false
set_option linter.all false
set_option maxRecDepth 10000
/-! The searcher's invariant. -/
namespace G35
open PySem
def Vt (N : List Str) (τ : Nat) : List Str := N ++ (List.range (τ + 1)).flatMap fun k => N.map fun x => mk x k
theorem Vt_succ (N : List Str) (τ : Nat) : Vt N (τ + 1) = Vt N τ ++ N.map fun x => mk x (τ + 1) := by
  unfold Vt
  rw [List.range_succ (n := τ + 1), List.flatMap_append, List.append_assoc]
  simp
theorem Vt_len (N : List Str) (τ : Nat) : (Vt N τ).length = N.length * (τ + 2) := by
  induction τ with
  | zero => unfold Vt; simp; omega
  | succ τ ih => rw [Vt_succ, List.length_append, ih, List.length_map]; rw [Nat.mul_succ N.length (τ + 1 + 1)]
theorem Vt_base {N : List Str} {τ : Nat} {x : Str} (h : x ∈ N) : x ∈ Vt N τ := List.mem_append_left _ h
theorem Vt_mark {N : List Str} {τ k : Nat} {x : Str} (h : x ∈ N) (hk : k ≤ τ) : mk x k ∈ Vt N τ :=
  List.mem_append_right _ (List.mem_flatMap.mpr ⟨k, List.mem_range.mpr (by omega), List.mem_map.mpr ⟨x, h, rfl⟩⟩)
section
variable {V : List Str} {Φ : PT → Prop} {S : List PT} {P : Puts} {σ : Str → PT} {rk : Str → Nat}
theorem Well.more (W : Well V Φ S P σ rk) (X : List Str) {S' : List PT} (hS : ∀ s ∈ S, s ∈ S') : Well (V ++ X) Φ S' P σ rk := by
  refine ⟨W.good, ⟨fun x t e => ?_, ?_⟩, fun x => (W.cov x).mono hS⟩
  · obtain ⟨h1, h2, h3⟩ := W.ins.keys x t e
    exact ⟨List.mem_append_left _ h1, fun y hy => List.mem_append_left _ (h2 y hy), h3⟩
  · have h := W.ins.len
    unfold cnt at h ⊢
    rw [List.filter_append, List.length_append, List.length_append]
    have := List.length_filter_le (fun x => (look P x).isNone) X
    omega
theorem TOk.more {t : PT} (T : TOk V Φ S σ t) (X : List Str) {S' : List PT} (hS : ∀ s ∈ S, s ∈ S') : TOk (V ++ X) Φ S' σ t := ⟨fun y hy => List.mem_append_left _ (T.vars y hy), T.phi, T.cov.mono hS⟩
theorem Well.shp (W : Well V Shp S P σ rk) : ∀ x, Shp (σ x) := W.good.ind (fun x e => by rw [W.good.free x e]; exact Shp.any x) fun x t e ih => by
  rw [W.good.put x t e]
  exact Shp.sub (W.ins.keys x t e).2.2 ih
theorem TOk.read (W : Well V Shp S P σ rk) {t : PT} (T : TOk V Shp S σ t) : TOk V Shp S σ (t.sub σ) := by
  refine ⟨fun y hy => ?_, Shp.sub T.phi fun x _ => W.shp x, T.cov.read ?_⟩
  · rw [Tm.vars_sub] at hy
    obtain ⟨z, hz, hy⟩ := List.mem_flatMap.mp hy
    exact W.vars z (T.vars z hz) y hy
  · exact W.good.through' W.good.sol t
theorem uni1 (W : Well V Shp S P σ rk) (hS : S.length ≤ 4000) (hV : V.length ≤ 9000) {a b : PT} (Ta : TOk V Shp S σ a) (Tb : TOk V Shp S σ b) :
    ∃ r, uniO [(0, a, b)] P = some r ∧ Made V Shp S [(0, a, b)] P σ r := by
  obtain ⟨r, h1, h2⟩ := uni_ok shp_phi hS hV (a0 := a) _ _ [(0, a, b)] P σ rk rfl rfl ⟨W, Ta.cov, ⟨Nat.zero_le _, trivial⟩, fun i hi => by
    rw [List.mem_singleton.mp hi]
    exact ⟨Ta, Tb, .here _⟩⟩
  exact ⟨r, uniO_eq h1, h2⟩
end
/-! ### what the question and the rules are -/
structure COk (N : List Str) (rules : List Rule) (gs0 : List PT) : Prop where
  nlen : N.length ≤ 3
  rlen : rules.length ≤ 7
  rls : ∀ r ∈ rules, (∃ f us, r.1 = .app f us ∧ Named f) ∧ Shp r.1 ∧ (∀ x ∈ r.1.vars, x ∈ N) ∧ r.2.length ≤ 2 ∧ (∀ g ∈ r.2, Shp g ∧ GoalOk g ∧ ∀ x ∈ g.vars, x ∈ N) ∧ r.1.apps.length + (r.2.map fun g => g.apps.length).sum ≤ 12 ∧ r.1.apps.length + (r.2.map fun g => g.apps.length).sum ≤ 5 + 4 * r.2.length
  glen : gs0.length ≤ 2
  gls : ∀ g ∈ gs0, Shp g ∧ GoalOk g ∧ ∀ x ∈ g.vars, x ∈ N ∧ NoDot x
  gapp : (gs0.map fun g => g.apps.length).sum ≤ 8
def Outer (e : Ent) : Prop := ∀ q ∈ e.goals, q.1 ≠ none
structure Mks (n τ : Nat) (t : Nat → Nat) : Prop where
  low : ∀ k, k < n → t k ≤ τ
  up : ∀ j k, j < k → k < n → t j < t k
theorem Mks.marks {n τ : Nat} {t : Nat → Nat} (M : Mks n τ t) (hτ : τ ≤ 20) : Marks n t := ⟨fun k hk => Nat.le_trans (M.low k hk) hτ, fun j k hj hk e => by
  rcases Nat.lt_trichotomy j k with h | h | h
  · have := M.up j k h hk; omega
  · exact h
  · have := M.up k j h hj; omega⟩
def ext (t : Nat → Nat) (n m : Nat) : Nat → Nat := fun k => if k = n then m else t k
theorem Mks.ext {n τ : Nat} {t : Nat → Nat} (M : Mks n τ t) : Mks (n + 1) (τ + 1) (ext t n (τ + 1)) := by
  refine ⟨fun k hk => ?_, fun j k hj hk => ?_⟩
  · unfold G35.ext
    by_cases e : k = n
    · rw [if_pos e]; exact Nat.le_refl _
    · rw [if_neg e]
      have := M.low k (by omega)
      omega
  · unfold G35.ext
    rw [if_neg (by omega)]
    by_cases e : k = n
    · rw [if_pos e]
      have := M.low j (by omega)
      omega
    · rw [if_neg e]
      exact M.up j k hj (by omega)
theorem nu_ext {t : Nat → Nat} {n m : Nat} {a : AV} (h : Dom n a) : nu (ext t n m) a = nu t a := by
  obtain ⟨x, k⟩ := a
  cases k with
  | zero => rfl
  | succ k =>
    show mk x (if k = n then m else t k) = mk x (t k)
    rw [if_neg (Nat.ne_of_lt h)]
theorem conc_ext {t : Nat → Nat} {n m : Nat} {u : AT} (h : DomT n u) : conc (ext t n m) u = conc t u := Tm.sub_congr u fun a ha => by rw [nu_ext (h a ha)]
theorem satC_ext {t : Nat → Nat} {n m : Nat} {C : Eqs} (h : DomC n C) (θ : Str → PT) : SatC (ext t n m) θ C ↔ SatC t θ C := by
  constructor
  · intro z p hp
    have := z p hp
    rw [conc_ext (h p hp).1, conc_ext (h p hp).2] at this
    exact this
  · intro z p hp
    rw [conc_ext (h p hp).1, conc_ext (h p hp).2]
    exact z p hp
theorem satC_app {t : Nat → Nat} {C C' : Eqs} {θ : Str → PT} : SatC t θ (C ++ C') ↔ SatC t θ C ∧ SatC t θ C' := by
  unfold SatC
  simp only [List.mem_append]
  exact ⟨fun h => ⟨fun p hp => h p (.inl hp), fun p hp => h p (.inr hp)⟩, fun h p hp => hp.elim (h.1 p) (h.2 p)⟩
theorem DomT.mono {n m : Nat} {u : AT} (h : DomT n u) (hm : n ≤ m) : DomT m u := fun a ha => (h a ha).mono hm
theorem domT_lift (k : Nat) (g : PT) : DomT (k + 1) (lift (k + 1) g) := fun a ha => by
  unfold lift at ha
  rw [Tm.vars_sub] at ha
  obtain ⟨x, _, ha⟩ := List.mem_flatMap.mp ha
  rw [Tm.vars_any] at ha
  rw [List.mem_singleton.mp ha]
  exact Nat.lt_succ_self k
/-- what is known of a way that was left, with its reading and its apps -/
structure EC (rules : List Rule) (gs0 : List PT) (N : List Str) (τ : Nat) (e : Ent) (σ : Str → PT) (rk : Str → Nat) (S : List PT) : Prop where
  well : Well (Vt N τ) Shp S e.puts σ rk
  slen : S.length ≤ 8 + 12 * e.way.length
  goals : ∀ q ∈ e.goals, ∀ g, q.1 = some g → TOk (Vt N τ) Shp S σ g ∧ GoalOk g
  wlen : e.way.length ≤ τ
  glen : e.goals.length ≤ 4 + 2 * e.way.length
  out : Outer e → ∃ (t : Nat → Nat) (C : Eqs) (gs : List AT), Der rules 200 gs0 e.way C gs ∧ e.goals.map (·.1) = gs.map (fun g => some (conc t g)) ∧ (∀ θ, Sol θ e.puts ↔ SatC t θ C) ∧ Mks e.way.length τ t ∧
    DomC e.way.length C ∧ (∀ g ∈ gs, DomT e.way.length g) ∧ ∀ p ∈ C, Tm.Cov S σ (conc t p.1) ∧ Tm.Cov S σ (conc t p.2)
  sl2 : Outer e → S.length ≤ 8 + 9 * e.way.length + 4 * e.goals.length
def EOk (rules : List Rule) (gs0 : List PT) (N : List Str) (τ : Nat) (e : Ent) : Prop := ∃ σ rk S, EC rules gs0 N τ e σ rk S
section
variable {rules : List Rule} {gs0 : List PT} {N : List Str} {τ : Nat} {e : Ent} {σ : Str → PT} {rk : Str → Nat} {S : List PT}
theorem EC.later (E : EC rules gs0 N τ e σ rk S) : EC rules gs0 N (τ + 1) e σ rk S := by
  refine ⟨by rw [Vt_succ]; exact E.well.more _ fun s h => h, E.slen, fun q hq g hg => ?_, by have := E.wlen; omega, E.glen, fun ho => ?_, E.sl2⟩
  · rw [Vt_succ]
    exact ⟨(E.goals q hq g hg).1.more _ fun s h => h, (E.goals q hq g hg).2⟩
  · obtain ⟨t, C, gs, h1, h2, h3, M, h4⟩ := E.out ho
    exact ⟨t, C, gs, h1, h2, h3, ⟨fun k hk => Nat.le_succ_of_le (M.low k hk), M.up⟩, h4⟩
theorem EC.guard (E : EC rules gs0 N τ e σ rk S) (hN : N.length ≤ 3) (hτ : τ ≤ 20) : EG e := by
  refine ⟨⟨σ, rk, E.well.good⟩, fun x t h => (E.well.ins.keys x t h).2.2, ?_, fun q hq g hg => ⟨(E.goals q hq g hg).1.phi, (E.goals q hq g hg).2⟩, ?_, ?_⟩
  · have h1 := E.well.ins.len
    rw [Vt_len] at h1
    have : N.length * (τ + 2) ≤ 3 * 22 := Nat.mul_le_mul hN (by omega)
    omega
  · have h1 := E.glen
    have h2 := E.wlen
    omega
  · have h2 := E.wlen
    omega
/-- a child by the number 0 -/
theorem EC.zero (E : EC rules gs0 N τ e σ rk S) {g : PT} {h : Nat} {gs : List (Option PT × Nat)} (hg : e.goals = (some g, h) :: gs) {P' : Puts} {σ' : Str → PT} {rk' : Str → Nat} (W' : Well (Vt N τ) Shp S P' σ' rk')
    (cc : ∀ u, Tm.Cov S σ u → Tm.Cov S σ' u)
    (hs : ∀ (t : Nat → Nat) (C : Eqs) (ag : AT), conc t ag = g → (∀ θ, Sol θ e.puts ↔ SatC t θ C) → Mks e.way.length τ t → DomC e.way.length C → DomT e.way.length ag →
      ∃ C', Step rules 200 e.way.length C ag 0 C' [] ∧ (∀ θ, Sol θ P' ↔ Sol θ e.puts ∧ SatC t θ C') ∧ DomC e.way.length C' ∧ ∀ p ∈ C', Tm.Cov S σ' (conc t p.1) ∧ Tm.Cov S σ' (conc t p.2)) :
    EC rules gs0 N (τ + 1) ⟨gs, P', e.way ++ [0]⟩ σ' rk' S := by
  have hl : (e.way ++ [0]).length = e.way.length + 1 := by rw [List.length_append, List.length_singleton]
  refine ⟨by rw [Vt_succ]; exact W'.more _ fun s h => h, ?_, fun q hq g' hg' => ?_, ?_, ?_, fun ho => ?_, fun ho => ?_⟩
  · show S.length ≤ 8 + 12 * (e.way ++ [0]).length
    have := E.slen
    rw [hl]; omega
  · obtain ⟨T, G⟩ := E.goals q (by rw [hg]; exact List.mem_cons_of_mem _ hq) g' hg'
    rw [Vt_succ]
    exact ⟨TOk.more ⟨T.vars, T.phi, cc _ T.cov⟩ _ fun s h => h, G⟩
  · show (e.way ++ [0]).length ≤ τ + 1
    have := E.wlen
    rw [hl]; omega
  · show gs.length ≤ 4 + 2 * (e.way ++ [0]).length
    have := E.glen
    rw [hg, List.length_cons] at this
    rw [hl]; omega
  · obtain ⟨t, C, ags, d, hm, hsol, M, dC, dG, cov⟩ := E.out fun q hq => by
      rw [hg] at hq
      rcases List.mem_cons.mp hq with r | r
      · rw [r]; intro z; cases z
      · exact ho q r
    cases ags with
    | nil => rw [hg] at hm; cases hm
    | cons ag ags =>
      rw [hg] at hm
      simp only [List.map_cons, List.cons.injEq, Option.some.injEq] at hm
      obtain ⟨hm1, hm2⟩ := hm
      obtain ⟨C', st, hs', dC', cov'⟩ := hs t C ag hm1.symm hsol M dC (dG ag (List.mem_cons_self ..))
      have dA : DomC e.way.length (C ++ C') := fun p hp => (List.mem_append.mp hp).elim (dC p) (dC' p)
      refine ⟨ext t e.way.length (τ + 1), C ++ C', ags, d.snoc st, ?_, fun θ => ?_, ?_, ?_, ?_, ?_⟩
      · show gs.map (·.1) = _
        rw [hm2]
        exact List.map_congr_left fun a ha => by rw [conc_ext (dG a (List.mem_cons_of_mem _ ha))]
      · rw [satC_ext dA, satC_app]
        show Sol θ P' ↔ _
        rw [hs', hsol]
      · show Mks (e.way ++ [0]).length _ _
        rw [hl]
        exact M.ext
      · intro p hp
        show DomT (e.way ++ [0]).length p.1 ∧ DomT (e.way ++ [0]).length p.2
        rw [hl]
        exact ⟨(dA p hp).1.mono (Nat.le_succ _), (dA p hp).2.mono (Nat.le_succ _)⟩
      · intro a ha
        show DomT (e.way ++ [0]).length a
        rw [hl]
        exact (dG a (List.mem_cons_of_mem _ ha)).mono (Nat.le_succ _)
      · intro p hp
        rw [conc_ext (dA p hp).1, conc_ext (dA p hp).2]
        rcases List.mem_append.mp hp with hp | hp
        · exact ⟨cc _ (cov p hp).1, cc _ (cov p hp).2⟩
        · exact cov' p hp
  · show S.length ≤ 8 + 9 * (e.way ++ [0]).length + 4 * gs.length
    have := E.sl2 fun q hq => by
      rw [hg] at hq
      rcases List.mem_cons.mp hq with r | r
      · rw [r]; intro z; cases z
      · exact ho q r
    rw [hg, List.length_cons] at this
    rw [hl]; omega
/-- the way within a not -/
theorem EC.inner (E : EC rules gs0 N τ e σ rk S) {G : PT} {hh : Nat} (T : TOk (Vt N τ) Shp S σ G) (GG : GoalOk G) : EC rules gs0 N (τ + 1) ⟨[(some G, hh), (none, hh)], e.puts, e.way ++ [0]⟩ σ rk S := by
  have hl : (e.way ++ [0]).length = e.way.length + 1 := by rw [List.length_append, List.length_singleton]
  refine ⟨by rw [Vt_succ]; exact E.well.more _ fun s h => h, ?_, fun q hq g' hg' => ?_, ?_, ?_, fun ho => absurd rfl (ho (none, hh) (by simp)), fun ho => absurd rfl (ho (none, hh) (by simp))⟩
  · show S.length ≤ 8 + 12 * (e.way ++ [0]).length
    have := E.slen
    rw [hl]; omega
  · rcases List.mem_cons.mp hq with r | r
    · rw [r] at hg'
      cases hg'
      rw [Vt_succ]
      exact ⟨T.more _ fun s h => h, GG⟩
    · rw [List.mem_singleton.mp r] at hg'
      cases hg'
  · show (e.way ++ [0]).length ≤ τ + 1
    have := E.wlen
    rw [hl]; omega
  · show 2 ≤ 4 + 2 * (e.way ++ [0]).length
    omega
theorem apps_ren {r : Str → Str} : ∀ t : PT, (t.sub fun x => .any (r x)).apps.length = t.apps.length := by
  refine Tm.ind (fun n => by rw [Tm.sub_num]) (fun x => by rw [Tm.sub_any, Tm.apps_any, Tm.apps_any]) fun f ks ih => ?_
  rw [Tm.sub_app, Tm.apps_app, Tm.apps_app, List.length_cons, List.length_cons]
  congr 1
  induction ks with
  | nil => rfl
  | cons a l ihl => rw [List.map_cons, List.flatMap_cons, List.flatMap_cons, List.length_append, List.length_append, ih a (List.mem_cons_self ..), ihl fun k hk => ih k (List.mem_cons_of_mem _ hk)]
theorem vars_mark {n : Nat} {t : PT} {x : Str} (h : x ∈ (markT n t).vars) : ∃ y ∈ t.vars, x = mk y n := by
  unfold markT at h
  rw [Tm.vars_sub] at h
  obtain ⟨y, hy, h⟩ := List.mem_flatMap.mp h
  rw [Tm.vars_any] at h
  exact ⟨y, hy, List.mem_singleton.mp h⟩
theorem shp_mark {n : Nat} {t : PT} (h : Shp t) : Shp (markT n t) := Shp.sub h fun x _ => Shp.any _
def ruleApps (n : Nat) (r : Rule) : List PT := (markT n r.1).apps ++ r.2.flatMap fun g => (markT n g).apps
theorem ruleApps_len (n : Nat) (r : Rule) : (ruleApps n r).length = r.1.apps.length + (r.2.map fun g => g.apps.length).sum := by
  unfold ruleApps
  rw [List.length_append]
  have e1 : (markT n r.1).apps.length = r.1.apps.length := apps_ren r.1
  rw [e1]
  congr 1
  induction r.2 with
  | nil => rfl
  | cons a l ih =>
    have e2 : (markT n a).apps.length = a.apps.length := apps_ren a
    rw [List.flatMap_cons, List.length_append, ih, List.map_cons, List.sum_cons, e2]
/-- a child by a rule -/
theorem EC.rule (E : EC rules gs0 N τ e σ rk S) (hN : N.length ≤ 3) (hτ : τ < 20) {g : PT} {h : Nat} {gs : List (Option PT × Nat)} (hg : e.goals = (some g, h) :: gs) {i : Nat} {r : Rule} (hr : rules[i]? = some r) (hC : COk N rules gs0)
    {f : Str} {ks : List PT} (eg : g.sub σ = .app f ks) (hw : sameWord r.1 (.app f ks)) (hf : Named f) (ht : Nat) :
    ∃ R, uniO [(0, markT (τ + 1) r.1, .app f ks)] e.puts = some R ∧ ∀ P', R = some P' → EOk rules gs0 N (τ + 1) ⟨r.2.map (fun q => (some (markT (τ + 1) q), ht)) ++ gs, P', e.way ++ [i + 1]⟩ := by
  obtain ⟨⟨f', us, er, _⟩, sh, vh, bl, bs, ap, ap2⟩ := hC.rls r (List.mem_of_getElem? hr)
  have hl : (e.way ++ [i + 1]).length = e.way.length + 1 := by rw [List.length_append, List.length_singleton]
  obtain ⟨hw1, hw2⟩ : f' = f ∧ us.length = ks.length := by
    unfold sameWord at hw
    rw [er] at hw
    exact hw
  subst hw1
  obtain ⟨Tg, Gg⟩ := E.goals _ (by rw [hg]; exact List.mem_cons_self ..) g rfl
  -- the apps with the rule's
  have hSS : ∀ s ∈ S, s ∈ S ++ ruleApps (τ + 1) r := fun s hs => List.mem_append_left _ hs
  have W : Well (Vt N (τ + 1)) Shp (S ++ ruleApps (τ + 1) r) e.puts σ rk := by
    rw [Vt_succ]
    exact E.well.more _ hSS
  have Sl : (S ++ ruleApps (τ + 1) r).length ≤ 8 + 12 * (e.way.length + 1) := by
    rw [List.length_append, ruleApps_len]
    have := E.slen
    omega
  have wl := E.wlen
  have Vl : (Vt N (τ + 1)).length ≤ 9000 := by
    rw [Vt_len]
    have : N.length * (τ + 1 + 2) ≤ 3 * 22 := Nat.mul_le_mul hN (by omega)
    omega
  have inst : ∀ u : PT, Shp u → (∀ x ∈ u.vars, x ∈ N) → (∀ s ∈ (markT (τ + 1) u).apps, s ∈ ruleApps (τ + 1) r) → TOk (Vt N (τ + 1)) Shp (S ++ ruleApps (τ + 1) r) σ (markT (τ + 1) u) := fun u hu hv ha => by
    refine ⟨fun y hy => ?_, shp_mark hu, Tm.Cov.of (fun s hs => List.mem_append_right _ (ha s hs)) fun x _ => W.cov x⟩
    obtain ⟨x, hx, e1⟩ := vars_mark hy
    rw [e1]
    exact Vt_mark (hv x hx) (Nat.le_refl _)
  have Th := inst r.1 sh vh fun s hs => List.mem_append_left _ hs
  have Tb : ∀ q ∈ r.2, TOk (Vt N (τ + 1)) Shp (S ++ ruleApps (τ + 1) r) σ (markT (τ + 1) q) := fun q hq => inst q (bs q hq).1 (bs q hq).2.2 fun s hs => List.mem_append_right _ (List.mem_flatMap.mpr ⟨q, hq, hs⟩)
  have Tg' : TOk (Vt N (τ + 1)) Shp (S ++ ruleApps (τ + 1) r) σ (.app f' ks) := by
    have z := (TOk.read E.well Tg).more (N.map fun x => G35.mk x (τ + 1)) hSS
    rw [eg] at z
    rw [Vt_succ]
    exact z
  obtain ⟨R, hR, mR⟩ := uni1 W (by omega) Vl Th Tg'
  refine ⟨R, hR, fun P' eP => ?_⟩
  rw [eP] at mR
  obtain ⟨σ', rk', W', cc, hs⟩ := mR
  refine ⟨σ', rk', S ++ ruleApps (τ + 1) r, W', by show _ ≤ 8 + 12 * (e.way ++ [i + 1]).length; rw [hl]; exact Sl, fun q hq g' hg' => ?_, by show (e.way ++ [i + 1]).length ≤ _; rw [hl]; omega, ?_, fun ho => ?_, fun ho => ?_⟩
  · rcases List.mem_append.mp hq with hq | hq
    · obtain ⟨b, hb, rfl⟩ := List.mem_map.mp hq
      cases hg'
      have z := Tb b hb
      exact ⟨⟨z.vars, z.phi, cc _ z.cov⟩, (bs b hb).2.1.sub⟩
    · obtain ⟨T, G⟩ := E.goals q (by rw [hg]; exact List.mem_cons_of_mem _ hq) g' hg'
      have z := T.more (N.map fun x => G35.mk x (τ + 1)) hSS
      rw [← Vt_succ] at z
      exact ⟨⟨z.vars, z.phi, cc _ z.cov⟩, G⟩
  · show (r.2.map _ ++ gs).length ≤ 4 + 2 * (e.way ++ [i + 1]).length
    have := E.glen
    rw [hg, List.length_cons] at this
    rw [List.length_append, List.length_map, hl]
    omega
  · obtain ⟨t, C, ags, d, hm, hsol, M, dC, dG, cov⟩ := E.out fun q hq => by
      rw [hg] at hq
      rcases List.mem_cons.mp hq with z | z
      · rw [z]; intro z; cases z
      · exact ho q (List.mem_append_right _ z)
    cases ags with
    | nil => rw [hg] at hm; cases hm
    | cons ag ags =>
      rw [hg] at hm
      simp only [List.map_cons, List.cons.injEq, Option.some.injEq] at hm
      obtain ⟨hm1, hm2⟩ := hm
      -- the abstract goal is an app of this word
      obtain ⟨aks, ea, hal⟩ : ∃ aks, ag = .app f' aks ∧ us.length = aks.length := by
        obtain ⟨f2, k2, e2, _⟩ := Gg
        rw [e2, Tm.sub_app] at eg
        injection eg with eg1 eg2
        cases ag with
        | num n => rw [hm1] at e2; unfold conc at e2; rw [Tm.sub_num] at e2; cases e2
        | any x =>
          rw [hm1] at e2
          unfold conc at e2
          rw [Tm.sub_any] at e2
          cases e2
        | app f3 k3 =>
          rw [hm1] at e2
          unfold conc at e2
          rw [Tm.sub_app] at e2
          injection e2 with e3 e4
          refine ⟨k3, by rw [e3, eg1], ?_⟩
          rw [hw2, ← eg2, ← e4, List.length_map, List.length_map]
      have st : Step rules 200 e.way.length C ag (i + 1) [(ag, lift (e.way.length + 1) r.1)] (r.2.map (lift (e.way.length + 1))) := by
        rw [ea, er]
        refine Step.rule ?_ hf hal
        rw [hr]
        exact congrArg some (Prod.ext er rfl)
      have dag := dG ag (List.mem_cons_self ..)
      have ce : ∀ u : PT, conc (ext t e.way.length (τ + 1)) (lift (e.way.length + 1) u) = markT (τ + 1) u := fun u => by
        rw [conc_lift]
        show markT (if e.way.length = e.way.length then τ + 1 else t e.way.length) u = _
        rw [if_pos rfl]
      refine ⟨ext t e.way.length (τ + 1), C ++ [(ag, lift (e.way.length + 1) r.1)], r.2.map (lift (e.way.length + 1)) ++ ags, d.snoc st, ?_, fun θ => ?_, ?_, ?_, ?_, ?_⟩
      · show (r.2.map (fun q => (some (markT (τ + 1) q), ht)) ++ gs).map (·.1) = _
        rw [List.map_append, List.map_append, hm2, List.map_map, List.map_map]
        congr 1
        · exact List.map_congr_left fun q _ => by
            show some (markT (τ + 1) q) = some (conc _ (lift (e.way.length + 1) q))
            rw [ce]
        · exact List.map_congr_left fun a ha => by rw [conc_ext (dG a (List.mem_cons_of_mem _ ha))]
      · show Sol θ P' ↔ _
        rw [satC_app, satC_ext dC, hs, ← hsol]
        refine and_congr_right fun hθ => ?_
        have e5 : (Tm.app f' ks : PT).sub θ = g.sub θ := by rw [← eg]; exact E.well.good.through' hθ g
        constructor
        · intro z p hp
          rw [List.mem_singleton.mp hp]
          have z1 : (markT (τ + 1) r.1).sub θ = (Tm.app f' ks : PT).sub θ := z _ (List.mem_singleton.mpr rfl)
          show (conc _ ag).sub θ = (conc _ (lift (e.way.length + 1) r.1)).sub θ
          rw [ce, conc_ext dag, ← hm1, z1, e5]
        · intro z j hj
          rw [List.mem_singleton.mp hj]
          have z1 : (conc _ ag).sub θ = (conc _ (lift (e.way.length + 1) r.1)).sub θ := z _ (List.mem_singleton.mpr rfl)
          rw [ce, conc_ext dag, ← hm1] at z1
          show (markT (τ + 1) r.1).sub θ = (Tm.app f' ks : PT).sub θ
          rw [e5, z1]
      · show Mks (e.way ++ [i + 1]).length _ _
        rw [hl]
        exact M.ext
      · intro p hp
        show DomT (e.way ++ [i + 1]).length p.1 ∧ DomT (e.way ++ [i + 1]).length p.2
        rw [hl]
        rcases List.mem_append.mp hp with hp | hp
        · exact ⟨(dC p hp).1.mono (Nat.le_succ _), (dC p hp).2.mono (Nat.le_succ _)⟩
        · rw [List.mem_singleton.mp hp]
          exact ⟨dag.mono (Nat.le_succ _), domT_lift _ _⟩
      · intro a ha
        show DomT (e.way ++ [i + 1]).length a
        rw [hl]
        rcases List.mem_append.mp ha with ha | ha
        · obtain ⟨q, _, rfl⟩ := List.mem_map.mp ha
          exact domT_lift _ _
        · exact (dG a (List.mem_cons_of_mem _ ha)).mono (Nat.le_succ _)
      · intro p hp
        rcases List.mem_append.mp hp with hp | hp
        · rw [conc_ext (dC p hp).1, conc_ext (dC p hp).2]
          exact ⟨cc _ ((cov p hp).1.mono hSS), cc _ ((cov p hp).2.mono hSS)⟩
        · rw [List.mem_singleton.mp hp]
          refine ⟨?_, ?_⟩
          · rw [conc_ext dag, ← hm1]
            exact cc _ (Tg.cov.mono hSS)
          · show Tm.Cov _ σ' (conc _ (lift (e.way.length + 1) r.1))
            rw [ce]
            exact cc _ Th.cov
  · show (S ++ ruleApps (τ + 1) r).length ≤ 8 + 9 * (e.way ++ [i + 1]).length + 4 * (r.2.map (fun q => (some (markT (τ + 1) q), ht)) ++ gs).length
    have := E.sl2 fun q hq => by
      rw [hg] at hq
      rcases List.mem_cons.mp hq with z | z
      · rw [z]; intro z; cases z
      · exact ho q (List.mem_append_right _ z)
    rw [hg, List.length_cons] at this
    rw [hl, List.length_append, ruleApps_len, List.length_append, List.length_map]
    omega
end
end G35

/-! GM7 -/
set_option Elab.async false
set_option linter.all false
set_option maxRecDepth 10000
/-! The searcher keeps its invariant, ends, and tells what the law asks. -/
namespace G35
open PySem
def faultW : List Str := [Str.ofString "open", Str.ofString "kind", Str.ofString "nought", Str.ofString "far"]
def faultS : List Str := [wAsg, wLt, wLe, wNot]
/-- how a run may have ended -/
def FinOk (c : Cfg) (s : SSt) : Prop := match s.fin with
  | none => s.given.length < c.most
  | some .enough => s.given.length = c.most
  | some .spent => s.given.length < c.most ∧ s.taken = c.bound
  | some (.fault w g) => s.given.length < c.most ∧ w ∈ faultW ∧ ∃ f ks, g = .app f ks ∧ f ∈ faultS ∧ (Ar g ∧ g.depth ≤ 60)
  | some _ => s.given.length < c.most
structure SInv (c : Cfg) (gs0 : List PT) (N : List Str) (s : SSt) : Prop where
  tak : s.taken ≤ c.bound
  ents : ∀ e ∈ s.left, EOk c.rules gs0 N s.taken e
  llen : s.left.length ≤ 1 + 8 * s.taken
  ord : s.left.Pairwise fun lo hi => Outer lo → Outer hi → LtD hi.way lo.way
  giv : ∀ an ∈ s.given, AnsOk c.rules gs0 c.asked 200 an ∧ ∀ e ∈ s.left, Outer e → LtD an.2 e.way
  gord : s.given.Pairwise fun a b => LtD a.2 b.2
  fin : FinOk c s
structure CfgOk (c : Cfg) (gs0 : List PT) (N : List Str) : Prop where
  ok : COk N c.rules gs0
  asked : c.asked = firsts (varsT gs0)
  bound : c.bound ≤ 20
  most : 1 ≤ c.most ∧ c.most ≤ 40
section
variable {c : Cfg} {gs0 : List PT} {N : List Str} {s : SSt}
theorem CfgOk.nodot (K : CfgOk c gs0 N) {x : Str} (h : x ∈ c.asked) : NoDot x := by
  rw [K.asked] at h
  obtain ⟨g, hg, hx⟩ := List.mem_flatMap.mp (mem_firsts.mp h)
  exact ((K.ok.gls g hg).2.2 x hx).2
/-- an answer -/
theorem EC.answer (K : CfgOk c gs0 N) {τ : Nat} {e : Ent} {σ : Str → PT} {rk : Str → Nat} {S : List PT} (E : EC c.rules gs0 N τ e σ rk S) (hτ : τ ≤ 20) (hg : e.goals = []) :
    AnsOk c.rules gs0 c.asked 200 (c.asked.zip (tolds (c.asked.map (full e.puts))), e.way) := by
  obtain ⟨t, C, gs, d, hm, hsol, M, dC, dG, cov⟩ := E.out fun q hq => by rw [hg] at hq; cases hq
  have hgs : gs = [] := by
    rw [hg] at hm
    cases gs with
    | nil => rfl
    | cons a l => cases hm
  subst hgs
  have wl := E.wlen
  have sl := E.sl2 fun q hq => by rw [hg] at hq; cases hq
  rw [hg, List.length_nil] at sl
  have Mk' := M.marks hτ
  refine ⟨Nat.le_trans wl hτ, C, fun a => σ (nu t a), ?_, ?_, fun p hp => ?_, dC, ?_, fun x hx => ?_, fun η hη => ⟨fun y => η (back e.way.length t y), fun x hx => ?_⟩⟩
  · have := d.path [] .done
    rw [List.append_nil] at this
    exact this
  · exact satC_iff.mp ((hsol σ).mp E.well.good.sol)
  · have h1 := (cov p hp).1.depth
    have h2 := (cov p hp).2.depth
    rw [conc_sub] at h1 h2
    exact ⟨by omega, by omega⟩
  · show c.asked.zip (tolds (c.asked.map (full e.puts))) = _
    rw [full_eq E.well.good]
    rfl
  · have h1 := (E.well.cov x).depth
    rw [Tm.sub_any] at h1
    show (σ x).depth ≤ 200
    omega
  · have hs := (hsol _).mpr (sat_back Mk' dC hη)
    have h1 := E.well.good.through hs x
    show η (x, 0) = (σ x).sub _
    rw [h1]
    have hd : Dom e.way.length (x, 0) := K.nodot hx
    have h2 := back_nu Mk' hd
    show η (x, 0) = η (back e.way.length t x)
    rw [show back e.way.length t x = (x, 0) from h2]
theorem outer_more {g : PT} {h : Nat} {gs : List (Option PT × Nat)} {e : Ent} (hg : e.goals = (some g, h) :: gs) {gs' : List (Option PT × Nat)} (hs : ∀ q ∈ gs, q ∈ gs') {P : Puts} {w : List Nat} (ho : Outer ⟨gs', P, w⟩) : Outer e := fun q hq => by
  rw [hg] at hq
  rcases List.mem_cons.mp hq with r | r
  · rw [r]; intro z; cases z
  · exact ho q (hs q r)
theorem told1_shape {f : Str} {ks : List PT} (h : Ar (.app f ks)) (hs : (Tm.app f ks : PT).size ≤ 40) : ∃ ls, told1 (.app f ks) = .app f ls ∧ Ar (told1 (.app f ks)) ∧ (told1 (.app f ks)).depth ≤ 60 := by
  refine ⟨_, Tm.sub_app .., Ar.sub h fun x _ => Ar.any _, ?_⟩
  have h1 := Tm.depth_le_size (.app f ks : PT)
  -- renaming keeps the depth
  have key : ∀ (r : Str → Str) (t : PT), (t.sub fun x => .any (r x)).depth = t.depth := fun r => by
    refine Tm.ind (fun n => by rw [Tm.sub_num]) (fun x => by rw [Tm.sub_any, Tm.depth_any, Tm.depth_any]) fun f ks ih => ?_
    rw [Tm.sub_app, Tm.depth_app, Tm.depth_app]
    congr 1
    refine Nat.le_antisymm (Tm.depthL_le.mpr fun k hk => ?_) (Tm.depthL_le.mpr fun k hk => ?_)
    · obtain ⟨k', hk', rfl⟩ := List.mem_map.mp hk
      rw [ih k' hk']
      exact Tm.depthL_le.mp (Nat.le_refl _) k' hk'
    · rw [← ih k hk]
      exact Tm.depthL_le.mp (Nat.le_refl _) _ (List.mem_map.mpr ⟨k, hk, rfl⟩)
  unfold told1 toldBy
  rw [key]
  omega
/-- the words of a fault -/
theorem reck_word {α : Type} {u : Tm α} {w : Str} (h : reck u = .inr w) : w ∈ faultW := by
  unfold reck at h
  split at h
  · cases h
  · cases h; simp [faultW]
  · split at h
    · unfold doneM at h
      split at h
      · cases h
      · split at h
        · cases h
        · split at h
          · cases h
          · split at h
            · cases h; simp [faultW]
            · split at h <;> cases h
    · cases h; simp [faultW]
  · cases h; simp [faultW]
theorem ground_read {n : Nat} {t : Nat → Nat} (M : Marks n t) {C : Eqs} (dC : DomC n C) {P : Puts} {σ : Str → PT} {rk : Str → Nat} (G : Good P σ rk) (hsol : ∀ θ, Sol θ P ↔ SatC t θ C) {a : AT} (da : DomT n a) (hv : ((conc t a).sub σ).vars = []) :
    ∀ θ, Sat θ C → a.sub θ = (conc t a).sub σ := fun θ hθ => by
  have h1 := (hsol _).mpr (sat_back M dC hθ)
  have h2 := G.through' h1 (conc t a)
  rw [back_sub M da] at h2
  rw [← h2]
  exact Tm.sub_ground_id hv _
/-- the children of a deed -/
theorem EC.deed (K : CfgOk c gs0 N) {τ : Nat} {e : Ent} {σ : Str → PT} {rk : Str → Nat} {S : List PT} (E : EC c.rules gs0 N τ e σ rk S) (hτ : τ < 20) {g : PT} {h : Nat} {gs : List (Option PT × Nat)} (hg : e.goals = (some g, h) :: gs) {f : Str} {l r : PT}
    (eg : g.sub σ = .app f [l, r]) (hf : f ∈ deedW) :
    ∃ R, deedF f l r e.puts = some R ∧ (∀ w, R = .inr w → w ∈ faultW ∧ f ∈ faultS) ∧ ∀ P', R = .inl (some P') → EOk c.rules gs0 N (τ + 1) ⟨gs, P', e.way ++ [0]⟩ := by
  obtain ⟨Tg, Gg⟩ := E.goals _ (by rw [hg]; exact List.mem_cons_self ..) g rfl
  have Tg' := TOk.read E.well Tg
  rw [eg] at Tg'
  have hl : l ∈ [l, r] := List.mem_cons_self ..
  have hr : r ∈ [l, r] := List.mem_cons_of_mem _ (List.mem_cons_self ..)
  have kid : ∀ k ∈ [l, r], TOk (Vt N τ) Shp S σ k := fun k hk => ⟨fun y hy => Tg'.vars y (by rw [Tm.vars_app]; exact List.mem_flatMap.mpr ⟨k, hk, hy⟩), Tg'.phi.kid hk, Tg'.cov.kid hk⟩
  have wl := E.wlen
  have sl := E.slen
  have Vl : (Vt N τ).length ≤ 9000 := by
    rw [Vt_len]
    have : N.length * (τ + 2) ≤ 3 * 22 := Nat.mul_le_mul K.ok.nlen (by omega)
    omega
  -- the abstract goal
  have abs : ∀ (t : Nat → Nat) (ag : AT), conc t ag = g → DomT e.way.length ag → ∃ al ar, ag = .app f [al, ar] ∧ (conc t al).sub σ = l ∧ (conc t ar).sub σ = r ∧ DomT e.way.length al ∧ DomT e.way.length ar := fun t ag ha hd => by
    rw [← ha, conc_sub] at eg
    cases ag with
    | num n => rw [Tm.sub_num] at eg; cases eg
    | any x =>
      obtain ⟨f2, k2, e2, _⟩ := Gg
      rw [← ha] at e2
      unfold conc at e2
      rw [Tm.sub_any] at e2
      cases e2
    | app f2 k2 =>
      rw [Tm.sub_app] at eg
      injection eg with e1 e2
      match k2, e2, hd with
      | [], e2, _ => cases e2
      | [_], e2, _ => cases e2
      | _ :: _ :: _ :: _, e2, _ => simp at e2
      | [al, ar], e2, hd =>
        simp only [List.map_cons, List.map_nil, List.cons.injEq, and_true] at e2
        exact ⟨al, ar, by rw [e1], by rw [conc_sub]; exact e2.1, by rw [conc_sub]; exact e2.2, fun a h2 => hd a (by rw [Tm.vars_app]; exact List.mem_flatMap.mpr ⟨al, List.mem_cons_self .., h2⟩),
          fun a h2 => hd a (by rw [Tm.vars_app]; exact List.mem_flatMap.mpr ⟨ar, List.mem_cons_of_mem _ (List.mem_cons_self ..), h2⟩)⟩
  -- what is made one with l
  have made : ∀ (b : PT) (ab : (Nat → Nat) → AT → AT), TOk (Vt N τ) Shp S σ b →
      (∀ (t : Nat → Nat) (C : Eqs) (al ar : AT), conc t (.app f [al, ar]) = g → (∀ θ, Sol θ e.puts ↔ SatC t θ C) → Mks e.way.length τ t → DomC e.way.length C → DomT e.way.length al → DomT e.way.length ar → (conc t al).sub σ = l → (conc t ar).sub σ = r →
        Step c.rules 200 e.way.length C (.app f [al, ar]) 0 [(al, ab t ar)] [] ∧ (conc t (ab t ar)).sub σ = b ∧ DomT e.way.length (ab t ar) ∧ Tm.Cov S σ (conc t (ab t ar))) →
      ∃ R, uniO [(0, l, b)] e.puts = some R ∧ ∀ P', R = some P' → EOk c.rules gs0 N (τ + 1) ⟨gs, P', e.way ++ [0]⟩ := fun b ab Tb hst => by
    obtain ⟨R, hR, mR⟩ := uni1 E.well (by omega) Vl (kid l hl) Tb
    refine ⟨R, hR, fun P' eP => ?_⟩
    rw [eP] at mR
    obtain ⟨σ', rk', W', cc, hs⟩ := mR
    refine ⟨σ', rk', S, E.zero hg W' cc fun t C ag ha hsol M dC dA => ?_⟩
    obtain ⟨al, ar, rfl, h1, h2, d1, d2⟩ := abs t ag ha dA
    obtain ⟨st, h3, d3, c3⟩ := hst t C al ar ha hsol M dC d1 d2 h1 h2
    refine ⟨_, st, fun θ => ?_, fun p hp => ?_, fun p hp => ?_⟩
    · rw [hs]
      refine and_congr_right fun hθ => ?_
      have e1 : l.sub θ = (conc t al).sub θ := by rw [← h1]; exact E.well.good.through' hθ _
      have e2 : b.sub θ = (conc t (ab t ar)).sub θ := by rw [← h3]; exact E.well.good.through' hθ _
      constructor
      · intro z p hp
        rw [List.mem_singleton.mp hp]
        have := z _ (List.mem_singleton.mpr rfl)
        show (conc t al).sub θ = (conc t (ab t ar)).sub θ
        rw [← e1, ← e2]
        exact this
      · intro z p hp
        rw [List.mem_singleton.mp hp]
        have := z _ (List.mem_singleton.mpr rfl)
        show l.sub θ = b.sub θ
        rw [e1, e2]
        exact this
    · rw [List.mem_singleton.mp hp]
      exact ⟨d1, d3⟩
    · rw [List.mem_singleton.mp hp]
      refine ⟨cc _ ?_, cc _ c3⟩
      exact (kid l hl).cov.read (by
        show (conc t al).sub σ = l.sub σ
        rw [← h1]
        exact (E.well.good.through' E.well.good.sol _).symm)
  have covr : ∀ (t : Nat → Nat) (u : AT) (v : PT), (conc t u).sub σ = v → Tm.Cov S σ v → Tm.Cov S σ (conc t u) := fun t u v h1 hc => hc.read (by rw [← h1]; exact (E.well.good.through' E.well.good.sol _).symm)
  unfold deedF
  by_cases f1 : f = wEq
  · rw [if_pos f1]
    obtain ⟨R, hR, hk⟩ := made r (fun _ ar => ar) (kid r hr) fun t C al ar _ _ _ _ _ d2 _ h2 => ⟨by rw [f1]; exact Step.eq, h2, d2, covr t ar r h2 (kid r hr).cov⟩
    rw [hR]
    exact ⟨.inl R, rfl, (fun w z => nomatch z), fun P' z => hk P' (by injection z)⟩
  · rw [if_neg f1]
    by_cases f2 : f = wAsg
    · rw [if_pos f2]
      cases hv : reck r with
      | inr w => exact ⟨.inr w, rfl, (fun w' z => by cases z; exact ⟨reck_word hv, by rw [f2]; simp [faultS]⟩), (fun P' z => nomatch z)⟩
      | inl v =>
        have nT : TOk (Vt N τ) Shp S σ (.num v) := ⟨(fun y hy => by rw [Tm.vars_num] at hy; exact nomatch hy), Shp.num v, (fun u hu => by rw [Tm.sub_num, Tm.apps_num] at hu; exact nomatch hu)⟩
        obtain ⟨R, hR, hk⟩ := made (.num v) (fun _ _ => .num v) nT fun t C al ar _ hsol M dC _ d2 _ h2 => by
          have gr := ground_read (M.marks (by omega)) dC E.well.good hsol d2 (by rw [h2]; exact (reck_ground hv).1)
          refine ⟨by rw [f2]; exact Step.asg gr (by rw [h2]; exact hv), (by unfold conc; rw [Tm.sub_num, Tm.sub_num]), (fun a ha => by rw [Tm.vars_num] at ha; exact nomatch ha), (fun u hu => by
            unfold conc at hu
            rw [Tm.sub_num, Tm.sub_num, Tm.apps_num] at hu
            exact nomatch hu)⟩
        simp only [hR]
        exact ⟨.inl R, rfl, (fun w z => nomatch z), fun P' z => hk P' (by injection z)⟩
    · rw [if_neg f2]
      have f3 : f = wLt ∨ f = wLe := by
        simp only [deedW, List.mem_cons, List.not_mem_nil, or_false] at hf
        rcases hf with h | h | h | h
        · exact absurd h f1
        · exact absurd h f2
        · exact .inl h
        · exact .inr h
      have fS : f ∈ faultS := by rcases f3 with h | h <;> (rw [h]; simp [faultS])
      cases ha : reck l with
      | inr w => exact ⟨.inr w, rfl, (fun w' z => by cases z; exact ⟨reck_word ha, fS⟩), (fun P' z => nomatch z)⟩
      | inl a =>
        cases hb : reck r with
        | inr w => exact ⟨.inr w, rfl, (fun w' z => by cases z; exact ⟨reck_word hb, fS⟩), (fun P' z => nomatch z)⟩
        | inl b =>
          by_cases hab : a < b ∨ f = wLe ∧ a = b
          · simp only [if_pos hab]
            refine ⟨_, rfl, (fun w z => nomatch z), fun P' z => ?_⟩
            cases z
            refine ⟨σ, rk, S, E.zero hg E.well (fun _ h => h) fun t C ag ha' hsol M dC dA => ?_⟩
            obtain ⟨al, ar, rfl, h1, h2, d1, d2⟩ := abs t ag ha' dA
            have g1 := ground_read (M.marks (by omega)) dC E.well.good hsol d1 (by rw [h1]; exact (reck_ground ha).1)
            have g2 := ground_read (M.marks (by omega)) dC E.well.good hsol d2 (by rw [h2]; exact (reck_ground hb).1)
            exact ⟨[], Step.less f3 g1 g2 (by rw [h1]; exact ha) (by rw [h2]; exact hb) hab, fun θ => ⟨fun h => ⟨h, fun p hp => nomatch hp⟩, fun h => h.1⟩, (fun p hp => nomatch hp), (fun p hp => nomatch hp)⟩
          · simp only [if_neg hab]
            exact ⟨_, rfl, (fun w z => nomatch z), (fun P' z => nomatch z)⟩
end
end G35

/-! GM8 -/
set_option Elab.async false
set_option linter.all false
set_option maxRecDepth 10000
/-! A step keeps the invariant; the run ends. -/
namespace G35
open PySem
section
variable {c : Cfg} {gs0 : List PT} {N : List Str} {s : SSt}
theorem SInv.guard (K : CfgOk c gs0 N) (I : SInv c gs0 N s) : SG s := by
  have h1 := I.tak
  have h2 := K.bound
  have h3 := I.llen
  refine ⟨fun e he => ?_, by omega, by omega, ?_⟩
  · obtain ⟨σ, rk, S, E⟩ := I.ents e he
    exact E.guard K.ok.nlen (by omega)
  · have h4 := I.fin
    have h5 := K.most.2
    unfold FinOk at h4
    split at h4
    · omega
    · omega
    · omega
    · omega
    · omega
theorem pw_top {α : Type} {R : α → α → Prop} {l : List α} {e : α} (h : (l ++ [e]).Pairwise R) : l.Pairwise R ∧ ∀ a ∈ l, R a e := by
  rw [List.pairwise_append] at h
  exact ⟨h.1, fun a ha => h.2.2 a ha e (List.mem_singleton.mpr rfl)⟩
/-- the ways left below, some new ones on top -/
theorem SInv.push (I : SInv c gs0 N s) {low : List Ent} {e : Ent} (hl : s.left = low ++ [e]) (hb : s.taken < c.bound) {base : List Ent} (hbase : base.Sublist low) {top : List Ent} (ht : ∀ x ∈ top, EOk c.rules gs0 N (s.taken + 1) x)
    (hn : top.length ≤ 8) (ho : ∀ x ∈ top, Outer x → Outer e ∧ ∃ n, x.way = e.way ++ [n]) (hp : top.Pairwise fun lo hi => Outer lo → Outer hi → LtD hi.way lo.way) (hf : s.fin = none) :
    SInv c gs0 N { s with left := base ++ top, taken := s.taken + 1 } := by
  have hsub : ∀ x ∈ base, x ∈ s.left := fun x hx => by rw [hl]; exact List.mem_append_left _ (hbase.subset hx)
  have ho1 := I.ord
  rw [hl] at ho1
  obtain ⟨p1, p2⟩ := pw_top ho1
  have ll := I.llen
  rw [hl, List.length_append, List.length_singleton] at ll
  have bl := hbase.length_le
  refine ⟨hb, fun x hx => ?_, ?_, ?_, fun an han => ⟨(I.giv an han).1, fun x hx hO => ?_⟩, I.gord, ?_⟩
  · rcases List.mem_append.mp hx with hx | hx
    · obtain ⟨σ, rk, S, E⟩ := I.ents x (hsub x hx)
      exact ⟨σ, rk, S, E.later⟩
    · exact ht x hx
  · show (base ++ top).length ≤ 1 + 8 * (s.taken + 1)
    rw [List.length_append]
    omega
  · show (base ++ top).Pairwise _
    rw [List.pairwise_append]
    refine ⟨p1.sublist hbase, hp, fun a ha b hb ha' hb' => ?_⟩
    obtain ⟨q1, n, q2⟩ := ho b hb hb'
    rw [q2]
    exact (p2 a (hbase.subset ha) ha' q1).more [n]
  · rcases List.mem_append.mp hx with hx | hx
    · exact (I.giv an han).2 x (hsub x hx) hO
    · obtain ⟨q1, n, q2⟩ := ho x hx hO
      rw [q2]
      exact ((I.giv an han).2 e (by rw [hl]; exact List.mem_append_right _ (List.mem_singleton.mpr rfl)) q1).more2 [n]
  · have := I.fin
    unfold FinOk at this ⊢
    simp only [hf] at this ⊢
    exact this
theorem SInv.stop (I : SInv c gs0 N s) (hf : s.fin = none) {low : List Ent} (hs : low.Sublist s.left) {k : Nat} (hk : s.taken ≤ k) (hk2 : k ≤ s.taken + 1) (hk3 : k ≤ c.bound) {f : Fin} (hF : FinOk c { s with left := low, taken := k, fin := some f }) :
    SInv c gs0 N { s with left := low, taken := k, fin := some f } := by
  refine ⟨hk3, fun x hx => ?_, ?_, I.ord.sublist hs, fun an han => ⟨(I.giv an han).1, fun x hx hO => (I.giv an han).2 x (hs.subset hx) hO⟩, I.gord, hF⟩
  · obtain ⟨σ, rk, S, E⟩ := I.ents x (hs.subset hx)
    have hx2 : k = s.taken ∨ k = s.taken + 1 := by omega
    rcases hx2 with h | h
    · show EOk c.rules gs0 N k x
      rw [h]
      exact ⟨σ, rk, S, E⟩
    · show EOk c.rules gs0 N k x
      rw [h]
      exact ⟨σ, rk, S, E.later⟩
  · show low.length ≤ 1 + 8 * k
    have h1 := hs.length_le
    have h2 := I.llen
    omega
theorem ltD_last {w : List Nat} {a b : Nat} (h : a < b) : LtD (w ++ [a]) (w ++ [b]) := ⟨w, a, b, [], [], rfl, rfl, h⟩
/-- what the rules' ways are -/
theorem ways_ok (K : CfgOk c gs0 N) {τ : Nat} {e : Ent} {σ : Str → PT} {rk : Str → Nat} {S : List PT} (E : EC c.rules gs0 N τ e σ rk S) (hτ : τ < 20) {g : PT} {h : Nat} {gs : List (Option PT × Nat)} (hg : e.goals = (some g, h) :: gs) {f : Str} {ks : List PT}
    (eg : g.sub σ = .app f ks) (hf : Named f) (ht : Nat) : ∀ (rs : List Rule) (k : Nat), c.rules.drop k = rs →
    ∃ ways, waysF (τ + 1) (.app f ks) gs e.puts e.way ht rs k = some ways ∧ (∀ x ∈ ways, EOk c.rules gs0 N (τ + 1) x ∧ (Outer x → Outer e) ∧ ∃ n, k < n ∧ x.way = e.way ++ [n]) ∧ ways.length ≤ rs.length ∧ ways.Pairwise fun a b => LtD a.way b.way := by
  intro rs
  induction rs with
  | nil => intro k _; exact ⟨[], rfl, (fun x hx => nomatch hx), Nat.le_refl _, List.Pairwise.nil⟩
  | cons r rs ih =>
    intro k hk
    obtain ⟨hd, b⟩ := r
    have hr : c.rules[k]? = some (hd, b) := by
      have h2 : (c.rules.drop k)[0]? = some (hd, b) := by rw [hk]; rfl
      rw [List.getElem?_drop] at h2
      simpa using h2
    have hk' : c.rules.drop (k + 1) = rs := by
      have : (c.rules.drop k).drop 1 = rs := by rw [hk]; rfl
      rw [List.drop_drop] at this
      exact this
    obtain ⟨tl, h1, h2, h3, h4⟩ := ih (k + 1) hk'
    have up : ∀ x ∈ tl, EOk c.rules gs0 N (τ + 1) x ∧ (Outer x → Outer e) ∧ ∃ n, k < n ∧ x.way = e.way ++ [n] := fun x hx => by
      obtain ⟨q1, q2, n, q3, q4⟩ := h2 x hx
      exact ⟨q1, q2, n, by omega, q4⟩
    unfold waysF
    rw [h1]
    by_cases hw : sameWord hd (.app f ks)
    · simp only [if_pos hw]
      obtain ⟨R, hR, hk2⟩ := E.rule K.ok.nlen hτ hg hr K.ok eg hw hf ht
      rw [hR]
      cases R with
      | none => exact ⟨tl, rfl, up, Nat.le_succ_of_le h3, h4⟩
      | some P' =>
        refine ⟨_, rfl, fun x hx => ?_, by rw [List.length_cons, List.length_cons]; omega, List.pairwise_cons.mpr ⟨fun x hx => ?_, h4⟩⟩
        · rcases List.mem_cons.mp hx with q | q
          · rw [q]
            exact ⟨hk2 P' rfl, fun ho => outer_more hg (fun q hq => List.mem_append_right _ hq) ho, k + 1, by omega, rfl⟩
          · exact up x q
        · obtain ⟨_, _, n, q3, q4⟩ := h2 x hx
          rw [q4]
          exact ltD_last (by omega)
    · simp only [if_neg hw]
      exact ⟨tl, rfl, up, Nat.le_succ_of_le h3, h4⟩
theorem last_of {l : List Ent} {e : Ent} (h : l.getLast? = some e) : l = l.dropLast ++ [e] := by
  obtain ⟨ys, rfl⟩ := List.getLast?_eq_some_iff.mp h
  rw [List.dropLast_concat]
theorem parts40_sum {f : Str → PT} {l : List Str} (h : ¬ 40 < (l.map fun x => parts40 (f x)).sum) : ∀ x ∈ l, (f x).size ≤ 40 := fun x hx => by
  have h1 := Tm.mem_sum (List.mem_map.mpr ⟨x, hx, rfl⟩ : parts40 (f x) ∈ l.map fun x => parts40 (f x))
  have h2 : parts40 (f x) ≤ 40 := by omega
  unfold parts40 at h2
  split at h2
  · assumption
  · omega
/-- how far it is to the end -/
def far (c : Cfg) (s : SSt) : Nat := (c.bound - s.taken) * 1000 + s.left.length
theorem step_ok (K : CfgOk c gs0 N) (I : SInv c gs0 N s) (hf : s.fin = none) : ∃ s', stepF c s = some s' ∧ SInv c gs0 N s' ∧ (s'.fin ≠ none ∨ far c s' < far c s) := by
  have gl : s.given.length < c.most := by
    have := I.fin
    unfold FinOk at this
    rw [hf] at this
    exact this
  have cb := K.bound
  cases hlast : s.left.getLast? with
  | none =>
    refine ⟨_, by unfold stepF; rw [hlast], ?_, .inl (by intro z; cases z)⟩
    exact I.stop hf (low := s.left) (k := s.taken) (List.Sublist.refl _) (Nat.le_refl _) (Nat.le_succ _) I.tak gl
  | some e =>
    have hl := last_of hlast
    generalize hlow : s.left.dropLast = low at hl
    have he : e ∈ s.left := by rw [hl]; exact List.mem_append_right _ (List.mem_singleton.mpr rfl)
    have lsub : low.Sublist s.left := by rw [hl]; exact List.sublist_append_left ..
    obtain ⟨σ, rk, S, E⟩ := I.ents e he
    have ho1 := I.ord
    rw [hl] at ho1
    obtain ⟨p1, p2⟩ := pw_top ho1
    have ll := I.llen
    have lowl : low.length + 1 = s.left.length := by rw [hl, List.length_append, List.length_singleton]
    unfold stepF
    rw [hlast]
    simp only [hlow]
    cases hgl : e.goals with
    | nil =>
      refine ⟨_, rfl, ?_, ?_⟩
      · have oe : Outer e := fun q hq => by rw [hgl] at hq; cases hq
        unfold tellF
        by_cases hb : 40 < (c.asked.map fun x => parts40 (full e.puts x)).sum
        · rw [if_pos hb]
          exact I.stop hf (low := low) (k := s.taken) lsub (Nat.le_refl _) (Nat.le_succ _) I.tak gl
        · rw [if_neg hb]
          have A := E.answer K (by have := I.tak; omega) hgl
          refine ⟨I.tak, fun x hx => I.ents x (lsub.subset hx), by show low.length ≤ 1 + 8 * s.taken; omega, p1, fun an han => ?_, ?_, ?_⟩
          · rcases List.mem_append.mp han with h | h
            · exact ⟨(I.giv an h).1, fun x hx hO => (I.giv an h).2 x (lsub.subset hx) hO⟩
            · rw [List.mem_singleton.mp h]
              exact ⟨A, fun x hx hO => p2 x hx hO oe⟩
          · show (s.given ++ [_]).Pairwise _
            rw [List.pairwise_append]
            refine ⟨I.gord, List.pairwise_singleton .., fun a ha b hb => ?_⟩
            rw [List.mem_singleton.mp hb]
            exact (I.giv a ha).2 e he oe
          · unfold FinOk
            simp only
            by_cases hm : s.given.length + 1 = c.most
            · rw [if_pos hm]
              show (s.given ++ [_]).length = c.most
              rw [List.length_append, List.length_singleton, hm]
            · rw [if_neg hm]
              show (s.given ++ [_]).length < c.most
              rw [List.length_append, List.length_singleton]
              omega
      · unfold tellF
        split
        · exact .inl (by intro z; cases z)
        · split
          · exact .inl (by intro z; cases z)
          · refine .inr ?_
            show (c.bound - s.taken) * 1000 + low.length < (c.bound - s.taken) * 1000 + s.left.length
            omega
    | cons q gs =>
      obtain ⟨og, h⟩ := q
      cases og with
      | none =>
        refine ⟨_, rfl, ?_, .inr ?_⟩
        · have ls2 : (low.take h).Sublist low := List.take_sublist ..
          have ls3 := ls2.trans lsub
          refine ⟨I.tak, fun x hx => I.ents x (ls3.subset hx), ?_, p1.sublist ls2, fun an han => ⟨(I.giv an han).1, fun x hx hO => (I.giv an han).2 x (ls3.subset hx) hO⟩, I.gord, ?_⟩
          · show (low.take h).length ≤ 1 + 8 * s.taken
            have := ls2.length_le
            omega
          · have := I.fin
            unfold FinOk at this ⊢
            simp only [hf] at this ⊢
            exact this
        · show (c.bound - s.taken) * 1000 + (low.take h).length < (c.bound - s.taken) * 1000 + s.left.length
          have : (low.take h).length ≤ low.length := (List.take_sublist ..).length_le
          omega
      | some g =>
        show ∃ s', takeF c s low g h gs e.puts e.way = some s' ∧ _
        unfold takeF
        by_cases htb : s.taken = c.bound
        · rw [if_pos htb]
          exact ⟨_, rfl, I.stop hf (low := low) (k := s.taken) lsub (Nat.le_refl _) (Nat.le_succ _) I.tak ⟨gl, htb⟩, .inl (by intro z; cases z)⟩
        · rw [if_neg htb]
          have tb : s.taken < c.bound := by have := I.tak; omega
          have stopk : ∀ {f : Fin}, FinOk c { s with left := low, taken := s.taken + 1, fin := some f } → SInv c gs0 N { s with left := low, taken := s.taken + 1, fin := some f } := fun hF => I.stop hf (low := low) (k := s.taken + 1) lsub (Nat.le_succ _) (Nat.le_refl _) tb hF
          have farless : ∀ {base top : List Ent} {fi : Option Fin}, base.Sublist low → top.length ≤ 8 → far c { s with left := base ++ top, taken := s.taken + 1, fin := fi } < far c s := fun {base top fi} hb ht => by
            show (c.bound - (s.taken + 1)) * 1000 + (base ++ top).length < (c.bound - s.taken) * 1000 + s.left.length
            have := hb.length_le
            rw [List.length_append]
            have e1 : c.bound - s.taken = (c.bound - (s.taken + 1)) + 1 := by omega
            rw [e1, Nat.succ_mul]
            omega
          by_cases hbig : 40 < (g.sub (full e.puts)).size
          · rw [if_pos hbig]
            exact ⟨_, rfl, stopk gl, .inl (by intro z; cases z)⟩
          · rw [if_neg hbig]
            rw [full_eq E.well.good] at hbig ⊢
            obtain ⟨Tg, Gg⟩ := E.goals (some g, h) (by rw [hgl]; exact List.mem_cons_self ..) g rfl
            obtain ⟨f, ks, eg, Gk⟩ := GoalOk.sub (θ := σ) Gg
            have Tg' := TOk.read E.well Tg
            rw [eg] at Tg' hbig ⊢
            simp only
            have oute : ∀ {P : Puts} {w : List Nat}, Outer ⟨gs, P, w⟩ → Outer e := fun ho => outer_more hgl (fun q hq => hq) ho
            -- the abstract goal, for a child with the same putting-ins
            have abs1 : ∀ (t : Nat → Nat) (ag : AT), conc t ag = g → ∃ aks, ag = .app f aks ∧ aks.length = ks.length := fun t ag ha => by
              rw [← ha, conc_sub] at eg
              cases ag with
              | num n => rw [Tm.sub_num] at eg; cases eg
              | any x =>
                obtain ⟨f2, k2, e2, _⟩ := Gg
                rw [← ha] at e2
                unfold conc at e2
                rw [Tm.sub_any] at e2
                cases e2
              | app f2 k2 =>
                rw [Tm.sub_app] at eg
                injection eg with e1 e2
                exact ⟨k2, by rw [e1], by rw [← e2, List.length_map]⟩
            by_cases f1 : f = wKeep
            · rw [if_pos f1]
              have hks : ks = [] := by
                rcases Gk with ⟨_, h2⟩ | ⟨h1, _⟩ | ⟨h1, _⟩ | h1
                · exact h2
                · rw [f1] at h1; exact absurd h1 (by decide +kernel)
                · rw [f1] at h1; exact absurd h1 (by decide +kernel)
                · rw [f1] at h1; exact absurd h1 (by unfold Named; decide +kernel)
              have ch : EOk c.rules gs0 N (s.taken + 1) ⟨gs, e.puts, e.way ++ [0]⟩ := ⟨σ, rk, S, E.zero hgl E.well (fun _ h => h) fun t C ag ha hsol M dC dA => by
                obtain ⟨aks, ea, el⟩ := abs1 t ag ha
                rw [hks] at el
                have : aks = [] := List.length_eq_zero_iff.mp el
                refine ⟨[], ?_, fun θ => ⟨fun h => ⟨h, fun p hp => nomatch hp⟩, fun h => h.1⟩, (fun p hp => nomatch hp), (fun p hp => nomatch hp)⟩
                rw [ea, this, f1]
                exact Step.keep⟩
              refine ⟨_, rfl, I.push hl tb (List.take_sublist ..) (fun x hx => ?_) (by simp) (fun x hx ho => ?_) (List.pairwise_singleton ..) hf, .inr (farless (List.take_sublist ..) (by simp))⟩
              · rw [List.mem_singleton.mp hx]; exact ch
              · rw [List.mem_singleton.mp hx] at ho ⊢
                exact ⟨oute ho, 0, rfl⟩
            · rw [if_neg f1]
              by_cases f2 : f = wNot
              · rw [if_pos f2]
                obtain ⟨w, us, hks, hw⟩ : ∃ w us, ks = [.app w us] ∧ Named w := by
                  rcases Gk with ⟨h1, _⟩ | ⟨_, h2⟩ | ⟨h1, _⟩ | h1
                  · exact absurd h1 f1
                  · exact h2
                  · rw [f2] at h1; exact absurd h1 (by decide +kernel)
                  · rw [f2] at h1; exact absurd h1 (by unfold Named; decide +kernel)
                by_cases hv : (Tm.app f ks).vars ≠ []
                · rw [if_pos hv]
                  obtain ⟨ls, e1, e2⟩ := told1_shape Tg'.phi.ar (by omega)
                  exact ⟨_, rfl, stopk ⟨gl, by simp [faultW], f, ls, e1, by rw [f2]; simp [faultS], e2⟩, .inl (by intro z; cases z)⟩
                · rw [if_neg hv]
                  have hv : (Tm.app f ks).vars = [] := Classical.not_not.mp hv
                  subst hks
                  simp only
                  have hG : (Tm.app w us : PT) ∈ [Tm.app w us] := List.mem_singleton.mpr rfl
                  have hvG : (Tm.app w us : PT).vars = [] := by
                    rw [Tm.vars_app] at hv
                    simpa using hv
                  have TG : TOk (Vt N s.taken) Shp S σ (.app w us) := ⟨(fun y hy => by rw [hvG] at hy; exact nomatch hy), Tg'.phi.kid hG, Tg'.cov.kid hG⟩
                  have behind : EOk c.rules gs0 N (s.taken + 1) ⟨gs, e.puts, e.way ++ [0]⟩ := ⟨σ, rk, S, E.zero hgl E.well (fun _ h => h) fun t C ag ha hsol M dC dA => by
                    obtain ⟨aks, ea, el⟩ := abs1 t ag ha
                    obtain ⟨aG, rfl⟩ : ∃ aG, aks = [aG] := by
                      match aks, el with
                      | [a], _ => exact ⟨a, rfl⟩
                    have dG : DomT e.way.length aG := fun a h2 => dA a (by rw [ea, Tm.vars_app]; exact List.mem_flatMap.mpr ⟨aG, List.mem_singleton.mpr rfl, h2⟩)
                    have rG : (conc t aG).sub σ = .app w us := by
                      have := eg
                      rw [← ha, ea, conc_sub, Tm.sub_app] at this
                      injection this with _ this
                      simp only [List.map_cons, List.map_nil, List.cons.injEq, and_true] at this
                      rw [conc_sub]
                      exact this
                    have gr := ground_read (M.marks (by omega)) dC E.well.good hsol dG (by rw [rG]; exact hvG)
                    refine ⟨[], ?_, fun θ => ⟨fun h => ⟨h, fun p hp => nomatch hp⟩, fun h => h.1⟩, (fun p hp => nomatch hp), (fun p hp => nomatch hp)⟩
                    rw [ea, f2]
                    refine Step.no gr (by rw [rG]; exact hvG) ?_
                    rw [rG]
                    have h1 := (Tm.app w us : PT).depth_le_size
                    rw [Tm.size_app, List.map_cons, List.sum_cons] at hbig
                    omega⟩
                  have inn : EOk c.rules gs0 N (s.taken + 1) ⟨[(some (.app w us), low.length), (none, low.length)], e.puts, e.way ++ [0]⟩ := ⟨σ, rk, S, E.inner TG ⟨w, us, rfl, .inr (.inr (.inr hw))⟩⟩
                  have nout : ¬ Outer ⟨[(some (.app w us), low.length), (none, low.length)], e.puts, e.way ++ [0]⟩ := fun ho => ho (none, low.length) (by simp) rfl
                  refine ⟨_, rfl, I.push hl tb (List.Sublist.refl _) (fun x hx => ?_) (by simp) (fun x hx ho => ?_) (List.pairwise_cons.mpr ⟨fun x hx _ ho => ?_, List.pairwise_singleton ..⟩) hf, .inr (farless (List.Sublist.refl _) (by simp))⟩
                  · rcases List.mem_cons.mp hx with q | q
                    · rw [q]; exact behind
                    · rw [List.mem_singleton.mp q]; exact inn
                  · rcases List.mem_cons.mp hx with q | q
                    · rw [q] at ho ⊢
                      exact ⟨oute ho, 0, rfl⟩
                    · rw [List.mem_singleton.mp q] at ho
                      exact absurd ho nout
                  · rw [List.mem_singleton.mp hx] at ho
                    exact absurd ho nout
              · rw [if_neg f2]
                by_cases f3 : f ∈ deedW
                · rw [if_pos f3]
                  obtain ⟨l, r, hks⟩ : ∃ l r, ks = [l, r] := by
                    rcases Gk with ⟨h1, _⟩ | ⟨h1, _⟩ | ⟨_, h2⟩ | h1
                    · exact absurd h1 f1
                    · exact absurd h1 f2
                    · exact h2
                    · exfalso
                      apply h1
                      simp only [deedW, List.mem_cons, List.not_mem_nil, or_false] at f3
                      rcases f3 with h | h | h | h <;> (rw [h]; simp)
                  subst hks
                  simp only
                  obtain ⟨R, hR, hw, hk⟩ := E.deed K (by omega) hgl eg f3
                  rw [hR]
                  cases R with
                  | inr w =>
                    obtain ⟨w1, w2⟩ := hw w rfl
                    obtain ⟨ls, e1, e2⟩ := told1_shape Tg'.phi.ar (by omega)
                    exact ⟨_, rfl, stopk ⟨gl, w1, f, ls, e1, w2, e2⟩, .inl (by intro z; cases z)⟩
                  | inl R =>
                    cases R with
                    | none =>
                      have h1 := I.push hl tb (List.Sublist.refl low) (top := []) (fun x hx => nomatch hx) (Nat.zero_le _) (fun x hx => nomatch hx) List.Pairwise.nil hf
                      have h2 := farless (base := low) (top := []) (fi := s.fin) (List.Sublist.refl low) (Nat.zero_le _)
                      rw [List.append_nil] at h1 h2
                      exact ⟨_, rfl, h1, .inr h2⟩
                    | some P' =>
                      refine ⟨_, rfl, I.push hl tb (List.Sublist.refl _) (fun x hx => ?_) (by simp) (fun x hx ho => ?_) (List.pairwise_singleton ..) hf, .inr (farless (List.Sublist.refl _) (by simp))⟩
                      · rw [List.mem_singleton.mp hx]
                        exact hk P' rfl
                      · rw [List.mem_singleton.mp hx] at ho ⊢
                        exact ⟨oute ho, 0, rfl⟩
                · rw [if_neg f3]
                  have hN : Named f := by
                    rcases Gk with ⟨h1, _⟩ | ⟨h1, _⟩ | ⟨h1, _⟩ | h1
                    · exact absurd h1 f1
                    · exact absurd h1 f2
                    · exact absurd h1 f3
                    · exact h1
                  obtain ⟨ways, hw1, hw2, hw3, hw4⟩ := ways_ok K E (by omega) hgl eg hN low.length c.rules 0 rfl
                  rw [hw1]
                  have wl : ways.reverse.length ≤ 8 := by
                    rw [List.length_reverse]
                    have := K.ok.rlen
                    omega
                  refine ⟨_, rfl, I.push hl tb (List.Sublist.refl _) (fun x hx => (hw2 x (List.mem_reverse.mp hx)).1) wl (fun x hx ho => ?_) ?_ hf, .inr (farless (List.Sublist.refl _) wl)⟩
                  · obtain ⟨_, q2, n, _, q3⟩ := hw2 x (List.mem_reverse.mp hx)
                    exact ⟨q2 ho, n, q3⟩
                  · rw [List.pairwise_reverse]
                    exact hw4.imp fun h _ _ => h
/-- the run ends -/
theorem run_ok (K : CfgOk c gs0 N) : ∀ (m : Nat) (s : SSt), far c s = m → SInv c gs0 N s → ∃ n s', runF c n s = some s' ∧ s'.fin ≠ none ∧ SInv c gs0 N s' := by
  intro m
  induction m using Nat.strongRecOn with
  | ind m ih =>
    intro s hm I
    have hg := I.guard K
    have ended : ∀ {s : SSt}, SInv c gs0 N s → s.fin ≠ none → runF c 1 s = some s := fun {s} I hf => by
      unfold runF
      rw [if_pos (I.guard K)]
      cases h : s.fin with
      | none => exact absurd h hf
      | some f => rfl
    cases hf : s.fin with
    | some f =>
      have hn : s.fin ≠ none := by
        rw [hf]
        intro z
        cases z
      exact ⟨1, s, ended I hn, hn, I⟩
    | none =>
      obtain ⟨s1, h1, I1, h2⟩ := step_ok K I hf
      have go : ∀ n s', runF c n s1 = some s' → runF c (n + 1) s = some s' := fun n s' h => by
        unfold runF
        rw [if_pos hg, hf]
        simp only [h1]
        exact h
      rcases h2 with h2 | h2
      · exact ⟨2, s1, go 1 s1 (ended I1 h2), h2, I1⟩
      · obtain ⟨n, s', q1, q2, q3⟩ := ih (far c s1) (by omega) s1 rfl I1
        exact ⟨n + 1, s', go n s' q1, q2, q3⟩
def startS (gs0 : List PT) : SSt := ⟨[⟨gs0.map fun g => (some g, 0), [], []⟩], [], 0, none⟩
theorem start_ok (K : CfgOk c gs0 N) : SInv c gs0 N (startS gs0) := by
  refine ⟨Nat.zero_le _, fun e he => ?_, by show 1 ≤ _; omega, List.pairwise_singleton .., (fun an h => nomatch h), List.Pairwise.nil, by show 0 < c.most; have := K.most; omega⟩
  rw [List.mem_singleton.mp he]
  have hSl : (gs0.flatMap Tm.apps).length = (gs0.map fun g => g.apps.length).sum := by
    clear he K
    induction gs0 with
    | nil => rfl
    | cons a l ih => rw [List.flatMap_cons, List.length_append, ih, List.map_cons, List.sum_cons]
  have W : Well (Vt N 0) Shp (gs0.flatMap Tm.apps) [] Tm.any (fun _ => 0) := ⟨good_nil, ⟨(fun x t h => nomatch h), by
    show 0 + cnt _ [] ≤ _
    unfold cnt
    rw [Nat.zero_add]
    exact List.length_filter_le ..⟩, fun x u hu => by rw [Tm.sub_any, Tm.apps_any] at hu; exact nomatch hu⟩
  refine ⟨Tm.any, fun _ => 0, gs0.flatMap Tm.apps, W, ?_, fun q hq g hg => ?_, Nat.zero_le _, ?_, fun _ => ?_, fun _ => ?_⟩
  · rw [hSl]
    have := K.ok.gapp
    omega
  · obtain ⟨g', hg', rfl⟩ := List.mem_map.mp hq
    cases hg
    obtain ⟨q1, q2, q3⟩ := K.ok.gls g hg'
    exact ⟨⟨fun y hy => Vt_base (q3 y hy).1, q1, Tm.Cov.of (fun s hs => List.mem_flatMap.mpr ⟨g, hg', hs⟩) fun x _ => W.cov x⟩, q2⟩
  · show (gs0.map _).length ≤ 4 + 2 * 0
    rw [List.length_map]
    have := K.ok.glen
    omega
  · refine ⟨fun k => k, [], gs0.map (lift 0), .nil, ?_, fun θ => ⟨(fun _ p hp => nomatch hp), (fun _ x t h => nomatch h)⟩, ⟨(fun k hk => nomatch hk), (fun j k _ hk => nomatch hk)⟩, (fun p hp => nomatch hp), fun g hg a ha => ?_, (fun p hp => nomatch hp)⟩
    · show (gs0.map fun g => (some g, 0)).map (·.1) = _
      rw [List.map_map, List.map_map]
      exact List.map_congr_left fun g _ => by
        show some g = some (conc _ (lift 0 g))
        rw [conc_lift0]
    · obtain ⟨g', hg', rfl⟩ := List.mem_map.mp hg
      unfold lift at ha
      rw [Tm.vars_sub] at ha
      obtain ⟨x, hx, ha⟩ := List.mem_flatMap.mp ha
      rw [Tm.vars_any] at ha
      rw [List.mem_singleton.mp ha]
      exact ((K.ok.gls g' hg').2.2 x hx).2
  · show (gs0.flatMap Tm.apps).length ≤ 8 + 9 * 0 + 4 * (gs0.map fun g => (some g, 0)).length
    rw [hSl]
    have := K.ok.gapp
    omega
end
end G35

/-! GTxt -/
set_option Elab.async false
set_option linter.all false
set_option maxRecDepth 100000
set_option maxHeartbeats 0
namespace G35
open PySem PySem.Spec PyProof.Rows L2
def top (i : Nat) : Stmt := PySem.Challenge.pw_goaltrail_k35_whole_ways_lead.main.body.getD i (.Pass ⟨0, 0, 0, 0⟩)
abbrev s_TrailError_init : Stmt := inClass (top 1) 0
def d_TrailError_init : He.DefD := ⟨("TrailError", some "__init__"), "__init__", "TrailError.__init__", defArgs s_TrailError_init, defBody s_TrailError_init, defScope s_TrailError_init, [.int 0], []⟩
abbrev s_Fault_init : Stmt := inClass (top 3) 0
def d_Fault_init : He.DefD := ⟨("Fault", some "__init__"), "__init__", "Fault.__init__", defArgs s_Fault_init, defBody s_Fault_init, defScope s_Fault_init, [], []⟩
abbrev s_unknown : Stmt := top 5
def d_unknown : He.DefD := ⟨("unknown", none), "unknown", "unknown", defArgs s_unknown, defBody s_unknown, defScope s_unknown, [], []⟩
abbrev s_app : Stmt := top 6
def d_app : He.DefD := ⟨("app", none), "app", "app", defArgs s_app, defBody s_app, defScope s_app, [], []⟩
abbrev s_unknowns_of : Stmt := top 8
def d_unknowns_of : He.DefD := ⟨("unknowns_of", none), "unknowns_of", "unknowns_of", defArgs s_unknowns_of, defBody s_unknowns_of, defScope s_unknowns_of, [], []⟩
abbrev s_renamed : Stmt := top 9
def d_renamed : He.DefD := ⟨("renamed", none), "renamed", "renamed", defArgs s_renamed, defBody s_renamed, defScope s_renamed, [], []⟩
abbrev s_told_anew : Stmt := top 10
def d_told_anew : He.DefD := ⟨("told_anew", none), "told_anew", "told_anew", defArgs s_told_anew, defBody s_told_anew, defScope s_told_anew, [], []⟩
abbrev s_marked : Stmt := top 11
def d_marked : He.DefD := ⟨("marked", none), "marked", "marked", defArgs s_marked, defBody s_marked, defScope s_marked, [], []⟩
abbrev s_walked : Stmt := top 14
def d_walked : He.DefD := ⟨("walked", none), "walked", "walked", defArgs s_walked, defBody s_walked, defScope s_walked, [], []⟩
abbrev s_parts_up_to : Stmt := top 15
def d_parts_up_to : He.DefD := ⟨("parts_up_to", none), "parts_up_to", "parts_up_to", defArgs s_parts_up_to, defBody s_parts_up_to, defScope s_parts_up_to, [], []⟩
abbrev s_put_in : Stmt := top 16
def d_put_in : He.DefD := ⟨("put_in", none), "put_in", "put_in", defArgs s_put_in, defBody s_put_in, defScope s_put_in, [], []⟩
abbrev s_written_out : Stmt := top 17
def d_written_out : He.DefD := ⟨("written_out", none), "written_out", "written_out", defArgs s_written_out, defBody s_written_out, defScope s_written_out, [], []⟩
abbrev s_head_of : Stmt := top 19
def d_head_of : He.DefD := ⟨("head_of", none), "head_of", "head_of", defArgs s_head_of, defBody s_head_of, defScope s_head_of, [], []⟩
abbrev s_stands_in : Stmt := top 20
def d_stands_in : He.DefD := ⟨("stands_in", none), "stands_in", "stands_in", defArgs s_stands_in, defBody s_stands_in, defScope s_stands_in, [], []⟩
abbrev s_kids_of : Stmt := top 21
def d_kids_of : He.DefD := ⟨("kids_of", none), "kids_of", "kids_of", defArgs s_kids_of, defBody s_kids_of, defScope s_kids_of, [], []⟩
abbrev s_made_one : Stmt := top 22
def d_made_one : He.DefD := ⟨("made_one", none), "made_one", "made_one", defArgs s_made_one, defBody s_made_one, defScope s_made_one, [], []⟩
abbrev s_done : Stmt := top 27
def d_done : He.DefD := ⟨("done", none), "done", "done", defArgs s_done, defBody s_done, defScope s_done, [], []⟩
abbrev s_reckoned : Stmt := top 28
def d_reckoned : He.DefD := ⟨("reckoned", none), "reckoned", "reckoned", defArgs s_reckoned, defBody s_reckoned, defScope s_reckoned, [], []⟩
abbrev s_deed : Stmt := top 31
def d_deed : He.DefD := ⟨("deed", none), "deed", "deed", defArgs s_deed, defBody s_deed, defScope s_deed, [], []⟩
abbrev s_same_word : Stmt := top 32
def d_same_word : He.DefD := ⟨("same_word", none), "same_word", "same_word", defArgs s_same_word, defBody s_same_word, defScope s_same_word, [], []⟩
abbrev s_Run_init : Stmt := inClass (top 33) 0
def d_Run_init : He.DefD := ⟨("Run", some "__init__"), "__init__", "Run.__init__", defArgs s_Run_init, defBody s_Run_init, defScope s_Run_init, [], []⟩
abbrev s_Run_step : Stmt := inClass (top 33) 1
def d_Run_step : He.DefD := ⟨("Run", some "step"), "step", "Run.step", defArgs s_Run_step, defBody s_Run_step, defScope s_Run_step, [], []⟩
abbrev s_Run_tell : Stmt := inClass (top 33) 2
def d_Run_tell : He.DefD := ⟨("Run", some "tell"), "tell", "Run.tell", defArgs s_Run_tell, defBody s_Run_tell, defScope s_Run_tell, [], []⟩
abbrev s_Run_take : Stmt := inClass (top 33) 3
def d_Run_take : He.DefD := ⟨("Run", some "take"), "take", "Run.take", defArgs s_Run_take, defBody s_Run_take, defScope s_Run_take, [], []⟩
abbrev s_Run_fault : Stmt := inClass (top 33) 4
def d_Run_fault : He.DefD := ⟨("Run", some "fault"), "fault", "Run.fault", defArgs s_Run_fault, defBody s_Run_fault, defScope s_Run_fault, [], []⟩
abbrev s_Run_take_not : Stmt := inClass (top 33) 5
def d_Run_take_not : He.DefD := ⟨("Run", some "take_not"), "take_not", "Run.take_not", defArgs s_Run_take_not, defBody s_Run_take_not, defScope s_Run_take_not, [], []⟩
abbrev s_Run_take_deed : Stmt := inClass (top 33) 6
def d_Run_take_deed : He.DefD := ⟨("Run", some "take_deed"), "take_deed", "Run.take_deed", defArgs s_Run_take_deed, defBody s_Run_take_deed, defScope s_Run_take_deed, [], []⟩
abbrev s_Run_take_named : Stmt := inClass (top 33) 7
def d_Run_take_named : He.DefD := ⟨("Run", some "take_named"), "take_named", "Run.take_named", defArgs s_Run_take_named, defBody s_Run_take_named, defScope s_Run_take_named, [], []⟩
abbrev s_search : Stmt := top 34
def d_search : He.DefD := ⟨("search", none), "search", "search", defArgs s_search, defBody s_search, defScope s_search, [.int 200, .int 10], []⟩
abbrev s_law_cell_at : Stmt := top 36
def d_law_cell_at : He.DefD := ⟨("_law_cell_at", none), "_law_cell_at", "_law_cell_at", defArgs s_law_cell_at, defBody s_law_cell_at, defScope s_law_cell_at, [], []⟩
abbrev s_law_pick : Stmt := top 37
def d_law_pick : He.DefD := ⟨("_law_pick", none), "_law_pick", "_law_pick", defArgs s_law_pick, defBody s_law_pick, defScope s_law_pick, [], []⟩
abbrev s_law_words : Stmt := top 38
def d_law_words : He.DefD := ⟨("_law_words", none), "_law_words", "_law_words", defArgs s_law_words, defBody s_law_words, defScope s_law_words, [], []⟩
abbrev s_law_names : Stmt := top 39
def d_law_names : He.DefD := ⟨("_law_names", none), "_law_names", "_law_names", defArgs s_law_names, defBody s_law_names, defScope s_law_names, [], []⟩
abbrev s_law_thing : Stmt := top 40
def d_law_thing : He.DefD := ⟨("_law_thing", none), "_law_thing", "_law_thing", defArgs s_law_thing, defBody s_law_thing, defScope s_law_thing, [], []⟩
abbrev s_law_deed_goal : Stmt := top 41
def d_law_deed_goal : He.DefD := ⟨("_law_deed_goal", none), "_law_deed_goal", "_law_deed_goal", defArgs s_law_deed_goal, defBody s_law_deed_goal, defScope s_law_deed_goal, [], []⟩
abbrev s_law_goal : Stmt := top 42
def d_law_goal : He.DefD := ⟨("_law_goal", none), "_law_goal", "_law_goal", defArgs s_law_goal, defBody s_law_goal, defScope s_law_goal, [], []⟩
abbrev s_law_rule : Stmt := top 43
def d_law_rule : He.DefD := ⟨("_law_rule", none), "_law_rule", "_law_rule", defArgs s_law_rule, defBody s_law_rule, defScope s_law_rule, [], []⟩
abbrev s_law_walk : Stmt := top 44
def d_law_walk : He.DefD := ⟨("_law_walk", none), "_law_walk", "_law_walk", defArgs s_law_walk, defBody s_law_walk, defScope s_law_walk, [], []⟩
abbrev s_law_holds : Stmt := top 45
def d_law_holds : He.DefD := ⟨("_law_holds", none), "_law_holds", "_law_holds", defArgs s_law_holds, defBody s_law_holds, defScope s_law_holds, [], []⟩
abbrev s_law_one : Stmt := top 46
def d_law_one : He.DefD := ⟨("_law_one", none), "_law_one", "_law_one", defArgs s_law_one, defBody s_law_one, defScope s_law_one, [], []⟩
abbrev s_law_read : Stmt := top 47
def d_law_read : He.DefD := ⟨("_law_read", none), "_law_read", "_law_read", defArgs s_law_read, defBody s_law_read, defScope s_law_read, [], []⟩
abbrev s_law_named : Stmt := top 48
def d_law_named : He.DefD := ⟨("_law_named", none), "_law_named", "_law_named", defArgs s_law_named, defBody s_law_named, defScope s_law_named, [], []⟩
abbrev s_law_called : Stmt := top 49
def d_law_called : He.DefD := ⟨("_law_called", none), "_law_called", "_law_called", defArgs s_law_called, defBody s_law_called, defScope s_law_called, [], []⟩
abbrev s_law_anew : Stmt := top 50
def d_law_anew : He.DefD := ⟨("_law_anew", none), "_law_anew", "_law_anew", defArgs s_law_anew, defBody s_law_anew, defScope s_law_anew, [], []⟩
abbrev s_law_marked : Stmt := top 51
def d_law_marked : He.DefD := ⟨("_law_marked", none), "_law_marked", "_law_marked", defArgs s_law_marked, defBody s_law_marked, defScope s_law_marked, [], []⟩
abbrev s_law_sum : Stmt := top 52
def d_law_sum : He.DefD := ⟨("_law_sum", none), "_law_sum", "_law_sum", defArgs s_law_sum, defBody s_law_sum, defScope s_law_sum, [], []⟩
abbrev s_law_deed : Stmt := top 53
def d_law_deed : He.DefD := ⟨("_law_deed", none), "_law_deed", "_law_deed", defArgs s_law_deed, defBody s_law_deed, defScope s_law_deed, [], []⟩
abbrev s_law_end_of_way : Stmt := top 54
def d_law_end_of_way : He.DefD := ⟨("_law_end_of_way", none), "_law_end_of_way", "_law_end_of_way", defArgs s_law_end_of_way, defBody s_law_end_of_way, defScope s_law_end_of_way, [], []⟩
abbrev s_law_leads : Stmt := top 55
def d_law_leads : He.DefD := ⟨("_law_leads", none), "_law_leads", "_law_leads", defArgs s_law_leads, defBody s_law_leads, defScope s_law_leads, [], []⟩
abbrev s_law_end : Stmt := top 56
def d_law_end : He.DefD := ⟨("_law_end", none), "_law_end", "_law_end", defArgs s_law_end, defBody s_law_end, defScope s_law_end, [], []⟩
abbrev s_law : Stmt := top 57
def d_law : He.DefD := ⟨("law", none), "law", "law", defArgs s_law, defBody s_law, defScope s_law, [], []⟩
def fn1 : List He.DefD := [d_TrailError_init, d_Fault_init, d_unknown, d_app, d_unknowns_of, d_renamed, d_told_anew, d_marked, d_walked, d_parts_up_to, d_put_in, d_written_out, d_head_of, d_stands_in, d_kids_of, d_made_one, d_done, d_reckoned, d_deed, d_same_word, d_Run_init, d_Run_step, d_Run_tell, d_Run_take, d_Run_fault]
def fn2 : List He.DefD := [d_Run_take_not, d_Run_take_deed, d_Run_take_named, d_search, d_law_cell_at, d_law_pick, d_law_words, d_law_names, d_law_thing, d_law_deed_goal, d_law_goal, d_law_rule, d_law_walk, d_law_holds, d_law_one, d_law_read, d_law_named, d_law_called, d_law_anew, d_law_marked, d_law_sum, d_law_deed, d_law_end_of_way, d_law_leads, d_law_end, d_law]
def fn : List He.DefD := fn1 ++ fn2
-- glo ['TrailError', 'Big', 'Fault', 'unknown', 'app', 'unknowns_of', 'renamed', 'told_anew', 'marked', 'MOST_PARTS_puts', 'walked', 'parts_up_to', 'put_in', 'written_out', 'head_of', 'stands_in', 'kids_of', 'made_one', 'DEEDS', 'SUMS', 'FAR', 'done', 'reckoned', 'MOST_PARTS_search', 'deed', 'same_word', 'Run', 'search', '_law_cell_at', '_law_pick', '_law_words', '_law_names', '_law_thing', '_law_deed_goal', '_law_goal', '_law_rule', '_law_walk', '_law_holds', '_law_one', '_law_read', '_law_named', '_law_called', '_law_anew', '_law_marked', '_law_sum', '_law_deed', '_law_end_of_way', '_law_leads', '_law_end', 'law']
def names1 : List Str := ["TrailError", "Big", "Fault", "unknown", "app", "unknowns_of", "renamed", "told_anew", "marked", "MOST_PARTS_puts", "walked", "parts_up_to", "put_in", "written_out", "head_of", "stands_in", "kids_of", "made_one", "DEEDS", "SUMS", "FAR", "done", "reckoned", "MOST_PARTS_search", "deed"]
def names2 : List Str := ["same_word", "Run", "search", "_law_cell_at", "_law_pick", "_law_words", "_law_names", "_law_thing", "_law_deed_goal", "_law_goal", "_law_rule", "_law_walk", "_law_holds", "_law_one", "_law_read", "_law_named", "_law_called", "_law_anew", "_law_marked", "_law_sum", "_law_deed", "_law_end_of_way", "_law_leads", "_law_end"]
def names : List Str := names1 ++ names2

def glos : List Str := ["TrailError", "Big", "Fault", "Run"]
def frees : List Str := ["len", "list", "reversed", "tuple", "str", "dict", "divmod", "abs", "enumerate", "zip", "sum", "range", "int", "min", "isinstance", "ValueError"]
/-- what the walk asks of the top -/
structure T35 (K : PySem.W.Frag) (mg : Str → Option Value) : Prop where
  def_ : ∀ (i : Nat) (d : He.DefD), fn[i]? = some d → (∃ fd, FunD K d.name d.qual d.params d.body d.scope (d.dvs K) (d.kws K) (He.fAd K d.at_) fd) ∧ (d.at_.2 = none → mg d.at_.1 = some (.ref (He.ga K d.at_.1)))
  glo : ∀ (i : Nat) (x : Str), glos[i]? = some x → mg x = some (.ref (He.ga K x))
  free : ∀ (i : Nat) (x : Str), frees[i]? = some x → mg x = none
/-- a def that may be called by its name -/
structure Cl (P : Program) (w : World) (K : PySem.W.Frag) (mg : Str → Option Value) (base : Heap) (CX : CXT) (k : Nat) (x : Str) (ps : List Str) (sp : Sp) : Prop where
  ex : ∃ fd, FnOk P w K mg base CX k (He.ga K x) fd ps sp ∧ Binds K fd ps []
  mgx : mg x = some (.ref (He.ga K x))
  kp : PySem.W.keepIn K (.ref (He.ga K x)) = true
theorem Cl.mono {P : Program} {w : World} {K : PySem.W.Frag} {mg : Str → Option Value} {base : Heap} {CX : CXT} {j k : Nat} {x : Str} {ps : List Str} {sp : Sp} (c : Cl P w K mg base CX j x ps sp) (h : j ≤ k) : Cl P w K mg base CX k x ps sp := by
  obtain ⟨fd, F, b⟩ := c.ex
  exact ⟨⟨fd, F.mono h, b⟩, c.mgx, c.kp⟩
theorem Cl.imp {P : Program} {w : World} {K : PySem.W.Frag} {mg : Str → Option Value} {base : Heap} {CX : CXT} {k : Nat} {x : Str} {ps : List Str} {sp sp' : Sp} (c : Cl P w K mg base CX k x ps sp) (h : ∀ vs H Q E, sp' vs H Q E → sp vs H Q E) : Cl P w K mg base CX k x ps sp' := by
  obtain ⟨fd, F, b⟩ := c.ex
  exact ⟨⟨fd, F.imp h, b⟩, c.mgx, c.kp⟩
/-- its call -/
theorem pe_cl {X : Cx} {k j : Nat} {x : Str} {ps : List Str} {sp : Sp} {p pos : Pos} {e : Expr} {es : List Expr} {t : TA} (c : Cl X.prog X.w X.K X.mg X.base CX0 k x ps sp) (hr : Room j X.A) (hk : k ≤ j) (hg : Gl X x) (ha : PA X (e :: es) t)
    (hdb : (x == ("__debug__" : Str)) = false := by decide) (he : starEach (e :: es) X.env = (false, eval e X.env) :: starEach es X.env := by rfl) (hpl : (backTo pos (starEach es X.env)).any (·.1) = false := by rfl) :
    PE X (.Call (.Name x p) (e :: es) [] pos) (tCall sp [] E0 t) := by
  obtain ⟨fd, F, b⟩ := c.ex
  exact pe_call F (hr.mono hk) hg c.mgx c.kp b .nil pass0 ha hdb he hpl
/-- a def by its body -/
theorem cl_of {P : Program} {w : World} {K : PySem.W.Frag} {mg : Str → Option Value} {base : Heap} {d : He.DefD} {x : Str} {k : Nat} {N ps : List Str} {sp : Sp} (T : T35 K mg) (i : Nat) (hi : fn[i]? = some d) (hx : d.at_ = (x, none)) (hd : d.dfl = []) (hk : d.kwd = [])
    (S : FnScope N ps d.scope) (len : ∀ vs H Q E, sp vs H Q E → vs.length = ps.length)
    (hb : ∀ (kV doc pm : Value) (an : Option Addr) (cdv ct : Value) (us : List Value), us.length = ps.length → bindArgs (PySem.W.fnOf d.name d.qual d.params d.body d.scope .none kV doc pm an cdv ct) ⟨us, []⟩ = pure (ps.zip us))
    (hbody : ∀ (cdv : Value) (A : Around) (outer : List Env) (s : Shared) (H : Hp) (vs : List V) (Q : VK) (E : XK), Room k (A.deeper (envOfC d.qual d.scope s.heap.objs.size (He.ga K x) cdv)) → sp vs H Q E →
      ∃ t, PSs (cxOf CX0 P w K mg base N d.qual d.scope (He.ga K x) cdv A outer s H E).nox d.body t ∧ t { nx := fun _ H' => Q .non H', rt := Q } (start N vs) H) : Cl P w K mg base CX0 (k + 1) x ps sp := by
  obtain ⟨⟨fd, F⟩, g⟩ := T.def_ i d hi
  have e : He.fAd K d.at_ = He.ga K x := by rw [hx]; rfl
  rw [e] at F
  have g2 : mg x = some (.ref (He.ga K x)) := by
    have := g (by rw [hx])
    rw [hx] at this
    exact this
  have e1 : d.dvs K = [] := by unfold He.DefD.dvs; rw [hd]; rfl
  rw [e1] at F
  refine ⟨⟨fd, F.ok S len fun cdv A outer s H vs Q E hr hsp => ?_, F.bindsN hb⟩, g2, F.kp⟩
  obtain ⟨t, h, q⟩ := hbody cdv A outer s H vs Q E hr hsp
  exact ⟨t, h.nox, q⟩
end G35

/-! GRep -/
set_option Elab.async false
set_option linter.all false
set_option maxRecDepth 100000
set_option maxHeartbeats 4000000
/-! Terms and puttings-in as they stand in the heap. -/
namespace G35
open PySem PySem.Spec PyProof.Rows L2
/-- tuples stay -/
def TupEx (H H' : Hp) : Prop := ∀ a xs, H a = some (.tup xs) → H' a = some (.tup xs)
theorem TupEx.refl (H : Hp) : TupEx H H := fun _ _ h => h
theorem TupEx.trans {H H1 H2 : Hp} (a : TupEx H H1) (b : TupEx H1 H2) : TupEx H H2 := fun x xs h => b x xs (a x xs h)
theorem TupEx.of {H H' : Hp} (s : Same H H') : TupEx H H' := fun a xs h => s a _ h
theorem same_new {H : Hp} {p : Addr} {o : HO} (h : H p = none) : Same H (upd H p o) := fun a u e => by
  rw [upd_ne (ne_of_none e h)]
  exact e
/-- an object that H does not know may change -/
theorem same_mut {H H' : Hp} {p : Addr} {o : HO} (e : Same H H') (h : H p = none) : Same H (upd H' p o) := fun a u ha => by
  rw [upd_ne (ne_of_none ha h)]
  exact e a u ha
mutual
def RepT (H : Hp) : PT → V → Prop
  | .num n, v => ∃ a, v = .ref a ∧ H a = some (.tup [.str "num", .int n])
  | .any x, v => ∃ a, v = .ref a ∧ H a = some (.tup [.str "any", .str x])
  | .app f ks, v => ∃ a b vs, v = .ref a ∧ H a = some (.tup [.str "app", .str f, .ref b]) ∧ H b = some (.tup vs) ∧ RepL H ks vs
def RepL (H : Hp) : List PT → List V → Prop
  | [], vs => vs = []
  | t :: ts, vs => ∃ v r, vs = v :: r ∧ RepT H t v ∧ RepL H ts r
end
theorem RepL.length {H : Hp} : ∀ {ts : List PT} {vs : List V}, RepL H ts vs → vs.length = ts.length
  | [], vs, h => by
    have e : vs = [] := h
    rw [e]
    rfl
  | t :: ts, vs, h => by
    obtain ⟨v, r, e, _, h2⟩ := h
    rw [e, List.length_cons, List.length_cons, RepL.length h2]
theorem RepL.get {H : Hp} : ∀ {ts : List PT} {vs : List V}, RepL H ts vs → ∀ (i : Nat) (t : PT), ts[i]? = some t → ∃ v, vs[i]? = some v ∧ RepT H t v
  | [], vs, h, i, t, e => by cases e
  | u :: ts, vs, h, 0, t, e => by
    obtain ⟨v, r, e1, h1, _⟩ := h
    cases e
    exact ⟨v, by rw [e1]; rfl, h1⟩
  | u :: ts, vs, h, i + 1, t, e => by
    obtain ⟨v, r, e1, _, h2⟩ := h
    obtain ⟨v', q1, q2⟩ := RepL.get h2 i t e
    exact ⟨v', by rw [e1]; exact q1, q2⟩
theorem RepL.got {H : Hp} {ts : List PT} {vs : List V} (h : RepL H ts vs) {i : Nat} {v : V} (e : vs[i]? = some v) : ∃ t, ts[i]? = some t ∧ RepT H t v := by
  have hi : i < ts.length := by
    rw [← h.length]
    exact (List.getElem?_eq_some_iff.mp e).1
  obtain ⟨v', q1, q2⟩ := h.get i ts[i] (List.getElem?_eq_some_iff.mpr ⟨hi, rfl⟩)
  rw [e] at q1
  cases q1
  exact ⟨_, List.getElem?_eq_some_iff.mpr ⟨hi, rfl⟩, q2⟩
theorem RepL.imp {H H' : Hp} : ∀ {ts : List PT} {vs : List V}, (∀ t ∈ ts, ∀ v, RepT H t v → RepT H' t v) → RepL H ts vs → RepL H' ts vs
  | [], _, _, h => h
  | t :: ts, vs, i, h => by
    obtain ⟨v, r, e, h4, h5⟩ := h
    exact ⟨v, r, e, i t (List.mem_cons_self ..) v h4, RepL.imp (fun k hk => i k (List.mem_cons_of_mem _ hk)) h5⟩
theorem RepT.mono {H H' : Hp} (s : TupEx H H') : ∀ t : PT, ∀ v, RepT H t v → RepT H' t v := by
  refine Tm.ind (fun n v h => ?_) (fun x v h => ?_) fun f ks ih v h => ?_
  · obtain ⟨a, e, h⟩ := h
    exact ⟨a, e, s _ _ h⟩
  · obtain ⟨a, e, h⟩ := h
    exact ⟨a, e, s _ _ h⟩
  · obtain ⟨a, b, vs, e, h1, h2, h3⟩ := h
    exact ⟨a, b, vs, e, s _ _ h1, s _ _ h2, h3.imp ih⟩
theorem RepT.ex {H H' : Hp} (s : TupEx H H') {t : PT} {v : V} (h : RepT H t v) : RepT H' t v := RepT.mono s t v h
theorem RepL.ex {H H' : Hp} (s : TupEx H H') {ts : List PT} {vs : List V} (h : RepL H ts vs) : RepL H' ts vs := h.imp fun t _ => RepT.mono s t
theorem RepL.nil {H : Hp} : RepL H [] [] := rfl
theorem RepL.cons {H : Hp} {t : PT} {ts : List PT} {v : V} {vs : List V} (h : RepT H t v) (hr : RepL H ts vs) : RepL H (t :: ts) (v :: vs) := ⟨v, vs, rfl, h, hr⟩
theorem RepL.append {H : Hp} : ∀ {ts us : List PT} {vs ws : List V}, RepL H ts vs → RepL H us ws → RepL H (ts ++ us) (vs ++ ws)
  | [], us, vs, ws, h, h' => by
    have e : vs = [] := h
    rw [e]
    exact h'
  | t :: ts, us, vs, ws, h, h' => by
    obtain ⟨v, r, e, h1, h2⟩ := h
    rw [e]
    exact .cons h1 (RepL.append h2 h')
theorem RepL.snoc {H : Hp} {t : PT} {ts : List PT} {v : V} {vs : List V} (hr : RepL H ts vs) (h : RepT H t v) : RepL H (ts ++ [t]) (vs ++ [v]) := hr.append (.cons h .nil)
/-- the tag -/
def tag : PT → Str
  | .num _ => "num"
  | .any _ => "any"
  | .app _ _ => "app"
/-- what stands behind the tag -/
def second : PT → V
  | .num n => .int n
  | .any x => .str x
  | .app f _ => .str f
theorem RepT.at {H : Hp} {t : PT} {v : V} (h : RepT H t v) : ∃ a xs, v = .ref a ∧ H a = some (.tup xs) ∧ xs[0]? = some (.str (tag t)) ∧ xs[1]? = some (second t) := by
  cases t with
  | num n => obtain ⟨a, e, h⟩ := h; exact ⟨a, _, e, h, rfl, rfl⟩
  | any x => obtain ⟨a, e, h⟩ := h; exact ⟨a, _, e, h, rfl, rfl⟩
  | app f ks => obtain ⟨a, b, vs, e, h, _⟩ := h; exact ⟨a, _, e, h, rfl, rfl⟩
theorem RepT.kids {H : Hp} {f : Str} {ks : List PT} {v : V} (h : RepT H (.app f ks) v) : ∃ a b vs, v = .ref a ∧ H a = some (.tup [.str "app", .str f, .ref b]) ∧ H b = some (.tup vs) ∧ RepL H ks vs := h
/-! ### puttings-in -/
def RepP (H : Hp) : Puts → List (Key × V) → Prop
  | [], kvs => kvs = []
  | q :: P, kvs => ∃ v r, kvs = (Sum.inr q.1, v) :: r ∧ RepT H q.2 v ∧ RepP H P r
theorem RepP.ex {H H' : Hp} (s : TupEx H H') : ∀ {P : Puts} {kvs : List (Key × V)}, RepP H P kvs → RepP H' P kvs
  | [], _, h => h
  | _ :: _, _, h => by
    obtain ⟨v, r, e, h1, h2⟩ := h
    exact ⟨v, r, e, h1.ex s, RepP.ex s h2⟩
theorem RepP.length {H : Hp} : ∀ {P : Puts} {kvs : List (Key × V)}, RepP H P kvs → kvs.length = P.length
  | [], kvs, h => by
    have e : kvs = [] := h
    rw [e]
    rfl
  | q :: P, kvs, h => by
    obtain ⟨v, r, e, h1, h2⟩ := h
    rw [e, List.length_cons, List.length_cons, RepP.length h2]
theorem RepP.none {H : Hp} : ∀ {P : Puts} {kvs : List (Key × V)} {x : Str}, RepP H P kvs → look P x = none → valV kvs (Sum.inr x : Key) = none
  | [], kvs, x, h, _ => by
    have e : kvs = [] := h
    rw [e]
    rfl
  | q :: P, kvs, x, h, e => by
    obtain ⟨v, r, e1, h1, h2⟩ := h
    obtain ⟨y, t⟩ := q
    unfold look at e
    rw [List.find?_cons] at e
    by_cases hy : y = x
    · rw [decide_eq_true hy] at e
      cases e
    · rw [decide_eq_false hy] at e
      have ih := RepP.none h2 e
      rw [e1]
      unfold valV at ih ⊢
      rw [List.find?_cons, decide_eq_false (show ¬ (Sum.inr y : Key) = Sum.inr x from fun z => hy (Sum.inr.inj z))]
      exact ih
theorem RepP.some {H : Hp} : ∀ {P : Puts} {kvs : List (Key × V)} {x : Str} {t : PT}, RepP H P kvs → look P x = some t → ∃ v, valV kvs (Sum.inr x : Key) = some v ∧ RepT H t v
  | [], kvs, x, t, _, e => by cases e
  | q :: P, kvs, x, t, h, e => by
    obtain ⟨v, r, e1, h1, h2⟩ := h
    obtain ⟨y, u⟩ := q
    unfold look at e
    rw [List.find?_cons] at e
    rw [e1]
    unfold valV
    rw [List.find?_cons]
    by_cases hy : y = x
    · rw [decide_eq_true hy] at e
      cases e
      rw [decide_eq_true (show (Sum.inr y : Key) = Sum.inr x from congrArg Sum.inr hy)]
      exact ⟨v, rfl, h1⟩
    · rw [decide_eq_false hy] at e
      rw [decide_eq_false (show ¬ (Sum.inr y : Key) = Sum.inr x from fun z => hy (Sum.inr.inj z))]
      exact RepP.some h2 e
theorem RepP.snoc {H : Hp} : ∀ {P : Puts} {kvs : List (Key × V)} {x : Str} {t : PT} {v : V}, RepP H P kvs → RepT H t v → RepP H (P ++ [(x, t)]) (kvs ++ [(Sum.inr x, v)])
  | [], kvs, x, t, v, h, ht => by
    have e : kvs = [] := h
    rw [e]
    exact ⟨v, [], rfl, ht, rfl⟩
  | q :: P, kvs, x, t, v, h, ht => by
    obtain ⟨w, r, e, h1, h2⟩ := h
    rw [e]
    exact ⟨w, _, rfl, h1, RepP.snoc h2 ht⟩
/-- the puttings-in P stand at d -/
def PutsAt (H : Hp) (d : Addr) (P : Puts) : Prop := ∃ kvs, H d = Option.some (.dK kvs) ∧ RepP H P kvs
theorem PutsAt.same {H H' : Hp} (s : Same H H') {d : Addr} {P : Puts} (h : PutsAt H d P) : PutsAt H' d P := by
  obtain ⟨kvs, h1, h2⟩ := h
  exact ⟨kvs, s _ _ h1, h2.ex (.of s)⟩
theorem sz {n : Nat} (h : n ≤ 1000000) : n ≤ sizeLine := Nat.le_trans h (by decide)
theorem szl {n : Nat} (h : n < 1000000) : n < sizeLine := Nat.lt_of_lt_of_le h (by decide)
theorem tagA : ∀ {t : PT}, decide (V.str (tag t) = V.str ("any" : Str)) = true ↔ ∃ x, t = .any x
  | .num n => by
    have e : decide (V.str ("num" : Str) = V.str ("any" : Str)) = false := by decide +kernel
    show decide (V.str ("num" : Str) = V.str ("any" : Str)) = true ↔ _
    rw [e]
    constructor
    · intro z
      cases z
    · rintro ⟨x, z⟩
      cases z
  | .any x => ⟨fun _ => ⟨x, rfl⟩, fun _ => decide_eq_true rfl⟩
  | .app f ks => by
    have e : decide (V.str ("app" : Str) = V.str ("any" : Str)) = false := by decide +kernel
    show decide (V.str ("app" : Str) = V.str ("any" : Str)) = true ↔ _
    rw [e]
    constructor
    · intro z
      cases z
    · rintro ⟨x, z⟩
      cases z
end G35

/-! GLib -/
set_option Elab.async false
set_option linter.all false
set_option maxRecDepth 100000
set_option maxHeartbeats 4000000
/-! Readings that leave the heap as it is; statements. -/
namespace G35
open PySem PySem.Spec PyProof.Rows L2
def Rds (te : TE) (σ : L2.St) (H : Hp) (v : V) : Prop := ∀ Q : VK, Q v H → te σ H Q
def RdT (tt : TT) (σ : L2.St) (H : Hp) (b : Bool) : Prop := ∀ Q : Bool → Hp → Prop, Q b H → tt σ H Q
def RdA (ta : TA) (σ : L2.St) (H : Hp) (vs : List V) : Prop := ∀ Q : List V → Hp → Prop, Q vs H → ta σ H Q
section
variable {K : PySem.W.Frag} {σ : L2.St} {H : Hp} {ta tb td te : TE} {t u : TT} {x y z v : V} {r : R2} {D : Ends} {tu tw : TS}
theorem rd_var {i : Nat} (h : σ[i]? = some (some v)) : Rds (tVar i) σ H v := fun _ q => ⟨v, h, q⟩
theorem rd_c : Rds (tC v) σ H v := fun _ q => q
theorem rd_op (ha : Rds ta σ H x) (hb : Rds tb σ H y) (hr : ∀ Q : VK, Q z H → r x y H Q) : Rds (tOp r ta tb) σ H z := fun Q q => ha _ (hb _ (hr Q q))
theorem rd_ixT {p : Addr} {xs : List V} {n : Nat} (ha : Rds ta σ H (.ref p)) (hb : Rds tb σ H (.int (n : Int))) (h : H p = some (.tup xs)) (e : xs[n]? = some v) : Rds (tOp (rIxT K) ta tb) σ H v :=
  rd_op ha hb fun _ q => ⟨p, xs, (n : Int), v, rfl, rfl, SqT.of h, atI_nat e, q⟩
theorem rd_ixL {p : Addr} {xs : List V} {n : Nat} (ha : Rds ta σ H (.ref p)) (hb : Rds tb σ H (.int (n : Int))) (h : H p = some (.lst xs)) (e : xs[n]? = some v) : Rds (tOp (rIxL K) ta tb) σ H v :=
  rd_op ha hb fun _ q => ⟨p, xs, (n : Int), v, rfl, rfl, SqL.of h, atI_nat e, q⟩
theorem rd_eqS {a b : Str} (ha : Rds ta σ H (.str a)) (hb : Rds tb σ H (.str b)) : Rds (tOp rEq ta tb) σ H (.bl (decide (V.str a = V.str b))) := rd_op ha hb fun _ q => ⟨rfl, q⟩
theorem rd_neS {a b : Str} (ha : Rds ta σ H (.str a)) (hb : Rds tb σ H (.str b)) : Rds (tOp rNe ta tb) σ H (.bl (!decide (V.str a = V.str b))) := rd_op ha hb fun _ q => ⟨rfl, q⟩
theorem rd_eqI {a b : Int} (ha : Rds ta σ H (.int a)) (hb : Rds tb σ H (.int b)) : Rds (tOp rEq ta tb) σ H (.bl (decide (V.int a = V.int b))) := rd_op ha hb fun _ q => ⟨rfl, q⟩
theorem rd_neI {a b : Int} (ha : Rds ta σ H (.int a)) (hb : Rds tb σ H (.int b)) : Rds (tOp rNe ta tb) σ H (.bl (!decide (V.int a = V.int b))) := rd_op ha hb fun _ q => ⟨rfl, q⟩
theorem rd_I0 {g : Int → Int → V} {a b : Int} (ha : Rds ta σ H (.int a)) (hb : Rds tb σ H (.int b)) : Rds (tOp (rI0 g) ta tb) σ H (g a b) := rd_op ha hb fun _ q => ⟨a, b, rfl, rfl, q⟩
theorem rdT_test {b : Bool} (h : Rds te σ H (.bl b)) : RdT (tTest te) σ H b := fun _ q => h _ ⟨b, rfl, q⟩
theorem rdT_B {b : Bool} (h : Rds te σ H (.bl b)) : RdT (tB te) σ H b := fun _ q => h _ ⟨b, rfl, q⟩
theorem rdT_and {a b : Bool} (h1 : RdT t σ H a) (h2 : a = true → RdT u σ H b) : RdT (tAnd t u) σ H (a && b) := fun Q q => h1 _ (by
  cases a with
  | true => exact h2 rfl Q q
  | false => exact q)
theorem rdT_or {a b : Bool} (h1 : RdT t σ H a) (h2 : a = false → RdT u σ H b) : RdT (tOr t u) σ H (a || b) := fun Q q => h1 _ (by
  cases a with
  | true => exact q
  | false => exact h2 rfl Q q)
theorem rdT_not {a : Bool} (h1 : RdT t σ H a) : RdT (tNot t) σ H (!a) := fun Q q => h1 _ q
theorem rd_din {d : Addr} {kvs : List (Key × V)} {a : Str} (ha : Rds ta σ H (.str a)) (hd : Rds td σ H (.ref d)) (h : H d = some (.dK kvs)) : Rds (tDIn ta td) σ H (.bl (valV kvs (Sum.inr a : Key)).isSome) := fun Q q =>
  ha _ (hd _ ⟨d, _, rfl, DGet.k (k := Sum.inr a) h, q⟩)
theorem rd_dget {d : Addr} {kvs : List (Key × V)} {a : Str} (ha : Rds ta σ H (.str a)) (hd : Rds td σ H (.ref d)) (h : H d = some (.dK kvs)) (e : valV kvs (Sum.inr a : Key) = some v) : Rds (tDGet td ta) σ H v := fun Q q =>
  hd _ (ha _ ⟨d, v, rfl, by rw [← e]; exact DGet.k (k := Sum.inr a) h, q⟩)
theorem rd_lenL {p : Addr} {xs : List V} (ha : Rds ta σ H (.ref p)) (h : H p = some (.lst xs)) : Rds (tCB (fun xs H Q => ∃ p ys, xs = [.ref p] ∧ (SqL K H p ys ∨ SqT K H p ys) ∧ Q (.int ys.length) H) (tCons ta tNil)) σ H (.int (xs.length : Int)) := fun Q q =>
  ha _ ⟨p, xs, rfl, .inl (SqL.of h), q⟩
theorem rd_lenT {p : Addr} {xs : List V} (ha : Rds ta σ H (.ref p)) (h : H p = some (.tup xs)) : Rds (tCB (fun xs H Q => ∃ p ys, xs = [.ref p] ∧ (SqL K H p ys ∨ SqT K H p ys) ∧ Q (.int ys.length) H) (tCons ta tNil)) σ H (.int (xs.length : Int)) := fun Q q =>
  ha _ ⟨p, xs, rfl, .inr (SqT.of h), q⟩
theorem ra_nil : RdA tNil σ H [] := fun _ q => q
theorem ra_cons {tr : TA} {vs : List V} (h : Rds ta σ H x) (hr : RdA tr σ H vs) : RdA (tCons ta tr) σ H (x :: vs) := fun _ q => h _ (hr _ q)
/-! statements -/
theorem s_set {i : Nat} (h : Rds te σ H v) (k : D.nx (σ.set i (some v)) H) : tAsg te (gName i) D σ H := h _ k
theorem s_ret (h : Rds te σ H v) (k : D.rt v H) : tRet te D σ H := h _ k
theorem s_if {b : Bool} (h : RdT t σ H b) (h1 : b = true → tu D σ H) (h2 : b = false → tw D σ H) : tIfS t tu tw D σ H := h _ (by
  cases b with
  | true => exact h1 rfl
  | false => exact h2 rfl)
/-- a while whose test leaves the heap as it is -/
theorem s_while (W : Nat → L2.St → Hp → Prop) (m0 : Nat) (h0 : W m0 σ H)
    (hs : ∀ m σ' H', W m σ' H' → ∃ b, RdT t σ' H' b ∧ (b = true → tu { D with nx := fun σ2 H2 => ∃ m', m' < m ∧ W m' σ2 H2, ct := fun σ2 H2 => ∃ m', m' < m ∧ W m' σ2 H2, bk := D.nx } σ' H') ∧ (b = false → D.nx σ' H')) : tWhile t tu D σ H :=
  ⟨W, ⟨m0, h0⟩, fun m σ' H' hw => by
    obtain ⟨b, hb, h1, h2⟩ := hs m σ' H' hw
    refine hb _ ?_
    cases b with
    | true => exact ⟨_, fun _ _ z => z, h1 rfl⟩
    | false => exact h2 rfl⟩
/-- a call -/
theorem rd_tag {tm : PT} (ha : Rds ta σ H v) (h : RepT H tm v) : Rds (tOp (rIxT K) ta (tC (.int 0))) σ H (.str (tag tm)) := by
  obtain ⟨a, xs, rfl, h1, h2, h3⟩ := h.at
  exact rd_ixT (n := 0) ha rd_c h1 h2
theorem rd_second {tm : PT} (ha : Rds ta σ H v) (h : RepT H tm v) : Rds (tOp (rIxT K) ta (tC (.int 1))) σ H (second tm) := by
  obtain ⟨a, xs, rfl, h1, h2, h3⟩ := h.at
  exact rd_ixT (n := 1) ha rd_c h1 h3
theorem dec_any (x : Str) : decide (V.str (tag (.any x)) = V.str ("any" : Str)) = true := decide_eq_true rfl
theorem dec_num (n : Int) : decide (V.str (tag (.num n)) = V.str ("any" : Str)) = false := by
  show decide (V.str ("num" : Str) = V.str ("any" : Str)) = false
  decide +kernel
theorem dec_app (f : Str) (ks : List PT) : decide (V.str (tag (.app f ks)) = V.str ("any" : Str)) = false := by
  show decide (V.str ("app" : Str) = V.str ("any" : Str)) = false
  decide +kernel
theorem dea_any (x : Str) : decide (V.str (tag (.any x)) = V.str ("app" : Str)) = false := by
  show decide (V.str ("any" : Str) = V.str ("app" : Str)) = false
  decide +kernel
theorem dea_num (n : Int) : decide (V.str (tag (.num n)) = V.str ("app" : Str)) = false := by
  show decide (V.str ("num" : Str) = V.str ("app" : Str)) = false
  decide +kernel
theorem dea_app (f : Str) (ks : List PT) : decide (V.str (tag (.app f ks)) = V.str ("app" : Str)) = true := decide_eq_true rfl
theorem den_any (x : Str) : decide (V.str (tag (.any x)) = V.str ("num" : Str)) = false := by
  show decide (V.str ("any" : Str) = V.str ("num" : Str)) = false
  decide +kernel
theorem den_app (f : Str) (ks : List PT) : decide (V.str (tag (.app f ks)) = V.str ("num" : Str)) = false := by
  show decide (V.str ("app" : Str) = V.str ("num" : Str)) = false
  decide +kernel
theorem den_num (n : Int) : decide (V.str (tag (.num n)) = V.str ("num" : Str)) = true := decide_eq_true rfl
end
end G35

/-! GW1 -/
set_option Elab.async false
set_option linter.all false
set_option maxRecDepth 100000
set_option maxHeartbeats 4000000
namespace G35
open PySem PySem.Spec PyProof.Rows L2
/-! ### walked -/
/-- walked(term, puts): what it comes to; nothing changes -/
def spWalked : Sp := fun vs H Q _ => ∃ (t r : PT) (P : Puts) (v : V) (d : Addr), vs = [v, .ref d] ∧ RepT H t v ∧ PutsAt H d P ∧ Walked P t r ∧ ∀ v', RepT H r v' → Q v' H
section
variable {P : Program} {w : World} {K : PySem.W.Frag} {mg : Str → Option Value} {base : Heap}
theorem sc_walked : FnScope ["term", "puts"] ["term", "puts"] d_walked.scope := ⟨rfl, rfl, rfl, by decide +kernel, rfl, by decide +kernel, by decide +kernel⟩
theorem ok_walked (T : T35 K mg) : Cl P w K mg base CX0 1 "walked" ["term", "puts"] spWalked := by
  refine cl_of (d := d_walked) T 8 rfl rfl rfl rfl sc_walked (fun vs H Q E h => ?_) (fun _ _ _ _ _ _ us hl => match us, hl with | [_, _], _ => rfl) (fun cdv A outer s H vs Q E hr h => ?_)
  · obtain ⟨t, r, P, v, d, rfl, _⟩ := h
    rfl
  · obtain ⟨t, r, P, v, d, rfl, ht, ⟨kvs, hd, hP⟩, ⟨n, hw⟩, k⟩ := h
    have hu := hu_of hr
    refine ⟨_, pss_cons (ps_while PassesOwn.never (PW.pt (pw_and (pt_cmpR op_eq (pe_ix ix_tup (pv 0) pe_int (fun _ _ => rfl)) pe_str (nomark _)) (pw_and1 (pt_cmp (pc_din hu (pe_ix ix_tup (pv 0) pe_int (fun _ _ => rfl)) (pv 1)))))) (pss_one (ps_set (i := 0) sc_walked.nd rfl (Or.inl rfl) (pe_dget hu (pv 1) (pe_ix ix_tup (pv 0) pe_int (fun _ _ => rfl)) (fun _ _ => rfl)))))
      (pss_one (ps_ret (pv 0))), ?_⟩
    refine s_while (fun m σ H' => ∃ t v, σ = [some v, some (.ref d)] ∧ H' = H ∧ RepT H t v ∧ walkF m P t = some r) n ⟨t, v, rfl, rfl, ht, hw⟩ ?_
    rintro m σ H' ⟨t, v, rfl, rfl, ht, hw⟩
    cases m with
    | zero => cases hw
    | succ m =>
      have fin : r = t → tRet (tVar 0) { nx := fun _ H' => Q .non H', rt := Q } [some v, some (.ref d)] H' := fun e => s_ret (rd_var rfl) (k v (by rw [e]; exact ht))
      cases t with
      | num i =>
        refine ⟨_, rdT_and (b := false) (rdT_test (rd_eqS (rd_tag (rd_var rfl) ht) rd_c)) (fun z => ?_), fun z => ?_, fun _ => fin ?_⟩
        · rw [dec_num] at z; cases z
        · rw [dec_num] at z; cases z
        · cases hw; rfl
      | app f ks =>
        refine ⟨_, rdT_and (b := false) (rdT_test (rd_eqS (rd_tag (rd_var rfl) ht) rd_c)) (fun z => ?_), fun z => ?_, fun _ => fin ?_⟩
        · rw [dec_app] at z; cases z
        · rw [dec_app] at z; cases z
        · cases hw; rfl
      | any x =>
        refine ⟨_, rdT_and (rdT_test (rd_eqS (rd_tag (rd_var rfl) ht) rd_c)) (fun _ => rdT_B (rd_din (rd_second (rd_var rfl) ht) (rd_var rfl) hd)), fun z => ?_, fun z => ?_⟩
        · cases e : look P x with
          | none => 
            rw [dec_any, hP.none e] at z
            cases z
          | some u =>
            obtain ⟨v', q1, q2⟩ := hP.some e
            rw [walkF_some _ e] at hw
            exact s_set (rd_dget (rd_second (rd_var rfl) ht) (rd_var rfl) hd q1) ⟨m, Nat.lt_succ_self _, u, v', rfl, rfl, q2, hw⟩
        · cases e : look P x with
          | none =>
            rw [walkF_none _ e] at hw
            exact fin (by cases hw; rfl)
          | some u =>
            obtain ⟨v', q1, q2⟩ := hP.some e
            rw [dec_any, q1] at z
            cases z
end
end G35

/-! GHot1 -/
set_option Elab.async false
set_option linter.all false
set_option maxRecDepth 100000
set_option maxHeartbeats 4000000
/-! An iteration's end, an exception being handled or none. -/
namespace G35
open PySem PySem.Spec PyProof.Rows L2
/-- nothing is handled, or an exception whose context is None -/
def Rdy (A : Around) (h : Heap) (x1 : Addr) : Prop := A.handled = none ∨ HotX.HotAt A x1 h
theorem Rdy.at {A : Around} {h h' : Heap} {x1 : Addr} (r : Rdy A h x1) (k : ∀ o, h.get? x1 = some o → h'.get? x1 = some o) : Rdy A h' x1 := by
  rcases r with r | ⟨r1, o, vs, r2, r3⟩
  · exact .inl r
  · exact .inr ⟨r1, o, vs, k o r2, r3⟩
theorem Rdy.in1 {A : Around} {h : Heap} {x1 : Addr} (r : Rdy A h x1) : Rdy A.in1 h x1 := r
section
variable {prog : Program} {w : World} {A : Around} {E : Value → Shared → Prop} {s : Shared} {x1 : Addr}
theorem stop_any {α : Type} {Q : α → Shared → Prop} (r : Rdy A s.heap x1)
    (k : ∀ (a : Addr) (h' : Heap), (∀ b o, s.heap.get? b = some o → h'.get? b = some o) → (∃ o, h'.get? a = some o ∧ o.cls = .type "StopIteration") → E (.ref a) { s with heap := h' }) :
    wpAny (model prog w) A (newExc (.type "StopIteration") [] >>= fun v => (raiseNew v : Sem α)) Q E s := by
  refine wpAny_bind ?_
  simp only [newExc, newTuple]
  refine wpAny_bind (wpAny_newObj_type ?_ (by size_fits))
  refine wpAny_bind (m := firstArgMember _ _) (wpAny_of_eq (a := Value.none) (by first | rfl | (simp only [firstArgMember]; rfl)) ?_)
  refine wpAny_newObj_type ?_ (by size_fits)
  rcases r with hh | ⟨hh, o1, vs1, h1, d1, c1⟩
  · simp only [raiseNew]
    refine wpAny_bind (wpAny_handled ?_)
    rw [hh]
    exact wpAny_bind (wpAny_pure (wpAny_throw (k _ _ (fun b o e => Heap.get?_push_of_some _ (Heap.get?_push_of_some _ e)) ⟨_, Heap.get?_push_size _ rfl, rfl⟩)))
  · refine HotX.raiseNew_hot ⟨hh, o1, vs1, Heap.get?_push_of_some _ (Heap.get?_push_of_some _ h1), d1, c1⟩ (Nat.ne_of_lt (Heap.lt_size (Heap.get?_push_of_some _ h1))) (Heap.get?_push_size _ rfl) rfl (by first | (simp; done) | (simp; omega)) ?_
    refine k _ _ (fun b o e => ?_) ⟨_, Heap.get?_update_self _ (Heap.get?_push_size _ rfl) rfl, rfl⟩
    rw [Heap.get?_update_other _ _ (Nat.ne_of_gt (Heap.lt_size (Heap.get?_push_of_some _ e)))]
    exact Heap.get?_push_of_some _ (Heap.get?_push_of_some _ e)
/-- a list's iterator at its end -/
theorem end_list {it l : Addr} {i : Nat} {items : Array Value} {Q : Option Value → Shared → Prop} (r : Rdy A s.heap x1) (hx1 : x1 ≠ it) (hit : s.heap.IsListIter it l i) (hl : s.heap.IsList l items) (hx : items[i]? = none)
    (hQ : ∀ h', Heap.ExtBut it s.heap h' → Q none { s with heap := h' }) : wpAny (model prog w) A (pyNext (.ref it)) Q E s := by
  obtain ⟨o, ho, hc, hd⟩ := id hit
  obtain ⟨ol, hol, _, nl, hdl⟩ := hl
  unfold pyNext
  refine wpAny_bind (wpAny_attempt (wpAny_callSpecial?_slot (name := Str.ofString "__next__") hit.typeIs slot_listiter_next (wpAny_call_entry slot_listiter_next hit.typeIs entry_listiter_next ?_ (args_listiter_next _))))
  show wpAny _ _ (field (.ref it) 0 >>= _) _ _ s
  refine wpAny_bind (wpAny_field ho hd (x := .ref l) rfl ?_)
  show wpAny _ _ (if (Value.ref l == Value.none) = true then _ else _) _ _ s
  rw [if_neg (by simp)]
  show wpAny _ _ (field (.ref it) 1 >>= _) _ _ s
  refine wpAny_bind (wpAny_field ho hd (x := .int i 0) rfl ?_)
  show wpAny _ _ (seqItems? (.ref l) >>= _) _ _ s
  refine wpAny_bind (wpAny_seqItems hol hdl ?_)
  simp only [Int.toNat_natCast, hx]
  refine wpAny_bind (wpAny_rule (wpAny_bind (wpAny_setField ho hd (by simp) ?_)))
  have eb : Heap.ExtBut it s.heap (s.heap.update it (Obj.mapFields (·.setIfInBounds 0 Value.none))) := (Heap.SameBut.update ..).extBut
  refine stop_any (s := { s with heap := s.heap.update it (Obj.mapFields (·.setIfInBounds 0 Value.none)) }) (r.at fun o e => eb x1 o hx1 e) fun a h' k ⟨oa, ea, ca⟩ => ?_
  refine wpAny_bind (wpAny_isInstance (T := "StopIteration") (b := true) ⟨oa, ea, ca⟩ isSubtype_stop ?_)
  exact wpAny_pure (hQ h' fun b o hb e => k b o (eb b o hb e))
/-- a reversed list's iterator at its end -/
theorem end_rev {it l : Addr} {Q : Option Value → Shared → Prop} (r : Rdy A s.heap x1) (hit : s.heap.IsRevIter it l (-1))
    (hQ : ∀ h', Heap.ExtBut it s.heap h' → Q none { s with heap := h' }) : wpAny (model prog w) A (pyNext (.ref it)) Q E s := by
  obtain ⟨o, ho, hc, hd⟩ := id hit
  unfold pyNext
  refine wpAny_bind (wpAny_attempt (wpAny_callSpecial?_slot (name := Str.ofString "__next__") hit.typeIs F.slot_lri_next (wpAny_call_entry F.slot_lri_next hit.typeIs F.entry_lri_next ?_ (F.args_lri_next_1 _))))
  unfold Builtin.«list_reverseiterator.__next__»
  refine wpAny_bind (wpAny_of_eq (a := (Value.ref it, [])) rfl ?_)
  try dsimp only
  refine wpAny_bind (wpAny_field ho hd (x := rawInt (-1)) rfl ?_)
  show wpAny _ _ (if (-1 : Int) < 0 then _ else _) _ _ s
  rw [if_pos (show (-1 : Int) < 0 from by decide)]
  refine wpAny_bind (wpAny_rule ?_)
  first
  | refine stop_any r fun a h' k ⟨oa, ea, ca⟩ => ?_
  | (refine wpAny_bind ?_; refine stop_any r fun a h' k ⟨oa, ea, ca⟩ => ?_)
  refine wpAny_bind (wpAny_isInstance (T := "StopIteration") (b := true) ⟨oa, ea, ca⟩ isSubtype_stop ?_)
  exact wpAny_pure (hQ h' fun b o hb e => k b o e)
/-- a reversed tuple's -/
theorem end_rt {it t : Addr} {Q : Option Value → Shared → Prop} (r : Rdy A s.heap x1) (hx1 : x1 ≠ it) (hit : RT.IsRt s.heap it t (-1))
    (hQ : ∀ h', Heap.ExtBut it s.heap h' → Q none { s with heap := h' }) : wpAny (model prog w) A (pyNext (.ref it)) Q E s := by
  obtain ⟨o, ho, hc, hd⟩ := id hit
  unfold pyNext
  refine wpAny_bind (wpAny_attempt (wpAny_callSpecial?_slot (name := Str.ofString "__next__") hit.typeIs RT.slot_rt_next (wpAny_call_entry RT.slot_rt_next hit.typeIs RT.entry_rt_next ?_ (RT.args_rt_next _))))
  unfold Builtin.«reversed.__next__»
  refine wpAny_bind (wpAny_of_eq (a := (Value.ref it, [])) rfl ?_)
  try dsimp only
  refine wpAny_bind (wpAny_field ho hd (x := .ref t) rfl ?_)
  try dsimp only
  refine wpAny_bind (wpAny_field ho hd (x := rawInt (-1)) rfl ?_)
  show wpAny _ _ (if (-1 : Int) < 0 then _ else _) _ _ s
  rw [if_pos (show (-1 : Int) < 0 from by decide)]
  try dsimp only
  refine wpAny_bind (wpAny_rule ?_)
  refine wpAny_bind ?_
  wp_delta
  refine wpAny_bind (wpAny_setField ho hd (by simp) ?_)
  have ho2 := Heap.get?_update_self (Obj.mapFields (·.setIfInBounds 1 (rawInt (-1)))) ho (Obj.isFreed_of_fields (Obj.data_mapFields hd _))
  refine wpAny_setField (s := { s with heap := s.heap.update it (Obj.mapFields (·.setIfInBounds 1 (rawInt (-1)))) }) ho2 (Obj.data_mapFields hd _) (by simp) ?_
  try dsimp only
  have kb : ∀ b o, b ≠ it → s.heap.get? b = some o → ((s.heap.update it (Obj.mapFields (·.setIfInBounds 1 (rawInt (-1))))).update it (Obj.mapFields (·.setIfInBounds 0 Value.none))).get? b = some o := fun b o hb e => (Heap.get?_update_other _ _ (Ne.symm hb)).trans ((Heap.get?_update_other _ _ (Ne.symm hb)).trans e)
  first
  | refine stop_any (s := { s with heap := (s.heap.update it (Obj.mapFields (·.setIfInBounds 1 (rawInt (-1))))).update it (Obj.mapFields (·.setIfInBounds 0 Value.none)) }) (r.at fun o e => kb x1 o hx1 e) fun a h' k ⟨oa, ea, ca⟩ => ?_
  | (refine wpAny_bind ?_; refine stop_any (s := { s with heap := (s.heap.update it (Obj.mapFields (·.setIfInBounds 1 (rawInt (-1))))).update it (Obj.mapFields (·.setIfInBounds 0 Value.none)) }) (r.at fun o e => kb x1 o hx1 e) fun a h' k ⟨oa, ea, ca⟩ => ?_)
  | (refine wpAny_bind ?_; wp_delta; refine stop_any (s := { s with heap := (s.heap.update it (Obj.mapFields (·.setIfInBounds 1 (rawInt (-1))))).update it (Obj.mapFields (·.setIfInBounds 0 Value.none)) }) (r.at fun o e => kb x1 o hx1 e) fun a h' k ⟨oa, ea, ca⟩ => ?_)
  refine wpAny_bind (wpAny_isInstance (T := "StopIteration") (b := true) ⟨oa, ea, ca⟩ isSubtype_stop ?_)
  exact wpAny_pure (hQ h' fun b o hb e => k b o (kb b o hb e))
/-- a dict's -/
theorem end_key {it d : Addr} {i n ep : Nat} {od : Obj} {es : Array DictEntry} {Q : Option Value → Shared → Prop} (r : Rdy A s.heap x1) (hx1 : x1 ≠ it) (hit : s.heap.IsKeyIter it d i n ep) (hod : s.heap.get? d = some od) (hdd : od.data = .dict es ep)
    (hsz : es.size = n) (hge : n ≤ i) (hQ : ∀ h', Heap.ExtBut it s.heap h' → Q none { s with heap := h' }) : wpAny (model prog w) A (pyNext (.ref it)) Q E s := by
  obtain ⟨o, ho, hc, hd⟩ := id hit
  unfold pyNext
  refine wpAny_bind (wpAny_attempt (wpAny_callSpecial?_slot (name := Str.ofString "__next__") hit.typeIs F.slot_dict_keyiterator_next (wpAny_call_entry F.slot_dict_keyiterator_next hit.typeIs F.entry_dict_keyiterator_next ?_ (F.args_dict_keyiterator_next_1 _))))
  refine wpAny_bind (wpAny_pure ?_)
  refine wpAny_bind ?_
  refine wpAny_bind ?_
  first | refine wpAny_bind (wpAny_typeNameOfWhole_keyiter hit.typeIs (wpAny_pure ?_)) | refine wpAny_bind (wpAny_typeNameOf_keyiter hit.typeIs (wpAny_pure ?_))
  refine wpAny_bind (wpAny_fieldsOf ho hd ?_)
  have hown : Builtin.Dict_items.ownsTuple "dict_keyiterator" = false := by decide
  simp only [hown, Bool.false_eq_true, if_false]
  show wpAny _ _ (if (Value.ref d == Value.none) = true then _ else _) _ _ s
  rw [if_neg (by simp)]
  refine wpAny_bind (wpAny_pure ?_)
  refine wpAny_bind (wpAny_dictEntries hod hdd ?_)
  rw [if_neg (by rw [hsz]; simp)]
  refine wpAny_bind (wpAny_pure ?_)
  refine wpAny_bind (wpAny_dictEpoch hod hdd ?_)
  rw [if_neg (by simp)]
  refine wpAny_pure ?_
  have hge' : es.size ≤ i := by rw [hsz]; exact hge
  simp only [show ¬ ((i : Int) < 0) from by omega, if_false, Int.toNat_natCast, Array.getElem?_eq_none hge']
  refine wpAny_bind ?_
  first | refine wpAny_bind (wpAny_typeNameOfWhole_keyiter hit.typeIs (wpAny_pure ?_)) | refine wpAny_bind (wpAny_typeNameOf_keyiter hit.typeIs (wpAny_pure ?_))
  show wpAny _ _ (setField (.ref it) 0 .none >>= _) _ _ s
  refine wpAny_bind (wpAny_setField ho hd (by simp) ?_)
  have eb : Heap.ExtBut it s.heap (s.heap.update it (Obj.mapFields (·.setIfInBounds 0 Value.none))) := (Heap.SameBut.update ..).extBut
  refine stop_any (s := { s with heap := s.heap.update it (Obj.mapFields (·.setIfInBounds 0 Value.none)) }) (r.at fun o e => eb x1 o hx1 e) fun a h' k ⟨oa, ea, ca⟩ => ?_
  refine wpAny_bind (wpAny_isInstance (T := "StopIteration") (b := true) ⟨oa, ea, ca⟩ isSubtype_stop ?_)
  exact wpAny_pure (hQ h' fun b o hb e => k b o (eb b o hb e))
end
end G35

/-! GHot2 -/
set_option Elab.async false
set_option linter.all false
set_option maxRecDepth 100000
set_option maxHeartbeats 4000000
/-! list(..) of an iterator or a dict, an exception being handled or none. -/
namespace G35
open PySem PySem.Spec PyProof.Rows L2
section
variable {prog : Program} {w : World} {A : Around} {E : Value → Shared → Prop} {s : Shared} {x1 : Addr}
theorem slot_rt_hint : Slot "reversed" "__length_hint__" "reversed.__length_hint__" :=
  .of (owner := "reversed") (n := "__length_hint__") (by rw [typeLookup_type, builtinLookup_eq_fast]; kernel_rfl) (by decide +kernel) (by decide +kernel) (by decide +kernel)
    (by first | exact .inl (by decide +kernel) | exact .inr (by decide +kernel)) (by rw [isSubtype_type]; kernel_rfl)
theorem entry_rt_hint : entryFor table "reversed.__length_hint__" = some Builtin.«reversed.__length_hint__» := entryFor_of_tree (by kernel_rfl)
theorem args_rt_hint (a : Value) : argsOk "reversed.__length_hint__" ⟨[a], []⟩ := by
  unfold argsOk; rw [signature?_of (id := "reversed.__length_hint__") (n := "__length_hint__".toList.reverse) (o := ['d', 'e', 's', 'r', 'e', 'v', 'e', 'r']) (by kernel_rfl) RT.owner_rt]; kernel_rfl
theorem nolen_rt : typeLookup (.type "reversed") "__len__" = pure none := by rw [typeLookup_type, builtinLookup_eq_fast]; kernel_rfl
theorem hint_rev {it : Addr} {Q : Bool → Shared → Prop} (hT : s.TypeIs (.ref it) "list_reverseiterator") (h : Q false s) : wpAny (model prog w) A (Builtin.List.listLengthHint (.ref it)) Q E s := by
  unfold Builtin.List.listLengthHint
  refine wpAny_bind (wpAny_specialOf hT RT.nolen_lri ?_)
  show wpAny _ A (specialOf (Value.ref it) (Str.ofString "__length_hint__") >>= _) _ _ _
  refine wpAny_bind (wpAny_specialOf hT RT.hint_lri ?_)
  generalize hid : ("list_reverseiterator.__length_hint__" : String) = id0
  wp_delta
  rw [show splitId id0 = some ("list_reverseiterator", "__length_hint__") from by subst hid; decide +kernel]
  subst hid
  refine wpAny_bind (wpAny_isInstance (b := true) hT (by rw [isSubtype_type]; kernel_rfl) ?_)
  exact wpAny_pure h
theorem hint_rt {it t : Addr} {items : Array Value} {i : Nat} {Q : Bool → Shared → Prop} (hit : RT.IsRt s.heap it t ((i : Int) - 1)) (ht : IsTup s.heap t items) (hi : i ≤ items.size) (hz : items.size ≤ sizeLine)
    (h : ∀ b tk, Q b { s with toks := tk }) : wpAny (model prog w) A (Builtin.List.listLengthHint (.ref it)) Q E s := by
  obtain ⟨o, ho, hc, hd⟩ := id hit
  have hT : s.TypeIs (.ref it) "reversed" := hit.typeIs
  rw [sizeLine_eq] at hz
  unfold Builtin.List.listLengthHint
  refine wpAny_bind (wpAny_specialOf hT nolen_rt ?_)
  show wpAny _ A (specialOf (Value.ref it) (Str.ofString "__length_hint__") >>= _) _ _ _
  refine wpAny_bind (wpAny_specialOf hT slot_rt_hint.lookup ?_)
  generalize hid : ("reversed.__length_hint__" : String) = id0
  wp_delta
  rw [show splitId id0 = some ("reversed", "__length_hint__") from by subst hid; decide +kernel]
  subst hid
  refine wpAny_bind (wpAny_isInstance (b := true) hT (by rw [isSubtype_type]; kernel_rfl) ?_)
  show wpAny _ A (rule _ >>= _) _ _ _
  refine wpAny_bind (wpAny_rule ?_)
  rw [slot_rt_hint.bind]
  refine wpAny_bind (wpAny_pure ?_)
  refine wpAny_bind (wpAny_attempt (wpAny_call_entry slot_rt_hint hT entry_rt_hint ?_ (args_rt_hint _)))
  unfold Builtin.«reversed.__length_hint__»
  refine wpAny_bind (wpAny_of_eq (a := Value.ref it) rfl ?_)
  refine wpAny_bind (wpAny_field ho hd (x := .ref t) rfl ?_)
  rw [if_neg (by simp)]
  refine wpAny_bind (PyProof.Rows.len_tuple ht (by omega) ?_)
  refine wpAny_bind (wpAny_of_eq (a := some ((items.size : Nat) : Int)) rfl ?_)
  refine wpAny_bind (wpAny_field (s := { s with toks := s.toks + 1 + 1 }) ho hd (x := rawInt ((i : Int) - 1)) rfl ?_)
  show wpAny _ _ (if (items.size : Int) < (i : Int) - 1 + 1 then _ else _) _ _ _
  rw [if_neg (by omega)]
  have e1 : (i : Int) - 1 + 1 = (i : Int) := by omega
  show wpAny _ _ (retInt ((i : Int) - 1 + 1)) _ _ _
  rw [e1]
  unfold retInt
  refine wpAny_bind (wpAny_mkInt ?_)
  refine wpAny_pure ⟨_, rfl, ?_⟩
  have f1 : Builtin.List.listFitsIndex (i : Int) = true := by unfold Builtin.List.listFitsIndex; simp; omega
  have f2 : Builtin.List.listTooLong (i : Int).toNat = false := by unfold Builtin.List.listTooLong; rw [sizeLine_eq]; simp; omega
  have f3 : ¬ (i : Int) < 0 := by omega
  dsimp only
  simp only [asInt?, pure_bind, f1, f2]
  rw [if_neg (by decide), if_neg f3, if_neg (by decide)]
  exact wpAny_pure (h _ _)
/-- list(r), r walked by a state's iterator -/
structure Src (prog : Program) (w : World) (A : Around) (r : Addr) (n : Nat) (P : Nat → Value → Prop) (wr0 : List Addr) (s s' : Shared) : Prop where
  ex : ∃ (I : Addr) (h1 : Heap) (fp wr : List Addr) (St : Nat → Heap → Prop), (∀ (E : Value → Shared → Prop) (Q : Value → Shared → Prop), Q (.ref I) { s' with heap := h1 } → wpAny (model prog w) A (pyIter (.ref r)) Q E s') ∧
    (∀ b o, s'.heap.get? b = some o → h1.get? b = some o) ∧ (∀ (E : Value → Shared → Prop) (Q : Bool → Shared → Prop), (∀ b tk, Q b { s' with heap := h1, toks := tk }) → wpAny (model prog w) A (Builtin.List.listLengthHint (.ref r)) Q E { s' with heap := h1 }) ∧
    Walks prog w A I fp wr n P St ∧ St 0 h1 ∧ s.heap.objs.size ∉ fp ∧ ∀ b ∈ wr, b ∈ wr0 ∨ s'.heap.objs.size ≤ b
theorem list_iter {r : Addr} {T : String} {n : Nat} {P : Nat → Value → Prop} {wr0 : List Addr} {Q : Value → Shared → Prop} (hT : s.TypeIs (.ref r) T) (nl : (Value.type T == Value.type "list") = false) (nt : (Value.type T == Value.type "tuple") = false)
    (src : ∀ (A' : Around) (s' : Shared), A'.handled = A.handled → (∀ b o, s.heap.get? b = some o → s'.heap.get? b = some o) → s.heap.objs.size < s'.heap.objs.size → Src prog w A' r n P wr0 s s') (hn : n ≤ sizeLine)
    (hQ : ∀ (h' : Heap) (tk : Nat) (acc : Array Value) (c : Nat), (∀ b o, b ∉ wr0 → s.heap.get? b = some o → h'.get? b = some o) → h'.get? s.heap.objs.size = some { cls := .type "list", dict := none, data := .seq acc c, slots := #[] } → ItemsOf P acc n → Q (.ref s.heap.objs.size) { s with heap := h', toks := tk }) :
    wpAny (model prog w) A (call (.type "list") [.ref r]) Q E s := by
  have hlt : r < s.heap.objs.size := by
    obtain ⟨o, ho, _⟩ := hT
    exact Heap.lt_size ho
  refine callType_codes (Q₁ := fun obj s₁ => obj = .ref s.heap.objs.size ∧ s₁ = { s with heap := s.heap.push { cls := .type "list", data := .seq #[] } }) PySem.F.called_list (PySem.F.typeCall_list_1 _) PySem.F.entry_list_init
    (code_list_new _ ⟨rfl, rfl⟩) fun obj s₁ h₁ => ?_
  obtain ⟨rfl, rfl⟩ := h₁
  have hS : (s.heap.push { cls := .type "list", data := .seq #[] }).get? s.heap.objs.size = some { cls := .type "list", data := .seq #[] } := Heap.get?_push_size _ rfl
  refine ⟨⟨_, hS, rfl⟩, PySem.F.args_list_init_2 _ _, ?_⟩
  have kept1 : ∀ b o, s.heap.get? b = some o → (s.heap.push { cls := .type "list", data := .seq #[] }).get? b = some o := fun b o e => Heap.get?_push_of_some _ e
  show wpAny _ _ (do let old ← Builtin.List.listItems (.ref s.heap.objs.size); Builtin.List.listUpdate (.ref s.heap.objs.size) (fun _ => #[]); letGo old.toList.reverse; Builtin.List.listExtendWith (.ref s.heap.objs.size) (.ref r) .none) _ _ _
  refine wpAny_bind ?_
  unfold Builtin.List.listItems
  refine wpAny_bind (wpAny_seqItems hS rfl (wpAny_pure ?_))
  show wpAny _ _ (updateSeq s.heap.objs.size (fun _ => #[]) >>= fun _ => letGo (#[] : Array Value).toList.reverse >>= fun _ => Builtin.List.listExtendWith (.ref s.heap.objs.size) (.ref r) .none) _ _ _
  refine wpAny_bind (wpAny_updateSeq hS rfl ?_)
  have hS2 := Heap.get?_update_self (Obj.mapSeq (fun _ => (#[] : Array Value))) hS rfl
  generalize hg : (s.heap.push { cls := .type "list", data := .seq #[] }).update s.heap.objs.size (Obj.mapSeq (fun _ => (#[] : Array Value))) = g at hS2
  have kept2 : ∀ b o, s.heap.get? b = some o → g.get? b = some o := fun b o e => by
    rw [← hg]
    exact (Heap.get?_update_other _ _ (Nat.ne_of_gt (Heap.lt_size e))).trans (kept1 b o e)
  refine wpAny_bind (wpAny_letGo ?_)
  obtain ⟨I, h1, fp, wr, St, hit, hk1, hint, W, st, nfp, hwr⟩ := (src A.in1.in1 { s with heap := g } rfl kept2 (Heap.lt_size hS2)).ex
  have hg1 : g.objs.size = s.heap.objs.size + 1 := by rw [← hg, Heap.size_update, Heap.size_push]
  unfold Builtin.List.listExtendWith
  obtain ⟨oT, hoT, cT⟩ := id hT
  refine wpAny_bind (wpAny_typeOf (T := T) ⟨oT, kept2 _ _ hoT, cT⟩ ?_)
  have e1 : Builtin.List.listSameRef (.ref s.heap.objs.size) (.ref r) = false := by unfold Builtin.List.listSameRef; exact beq_eq_false_iff_ne.mpr (Nat.ne_of_gt hlt)
  simp only [e1, nl, nt, Bool.or_false, Bool.false_eq_true, if_false]
  refine wpAny_bind (hit _ _ ?_)
  have hS3 := hk1 _ _ hS2
  have fin : ∀ (h : Heap) (c tk : Nat), St 0 h → (∀ b o, b ≠ s.heap.objs.size → h1.get? b = some o → h.get? b = some o) → h.get? s.heap.objs.size = some { cls := .type "list", dict := none, data := .seq #[] c, slots := #[] } →
      codeAny (model prog w) A.in1 (.builtin "list.extend.loop" ⟨[.ref s.heap.objs.size, .ref I, .none], []⟩) (wants (fun x s2 => x = Value.none ∧ Q (Value.ref s.heap.objs.size) s2) E) { s with heap := h, toks := tk } := by
    intro h c tk hst hk hh
    refine codeAny_extend_loopS W.toS hn s.heap.objs.size nfp .none n 0 _ #[] c rfl (Nat.zero_le _) hst hh (ItemsOf.nil _) fun s' acc' c' hm hS' hacc => ?_
    rw [Moved.eq_with hm]
    refine ⟨rfl, hQ s'.heap s'.toks acc' c' (fun b o hb e => hm.heap b o (fun hmem => ?_) (hk b o (Nat.ne_of_lt (Heap.lt_size e)) (hk1 b o (kept2 b o e)))) hS' hacc⟩
    rcases List.mem_cons.mp hmem with z | z
    · exact absurd (Heap.lt_size e) (by rw [z]; exact Nat.lt_irrefl _)
    · rcases hwr b z with q | q
      · exact hb q
      · have q2 : s.heap.objs.size + 1 ≤ b := by rw [← hg1]; exact q
        exact Nat.lt_irrefl _ (Nat.lt_of_lt_of_le (Heap.lt_size e) (Nat.le_of_succ_le q2))
  refine wpAny_bind (wpAny_holding (hint _ _ fun b tk => ?_))
  refine wpAny_ite_split (fun _ => ?_) (fun _ => wpAny_pure ⟨plainId_quiet PySem.F.plain_extend_loop _, fin _ _ _ st (fun _ _ _ e => e) hS3⟩)
  refine wpAny_bind (wpAny_rule ?_)
  refine wpAny_bind ?_
  show wpAny _ _ (updateSeq s.heap.objs.size (·.push .none) >>= fun _ => updateSeq s.heap.objs.size (·.pop)) _ _ _
  refine wpAny_bind (wpAny_updateSeq hS3 rfl ?_)
  have hS4 := Heap.get?_update_self (Obj.mapSeq (·.push Value.none)) hS3 rfl
  refine wpAny_updateSeq (hz := by seq_fits) hS4 rfl ?_
  have hS5 := Heap.get?_update_self (Obj.mapSeq (·.pop)) hS4 rfl
  have oth : ∀ b o, b ≠ s.heap.objs.size → h1.get? b = some o → ((h1.update s.heap.objs.size (Obj.mapSeq (·.push Value.none))).update s.heap.objs.size (Obj.mapSeq (·.pop))).get? b = some o :=
    fun b o hb e => (Heap.get?_update_other _ _ (Ne.symm hb)).trans ((Heap.get?_update_other _ _ (Ne.symm hb)).trans e)
  refine wpAny_pure ⟨plainId_quiet PySem.F.plain_extend_loop _, fin _ _ _ (W.frame 0 _ _ st fun b hb o e => oth b o (fun z => nfp (z ▸ hb)) e) oth hS5⟩
end
end G35

/-! GHot3 -/
set_option Elab.async false
set_option linter.all false
set_option maxRecDepth 100000
set_option maxHeartbeats 4000000
/-! Rules for list(reversed(..)), list(dict), an exception being handled or none. -/
namespace G35
open PySem PySem.Spec PyProof.Rows L2
section
variable {prog : Program} {w : World} {A : Around} {x1 : Addr}
theorem walks_rev (I l : Addr) (hne : l ≠ I) (hx : x1 ≠ I) (items : Array Value) :
    Walks prog w A I [I, l, x1] [I] items.size (fun i v => items[items.size - 1 - i]? = some v) (fun i h => i ≤ items.size ∧ h.IsRevIter I l ((items.size : Int) - 1 - (i : Int)) ∧ h.IsList l items ∧ Rdy A h x1) where
  sub := fun b hb => by simp at hb; simp [hb]
  frame := fun _ _ _ x hk => ⟨x.1, x.2.1.at fun o e => hk I (by simp) o e, x.2.2.1.at fun o e => hk l (by simp) o e, x.2.2.2.at fun o e => hk x1 (by simp) o e⟩
  item := fun i s Q E hi x hQ => by
    obtain ⟨_, hit, hl, r⟩ := x
    rw [show (items.size : Int) - 1 - (i : Int) = ((items.size - 1 - i : Nat) : Int) from by omega] at hit
    have hv : items[items.size - 1 - i]? = some (items[items.size - 1 - i]'(by omega)) := Array.getElem?_eq_getElem (by omega)
    refine wpAny_pyNext_rev_item hit hl hv fun h' hit' hs' => ?_
    rw [show ((items.size - 1 - i : Nat) : Int) - 1 = (items.size : Int) - 1 - ((i + 1 : Nat) : Int) from by omega] at hit'
    exact hQ _ h' s.toks hv ⟨hi, hit', hl.at fun o eo => (hs'.2 l hne).trans eo, r.at fun o eo => (hs'.2 x1 hx).trans eo⟩ fun b o hb eo => (hs'.2 b fun h => hb (by simp [h])).trans eo
  done := fun s Q E x hQ => by
    obtain ⟨_, hit, hl, r⟩ := x
    rw [show (items.size : Int) - 1 - (items.size : Int) = -1 from by omega] at hit
    exact end_rev r hit fun h' he' => hQ h' s.toks fun b o hb eo => he' b o (fun h => hb (by simp [h])) eo
  self := fun _ _ _ _ x hQ => wpAny_pyIter_revIter x.2.1 hQ
theorem walks_rt (I t : Addr) (hne : t ≠ I) (hx : x1 ≠ I) (items : Array Value) (hz : items.size ≤ sizeLine) :
    Walks prog w A I [I, t, x1] [I] items.size (fun i v => items[items.size - 1 - i]? = some v) (fun i h => i ≤ items.size ∧ RT.IsRt h I t ((items.size : Int) - 1 - (i : Int)) ∧ IsTup h t items ∧ Rdy A h x1) where
  sub := fun b hb => by simp at hb; simp [hb]
  frame := fun _ _ _ x hk => ⟨x.1, x.2.1.at fun o e => hk I (by simp) o e, (let ⟨o, ho, q⟩ := x.2.2.1; ⟨o, hk t (by simp) o ho, q⟩), x.2.2.2.at fun o e => hk x1 (by simp) o e⟩
  item := fun i s Q E hi x hQ => by
    obtain ⟨_, hit, hl, r⟩ := x
    rw [show (items.size : Int) - 1 - (i : Int) = ((items.size - 1 - i : Nat) : Int) from by omega] at hit
    have hv : items[items.size - 1 - i]? = some (items[items.size - 1 - i]'(by omega)) := Array.getElem?_eq_getElem (by omega)
    refine RT.next_rt_item hit hl hv hz fun h' hit' hs' => ?_
    rw [show ((items.size - 1 - i : Nat) : Int) - 1 = (items.size : Int) - 1 - ((i + 1 : Nat) : Int) from by omega] at hit'
    exact hQ _ h' (s.toks + 1) hv ⟨hi, hit', (let ⟨o, ho, q⟩ := hl; ⟨o, (hs'.2 t hne).trans ho, q⟩), r.at fun o eo => (hs'.2 x1 hx).trans eo⟩ fun b o hb eo => (hs'.2 b fun h => hb (by simp [h])).trans eo
  done := fun s Q E x hQ => by
    obtain ⟨_, hit, hl, r⟩ := x
    rw [show (items.size : Int) - 1 - (items.size : Int) = -1 from by omega] at hit
    exact end_rt r hx hit fun h' he' => hQ h' s.toks fun b o hb eo => he' b o (fun h => hb (by simp [h])) eo
  self := fun _ _ _ _ x hQ => RT.iter_rt x.2.1 hQ
theorem walks_keys {κ : Type} [DecidableEq κ] {knd : KeyKind prog w κ} (I d : Addr) (hne : d ≠ I) (hx : x1 ≠ I) (kvs : List (κ × Value)) (ep : Nat) :
    Walks prog w A I [I, d, x1] [I] kvs.length (fun i v => ∃ k x, kvs[i]? = some (k, x) ∧ knd.is k v = true) (fun i h => h.IsKeyIter I d i kvs.length ep ∧ h.DictAt knd d kvs ep ∧ Rdy A h x1) where
  sub := fun b hb => by simp at hb; simp [hb]
  frame := fun _ _ _ x hk => ⟨x.1.at fun o e => hk I (by simp) o e, x.2.1.at' fun o e => hk d (by simp) o e, x.2.2.at fun o e => hk x1 (by simp) o e⟩
  item := fun i s Q E hi x hQ => by
    obtain ⟨hit, hm, r⟩ := x
    obtain ⟨⟨k, y⟩, hy⟩ : ∃ p, kvs[i]? = some p := ⟨kvs[i], List.getElem?_eq_getElem hi⟩
    refine wpAny_pyNext_dict_item hit hm hy fun key h' hkey hit' hs' => ?_
    exact hQ key h' s.toks ⟨k, y, hy, hkey⟩ ⟨hit', hm.extBut hs'.extBut hne, r.at fun o eo => (hs'.2 x1 hx).trans eo⟩ fun b o hb eo => (hs'.2 b fun h => hb (by simp [h])).trans eo
  done := fun s Q E x hQ => by
    obtain ⟨hit, hm, r⟩ := x
    obtain ⟨o, es, ho, hc, hdat, hk, hp, hn⟩ := id hm
    have hsz : es.size = kvs.length := by rw [← hp.length]; simp
    exact end_key r hx hit ho hdat hsz (Nat.le_refl _) fun h' he' => hQ h' s.toks fun b o hb eo => he' b o (fun h => hb (by simp [h])) eo
  self := fun _ _ _ _ x hQ => wpAny_pyIter_keyiter x.1 hQ
end
/-- nothing is handled, or the context bears what is -/
def Ok1 (X : Cx) : Prop := X.calm = true ∨ L2H.HotC X
section
variable {X : Cx} {pins : List (Addr × Obj)} {σ : L2.St} {H : Hp} {s : Shared}
theorem Ok1.rdy (c : Ok1 X) (I : Inv X pins σ H s) : ∃ x1, Rdy X.A s.heap x1 ∧ x1 < s.heap.objs.size ∧ ∀ b H', FpOk X pins H' b → x1 ≠ b := by
  rcases c with c | ⟨p, ⟨hh, v1, e1, c1⟩, hp⟩
  · exact ⟨X.env.locals, .inl (I.ok.hd c), I.lt, fun b H' f => f.2.1.symm⟩
  · have P1 := (I.pin p (List.mem_append_left _ hp)).1
    exact ⟨p.1, .inr ⟨hh, p.2, v1, P1, e1, c1⟩, Heap.lt_size P1, fun b H' f => f.2.2.2.2.2 p (List.mem_append_left _ hp)⟩
/-- list(d): a new list of the keys -/
theorem call_listD (c : Ok1 X) : CallR X (.type "list") rListD := by
  intro pins s σ H xs us Q I r h
  obtain ⟨p, kvs, e, hk, q⟩ := h
  subst e
  obtain ⟨u, eu, rx⟩ := vals1 r
  subst eu
  obtain rfl : u = Value.ref p := rx
  obtain ⟨z, lo, vs, rk, hd⟩ := (show ObjOk X.prog X.w H s.heap p (.dK kvs) from I.hok p _ hk)
  obtain ⟨ep, hat⟩ := hd.dictAt
  obtain ⟨x1, hr, hx1, _⟩ := c.rdy I
  have hl : kvs.length = vs.length := Paired.length rk
  refine list_iter (T := "dict") (n := vs.length) (P := fun i v => ∃ k x, vs[i]? = some (k, x) ∧ (mixKind X.prog X.w).is k v = true) (wr0 := []) hat.dictOf.typeIs (by decide) (by decide) (fun A' s' hA k lt => ⟨?_⟩) (by rw [← hl]; exact z) fun h' tk acc' c' hkeep hS hacc => ?_
  · have hat' : s'.heap.DictAt (mixKind X.prog X.w) p vs ep := hat.keep k
    have hat2 := hat'.push { cls := .type "dict_keyiterator", data := .fields #[.ref p, .int 0 0, .int vs.length 0, .int ep 0] }
    refine ⟨s'.heap.objs.size, _, [s'.heap.objs.size, p, x1], [s'.heap.objs.size], _, fun E Q q => wpAny_pyIter_dict lo hat' q, fun b o e => Heap.get?_push_of_some _ e, fun E Q q => PySem.W.kdl_hint_dict (s := { s' with heap := s'.heap.push { cls := .type "dict_keyiterator", data := .fields #[.ref p, .int 0 0, .int vs.length 0, .int ep 0] } }) hat2.dictOf.typeIs (q false s'.toks),
      walks_keys (knd := mixKind X.prog X.w) (x1 := x1) _ p (Nat.ne_of_lt hat'.lt_size) (Nat.ne_of_lt (Nat.lt_trans hx1 lt)) vs ep, ⟨⟨_, Heap.get?_push_size _ rfl, rfl, rfl⟩, hat2, ?_⟩, ?_, fun b hb => .inr (by rw [List.mem_singleton.mp hb]; exact Nat.le_refl _)⟩
    · have r2 : Rdy A' s.heap x1 := by
        rcases hr with a | ⟨a, b⟩
        · exact .inl (hA.trans a)
        · exact .inr ⟨hA.trans a, b⟩
      exact r2.at fun o e => Heap.get?_push_of_some _ (k _ o e)
    · have := hat.lt_size
      simp only [List.mem_cons, List.not_mem_nil, or_false, not_or]
      exact ⟨Nat.ne_of_lt lt, Nat.ne_of_gt this, Nat.ne_of_gt hx1⟩
  · refine ⟨.ref s.heap.objs.size, upd H s.heap.objs.size (.lst (kvs.map fun kv => kV kv.1)), I.laid (fun b o e => hkeep b o (by simp) e) (Nat.le_refl _) (show ObjOk X.prog X.w _ _ _ (.lst (kvs.map fun kv => kV kv.1)) from ⟨?_, acc'.toList, c', ?_, ?_⟩), rfl, q _ (I.hok.fresh (Nat.le_refl _))⟩
    · rw [List.length_map]; exact z
    · have el : acc'.toList.length = acc'.size := by simp
      refine vals_of_at (by rw [List.length_map, el, hacc.1, hl]) fun j x w h1 h2 => ?_
      obtain ⟨k, y, hky, hi⟩ := hacc.2 j w (by rw [← Array.getElem?_toList]; exact h2)
      have e1 : (kvs.map (·.1))[j]? = some k := by
        rw [KV.keys rk, List.getElem?_map, hky]
        rfl
      have e3 : (kvs.map fun kv => kV kv.1) = (kvs.map (·.1)).map kV := by
        rw [List.map_map]
        rfl
      rw [e3, List.getElem?_map, e1] at h1
      cases h1
      exact keyIs_rel hi
    · rw [Array.toArray_toList]; exact hS
/-- list(reversed(x)), x a list or a tuple: a new list -/
def tListRev (K : PySem.W.Frag) (te : TE) : TE := fun σ H Q => te σ H fun v H1 => ∃ (a : Addr) (xs : List V), v = .ref a ∧ (SqL K H1 a xs ∨ SqT K H1 a xs) ∧ ∀ q, H1 q = none → Q (.ref q) (upd H1 q (.lst xs.reverse))
theorem pe_listRev {e : Expr} {te : TE} {p p2 pos pos2 : Pos} (c : Ok1 X) (hg : Gl X "list") (hm : X.mg "list" = none) (hg2 : Gl X "reversed") (hm2 : X.mg "reversed" = none) (he : PE X e te)
    (hs : starEach [e] X.env = (false, eval e X.env) :: starEach [] X.env := by rfl)
    (hs2 : starEach [.Call (.Name "reversed" p2) [e] [] pos2] X.env = (false, eval (.Call (.Name "reversed" p2) [e] [] pos2) X.env) :: starEach [] X.env := by rfl) :
    PE X (.Call (.Name "list" p) [.Call (.Name "reversed" p2) [e] [] pos2] [] pos) (tListRev X.K te) := by
  refine ⟨fun pins s σ H Q I h => ?_⟩
  refine Call_ (ld_blt I hg hm boot_list (PyProof.Rows.callWith_type1 (args_cons (Call_ (ld_blt I hg2 hm2 PyProof.Rows.boot_reversed (PyProof.Rows.callWith_type1 (args_cons (thn (he.run pins s σ H _ I h) fun u s1 ⟨v, H1, I1, r1, q1⟩ => args_nil ?_) hs) hs rfl))) hs2) hs2 rfl))
  obtain ⟨a, xs, ev, hq, q⟩ := q1
  subst ev
  obtain rfl : u = Value.ref a := r1
  obtain ⟨x1, hr, hx1, _⟩ := c.rdy I1
  have rdy' : ∀ {A' : Around} {h : Heap}, A'.handled = X.A.handled → (∀ b o, s1.heap.get? b = some o → h.get? b = some o) → Rdy A' h x1 := fun {A' h} hA k => by
    rcases hr with a | ⟨a, b⟩
    · exact .inl (hA.trans a)
    · exact (show Rdy A' s1.heap x1 from .inr ⟨hA.trans a, b⟩).at fun o e => k _ o e
  have fin : ∀ {its : List Value} {oR : Obj} {tk : Nat} {h' : Heap} {acc : Array Value} {cc : Nat}, Vals xs its → xs.length ≤ sizeLine →
      (∀ b o, b ∉ [s1.heap.objs.size] → (s1.heap.push oR).get? b = some o → h'.get? b = some o) → h'.get? (s1.heap.push oR).objs.size = some { cls := .type "list", dict := none, data := .seq acc cc, slots := #[] } →
      ItemsOf (fun i v => its.toArray[its.toArray.size - 1 - i]? = some v) acc its.toArray.size → EP X pins σ Q (.ref (s1.heap.push oR).objs.size) { s1 with heap := h', toks := tk } := fun {its oR tk h' acc cc} rv hz hk hS hi => by
    have e0 : (s1.heap.push oR).objs.size = s1.heap.objs.size + 1 := Heap.size_push _ _
    refine ⟨.ref (s1.heap.push oR).objs.size, upd H1 (s1.heap.push oR).objs.size (.lst xs.reverse), I1.laid (fun b o e => hk b o (by simp; exact Nat.ne_of_lt (Heap.lt_size e)) (Heap.get?_push_of_some _ e)) (by rw [e0]; exact Nat.le_succ _) (show ObjOk X.prog X.w _ _ _ (.lst xs.reverse) from ⟨by rw [List.length_reverse]; exact hz, acc.toList, cc, RT.vals_rev rv hi, ?_⟩), rfl,
      q _ (I1.hok.fresh (by rw [e0]; exact Nat.le_succ _))⟩
    rw [Array.toArray_toList]
    exact hS
  rcases hq with hq | hq
  · obtain ⟨its, rv, p', hz⟩ := I1.list hq
    have hl := p'.isList
    obtain ⟨ol, hol, _⟩ := id hl
    have hne : a < s1.heap.objs.size := Heap.lt_size hol
    have hn : its.toArray.size ≤ sizeLine := by rw [List.size_toArray, ← rv.length]; exact hz
    refine call_reversed_list hl (args_nil ?_)
    have e0 : (s1.heap.push (revObj a ((its.toArray.size : Int) - 1))).objs.size = s1.heap.objs.size + 1 := Heap.size_push _ _
    refine list_iter (s := { s1 with heap := s1.heap.push (revObj a ((its.toArray.size : Int) - 1)) }) (T := "list_reverseiterator") (n := its.toArray.size) (wr0 := [s1.heap.objs.size]) ⟨_, Heap.get?_push_size _ rfl, rfl⟩ (by decide) (by decide) (fun A' s' hA k lt => ⟨?_⟩) hn fun h' tk acc cc hk hS hi => fin rv hz hk hS hi
    have hit : s'.heap.IsRevIter s1.heap.objs.size a ((its.toArray.size : Int) - 1) := ⟨_, k _ _ (Heap.get?_push_size _ rfl), rfl, rfl⟩
    refine ⟨s1.heap.objs.size, s'.heap, [s1.heap.objs.size, a, x1], [s1.heap.objs.size], _, fun E Q q => wpAny_pyIter_revIter hit q, fun b o e => e, fun E Q q => hint_rev hit.typeIs (q false s'.toks), walks_rev (x1 := x1) _ a (Nat.ne_of_lt hne) (Nat.ne_of_lt hx1) its.toArray,
      ⟨Nat.zero_le _, by rw [show (its.toArray.size : Int) - 1 - ((0 : Nat) : Int) = (its.toArray.size : Int) - 1 from by omega]; exact hit, hl.at fun o e => k _ o (Heap.get?_push_of_some _ e), rdy' hA fun b o e => k _ o (Heap.get?_push_of_some _ e)⟩, ?_, fun b hb => .inl hb⟩
    show (s1.heap.push (revObj a ((its.toArray.size : Int) - 1))).objs.size ∉ _
    rw [e0]
    simp only [List.mem_cons, List.not_mem_nil, or_false, not_or]
    exact ⟨by omega, fun z => absurd hne (by rw [← z]; exact Nat.lt_asymm (Nat.lt_succ_self _)), fun z => absurd hx1 (by rw [← z]; exact Nat.lt_asymm (Nat.lt_succ_self _))⟩
  · obtain ⟨its, rv, p', hz⟩ := I1.tuple hq
    obtain ⟨ol, hol, cl⟩ := id p'
    have hne : a < s1.heap.objs.size := Heap.lt_size hol
    have hn : its.toArray.size ≤ sizeLine := by rw [List.size_toArray, ← rv.length]; exact hz
    have h63 := line63
    refine RT.call_reversed_tup p' (fun A E Q k => len_tuple p' (by omega) k) (args_nil ?_)
    have e0 : (s1.heap.push (RT.rtObj a ((its.toArray.size : Int) - 1))).objs.size = s1.heap.objs.size + 1 := Heap.size_push _ _
    refine list_iter (s := { s1 with heap := s1.heap.push (RT.rtObj a ((its.toArray.size : Int) - 1)), toks := s1.toks + 1 + 1 }) (T := "reversed") (n := its.toArray.size) (wr0 := [s1.heap.objs.size]) ⟨_, Heap.get?_push_size _ rfl, rfl⟩ (by decide) (by decide) (fun A' s' hA k lt => ⟨?_⟩) hn fun h' tk acc cc hk hS hi => fin rv hz hk hS hi
    have hit : RT.IsRt s'.heap s1.heap.objs.size a ((its.toArray.size : Int) - 1) := ⟨_, k _ _ (Heap.get?_push_size _ rfl), rfl, rfl⟩
    have ht : IsTup s'.heap a its.toArray := ⟨ol, k _ _ (Heap.get?_push_of_some _ hol), cl⟩
    refine ⟨s1.heap.objs.size, s'.heap, [s1.heap.objs.size, a, x1], [s1.heap.objs.size], _, fun E Q q => RT.iter_rt hit q, fun b o e => e, fun E Q q => hint_rt hit ht (Nat.le_refl _) hn q, walks_rt (x1 := x1) _ a (Nat.ne_of_lt hne) (Nat.ne_of_lt hx1) its.toArray hn,
      ⟨Nat.zero_le _, by rw [show (its.toArray.size : Int) - 1 - ((0 : Nat) : Int) = (its.toArray.size : Int) - 1 from by omega]; exact hit, ht, rdy' hA fun b o e => k _ o (Heap.get?_push_of_some _ e)⟩, ?_, fun b hb => .inl hb⟩
    show (s1.heap.push (RT.rtObj a ((its.toArray.size : Int) - 1))).objs.size ∉ _
    rw [e0]
    simp only [List.mem_cons, List.not_mem_nil, or_false, not_or]
    exact ⟨by omega, fun z => absurd hne (by rw [← z]; exact Nat.lt_asymm (Nat.lt_succ_self _)), fun z => absurd hx1 (by rw [← z]; exact Nat.lt_asymm (Nat.lt_succ_self _))⟩
end
end G35

/-! GHot4 -/
set_option Elab.async false
set_option linter.all false
set_option maxRecDepth 100000
set_option maxHeartbeats 4000000
/-! Loops and comprehensions over lists and tuples, an exception being handled or none. -/
namespace G35
open PySem PySem.Spec PyProof.Rows L2
section
variable {prog : Program} {w : World} {A : Around} {E : Value → Shared → Prop} {s : Shared} {x1 : Addr}
theorem end_tup {it l : Addr} {i : Nat} {items : Array Value} {Q : Option Value → Shared → Prop} (r : Rdy A s.heap x1) (hx1 : x1 ≠ it) (hit : s.heap.IsTupleIter it l i) (hl : s.heap.IsTuple l items) (hx : items[i]? = none)
    (hQ : ∀ h', Heap.ExtBut it s.heap h' → Q none { s with heap := h' }) : wpAny (model prog w) A (pyNext (.ref it)) Q E s := by
  obtain ⟨o, ho, hc, hd⟩ := id hit
  obtain ⟨ol, hol, _, nl, hdl⟩ := hl
  unfold pyNext
  refine wpAny_bind (wpAny_attempt (wpAny_callSpecial?_slot (name := Str.ofString "__next__") hit.typeIs F.slot_tuple_iterator_next (wpAny_call_entry F.slot_tuple_iterator_next hit.typeIs F.entry_tuple_iterator_next ?_ (F.args_tuple_iterator_next_1 _))))
  show wpAny _ _ (field (.ref it) 0 >>= _) _ _ s
  refine wpAny_bind (wpAny_field ho hd (x := .ref l) rfl ?_)
  show wpAny _ _ (if (Value.ref l == Value.none) = true then _ else _) _ _ s
  rw [if_neg (by simp)]
  show wpAny _ _ (field (.ref it) 1 >>= _) _ _ s
  refine wpAny_bind (wpAny_field ho hd (x := .int i 0) rfl ?_)
  show wpAny _ _ (seqItems? (.ref l) >>= _) _ _ s
  refine wpAny_bind (wpAny_seqItems hol hdl ?_)
  simp only [Int.toNat_natCast, hx]
  refine wpAny_bind (wpAny_rule (wpAny_bind (wpAny_setField ho hd (by simp) ?_)))
  have eb : Heap.ExtBut it s.heap (s.heap.update it (Obj.mapFields (·.setIfInBounds 0 Value.none))) := (Heap.SameBut.update ..).extBut
  refine stop_any (s := { s with heap := s.heap.update it (Obj.mapFields (·.setIfInBounds 0 Value.none)) }) (r.at fun o e => eb x1 o hx1 e) fun a h' k ⟨oa, ea, ca⟩ => ?_
  refine wpAny_bind (wpAny_isInstance (T := "StopIteration") (b := true) ⟨oa, ea, ca⟩ isSubtype_stop ?_)
  exact wpAny_pure (hQ h' fun b o hb e => k b o (eb b o hb e))
end
/-- an iterator's turns, an exception being handled or none -/
structure TurnB (P : Program) (w : World) (K : PySem.W.Frag) (tg : Expr) (J : It) (fp : List Addr) (it : Addr) (tn : Nat → Heap → Prop) : Prop where
  mem : it ∈ fp
  obj : ∀ i h, tn i h → ∀ b ∈ fp, ∃ o, h.get? b = some o ∧ ∀ v, o.data ≠ .cell v
  keep : ∀ i h h', tn i h → (∀ b ∈ fp, ∀ o, h.get? b = some o → h'.get? b = some o) → tn i h'
  item : ∀ (X : Cx), X.prog = P → X.w = w → X.K = K → Ok1 X → ∀ (i : Nat) (pins : List (Addr × Obj)) (s : Shared) (σ : L2.St) (H : Hp) (E : Value → Shared → Prop), Inv X pins σ H s → (∀ b ∈ fp, FpOk X pins H b) → tn i s.heap → J.go i H →
    wpAny (model P w) X.A (pyNext (.ref it)) (fun r s1 => ∃ u, r = some u ∧ wpAny (model P w) X.A (letOwnedTupleGo tg (.ref it) u) (fun _ s2 => ∃ x H', Inv X pins σ H' s2 ∧ RelV x u ∧ J.yld i H x H' ∧ tn (i + 1) s2.heap ∧ ∀ b ∈ fp, H' b = none) E s1) E s
  done : ∀ (X : Cx), X.prog = P → X.w = w → X.K = K → Ok1 X → ∀ (i : Nat) (pins : List (Addr × Obj)) (s : Shared) (σ : L2.St) (H : Hp) (E : Value → Shared → Prop), Inv X pins σ H s → (∀ b ∈ fp, FpOk X pins H b) → tn i s.heap → J.stop i H →
    wpAny (model P w) X.A (pyNext (.ref it)) (fun r s1 => r = none ∧ Inv X pins σ H s1) E s
  self : ∀ (A : Around) (i : Nat) (s : Shared) (Q : Value → Shared → Prop) (E : Value → Shared → Prop), tn i s.heap → Q (.ref it) s → wpAny (model P w) A (pyIter (.ref it)) Q E s
section
variable {P : Program} {w : World} {K : PySem.W.Frag} {tg : Expr} {J : It} {fp : List Addr} {it : Addr} {tn : Nat → Heap → Prop}
theorem TurnB.calm (T : TurnB P w K tg J fp it tn) : Turn P w K tg J fp it tn := ⟨T.mem, T.obj, T.keep, fun X h1 h2 h3 h4 => T.item X h1 h2 h3 (.inl h4), fun X h1 h2 h3 h4 => T.done X h1 h2 h3 (.inl h4), T.self⟩
theorem TurnB.hot (T : TurnB P w K tg J fp it tn) : L2H.TurnH P w K tg J fp it tn := ⟨T.mem, T.obj, T.keep, fun X h1 h2 h3 h4 => T.item X h1 h2 h3 (.inr h4), fun X h1 h2 h3 h4 => T.done X h1 h2 h3 (.inr h4), T.self⟩
theorem turnB_list (a it : Addr) : TurnB P w K tg (Itl K a) [it] it (fun i h => h.IsListIter it a i) where
  mem := List.mem_singleton.mpr rfl
  obj := fun i h st b hb => by
    obtain ⟨o, e, c, d⟩ := st
    rw [List.mem_singleton.mp hb]
    exact ⟨o, e, fun v z => by rw [d] at z; cases z⟩
  keep := fun i h h' st k => st.at fun o e => k it (List.mem_singleton.mpr rfl) o e
  item := by
    rintro X rfl rfl rfl hc i pins s σ H E I hf st ⟨xs, x, hq, hx⟩
    obtain ⟨its, rv, p, hz⟩ := I.list hq
    obtain ⟨u, hu, ru⟩ := rv.get hx
    obtain ⟨f0, f1, f2, f3, f4, f5⟩ := hf it (List.mem_singleton.mpr rfl)
    refine wpAny_pyNext_list_item st p.isList (x := u) (by simpa using hu) fun h' st' sb => ?_
    have I1 : Inv X pins σ H { s with heap := h' } := I.turned (t' := s.toks) (fun b o hb e => (sb.2 b hb).trans e) f0 f1 f3 f4 f5
    obtain ⟨o, e, c, d⟩ := id st'
    exact ⟨u, rfl, go_of (s := { s with heap := h' }) e c d (by decide) ⟨x, H, I1, ru, ⟨rfl, fun ys hy => by rw [I.list_inj hy hq]; exact hx⟩, st', fun b hb => (hf b hb).1⟩⟩
  done := by
    rintro X rfl rfl rfl hc i pins s σ H E I hf st ⟨xs, hq, hx⟩
    obtain ⟨its, rv, p, hz⟩ := I.list hq
    have F := hf it (List.mem_singleton.mpr rfl)
    obtain ⟨x1, r, _, ne⟩ := hc.rdy I
    obtain ⟨f0, f1, f2, f3, f4, f5⟩ := id F
    have hl := rv.length
    exact end_list r (ne it H F) st p.isList (by simp; omega) fun h' eb => ⟨rfl, I.turned (t' := s.toks) (fun b o hb e => eb b o hb e) f0 f1 f3 f4 f5⟩
  self := fun _ _ _ _ _ st h => wpAny_pyIter_listiter st h
theorem turnB_tup (a it : Addr) : TurnB P w K tg (Itt K a) [it] it (fun i h => h.IsTupleIter it a i) where
  mem := List.mem_singleton.mpr rfl
  obj := fun i h st b hb => by
    obtain ⟨o, e, c, d⟩ := st
    rw [List.mem_singleton.mp hb]
    exact ⟨o, e, fun v z => by rw [d] at z; cases z⟩
  keep := fun i h h' st k => st.at fun o e => k it (List.mem_singleton.mpr rfl) o e
  item := by
    rintro X rfl rfl rfl hc i pins s σ H E I hf st ⟨xs, x, hq, hx⟩
    obtain ⟨its, rv, p, hz⟩ := I.tuple hq
    obtain ⟨u, hu, ru⟩ := rv.get hx
    obtain ⟨f0, f1, f2, f3, f4, f5⟩ := hf it (List.mem_singleton.mpr rfl)
    refine wpAny_pyNext_tuple_item st (show s.heap.IsTuple a its.toArray from p) (x := u) (by simpa using hu) fun h' st' sb => ?_
    have I1 : Inv X pins σ H { s with heap := h' } := I.turned (t' := s.toks) (fun b o hb e => (sb.2 b hb).trans e) f0 f1 f3 f4 f5
    obtain ⟨o, e, c, d⟩ := id st'
    exact ⟨u, rfl, go_of (s := { s with heap := h' }) e c d (by decide) ⟨x, H, I1, ru, ⟨rfl, fun ys hy => by rw [I.tuple_inj hy hq]; exact hx⟩, st', fun b hb => (hf b hb).1⟩⟩
  done := by
    rintro X rfl rfl rfl hc i pins s σ H E I hf st ⟨xs, hq, hx⟩
    obtain ⟨its, rv, p, hz⟩ := I.tuple hq
    have F := hf it (List.mem_singleton.mpr rfl)
    obtain ⟨x1, r, _, ne⟩ := hc.rdy I
    obtain ⟨f0, f1, f2, f3, f4, f5⟩ := id F
    have hl := rv.length
    exact end_tup r (ne it H F) st (show s.heap.IsTuple a its.toArray from p) (by simp; omega) fun h' eb => ⟨rfl, I.turned (t' := s.toks) (fun b o hb e => eb b o hb e) f0 f1 f3 f4 f5⟩
  self := fun _ _ _ _ _ st h => wpAny_pyIter_tupleiter st h
end
def PIEB (X : Cx) (pins : List (Addr × Obj)) (σ : L2.St) (tg : Expr) (R : It → Hp → Prop) (itv : Value) (s2 : Shared) : Prop :=
  ∃ (it : Addr) (fp : List Addr) (tn : Nat → Heap → Prop) (J : It) (H' : Hp), itv = .ref it ∧ Inv X pins σ H' s2 ∧ TurnB X.prog X.w X.K tg J fp it tn ∧ tn 0 s2.heap ∧ (∀ b ∈ fp, FpOk X pins H' b) ∧ R J H'
structure PIB (X : Cx) (tg iter : Expr) (wi : TI) : Prop where
  run : ∀ (pins : List (Addr × Obj)) (s : Shared) (σ : L2.St) (H : Hp) (R : It → Hp → Prop), Inv X pins σ H s → wi σ H R →
    wpAny (model X.prog X.w) X.A (eval iter X.env) (fun v s1 => wpAny (model X.prog X.w) X.A (pyIter v) (PIEB X pins σ tg R) X.xe s1) X.xe s
section
variable {X : Cx} {tg : Expr}
theorem PIB.calm {iter : Expr} {wi : TI} (h : PIB X tg iter wi) : PI X tg iter wi := ⟨fun pins s σ H R I hw => thn (h.run pins s σ H R I hw) fun _ _ hx => thn hx fun _ _ ⟨it, fp, tn, J, H', e, I2, T, r⟩ => ⟨it, fp, tn, J, H', e, I2, T.calm, r⟩⟩
theorem PIB.hot {iter : Expr} {wi : TI} (h : PIB X tg iter wi) : L2H.PIH X tg iter wi := ⟨fun pins s σ H R I hw => thn (h.run pins s σ H R I hw) fun _ _ hx => thn hx fun _ _ ⟨it, fp, tn, J, H', e, I2, T, r⟩ => ⟨it, fp, tn, J, H', e, I2, T.hot, r⟩⟩
theorem pib_list {l : Expr} {tl : TE} (hl : PE X l tl) : PIB X tg l (iList X.K tl) := by
  refine ⟨fun pins s σ H R I h => thn (hl.run pins s σ H _ I h) fun v s1 ⟨x, H1, I1, r1, a, e, ⟨xs, hq⟩, q⟩ => ?_⟩
  subst e
  cases r1
  obtain ⟨its, rv, p, hz⟩ := I1.list hq
  refine wpAny_pyIter_list p.isList ⟨s1.heap.objs.size, [s1.heap.objs.size], _, _, H1, rfl, I1.kept (t' := s1.toks) fun b o e => Heap.get?_push_of_some _ e, turnB_list a _, ⟨_, Heap.get?_push_size _ rfl, rfl, rfl⟩, fun b hb => ?_, q⟩
  rw [List.mem_singleton.mp hb]
  exact I1.fpOk (Nat.le_refl _) (I1.hok.fresh (Nat.le_refl _))
theorem pib_tup {l : Expr} {tl : TE} (hl : PE X l tl) : PIB X tg l (iTup X.K tl) := by
  refine ⟨fun pins s σ H R I h => thn (hl.run pins s σ H _ I h) fun v s1 ⟨x, H1, I1, r1, a, e, ⟨xs, hq⟩, q⟩ => ?_⟩
  subst e
  cases r1
  obtain ⟨its, rv, p, hz⟩ := I1.tuple hq
  refine wpAny_pyIter_tuple (show s1.heap.IsTuple a its.toArray from p) ⟨s1.heap.objs.size, [s1.heap.objs.size], _, _, H1, rfl, I1.kept (t' := s1.toks) fun b o e => Heap.get?_push_of_some _ e, turnB_tup a _, ⟨_, Heap.get?_push_size _ rfl, rfl, rfl⟩, fun b hb => ?_, q⟩
  rw [List.mem_singleton.mp hb]
  exact I1.fpOk (Nat.le_refl _) (I1.hok.fresh (Nat.le_refl _))
theorem ps_forB {iter : Expr} {body : List Stmt} {wi : TI} {g : TG} {tb : TS} {pos : Pos} (hp : PassesOwn (model X.prog X.w) X.A X.env X.xe) (hc : Ok1 X) (hi : PIB X tg iter wi) (hg : PG X tg g) (hb : PSs X body tb)
    (hs : ∀ x, foldedSetIterable iter X.env x = pure x := by intro _; rfl) : PS X (.For tg iter body [] pos) (tFor wi g tb) := by
  rcases hc with hc | hc
  · exact ps_for hp hc hi.calm hg hb hs
  · exact L2H.ps_forH hp hc hi.hot hg hb hs
end
/-- a block's context that bears what is handled -/
abbrev Bk (X : Cx) (s : Shared) (H : Hp) (scope : Scope) (cenv : Env) (fp : List Addr) : Cx := { X with s_0 := s, H_0 := H, env := cenv, outer := X.stack, ex := fp, fn := fun x => scope.names.lookup x == some .cell, xe := fun _ _ => False }
section
variable {X : Cx} {pins : List (Addr × Obj)} {σ : L2.St} {H : Hp} {s : Shared}
theorem bk_start {scope : Scope} {own : List (Str × Nat)} {fp : List Addr} (I : Inv X pins σ H s) (ok : BlkOk X.N X.env.scope scope own) (hN : X.N.Nodup) (hfp : ∀ b ∈ fp, FpOk X pins H b ∧ b < s.heap.objs.size) :
    Inv (Bk X s H scope (compEnvC scope (cellsFrom (s.heap.objs.size + 1) scope.names (cloFrom X.env.cells scope.names [])) s.heap.objs.size X.env) fp) [] (wipe σ (own.map (·.2))) H { s with heap := pushCells (s.heap.push { cls := .type "dict", data := .dict #[] }) scope.names } := by
  have J := block_start I ok hN hfp
  have o := J.ok
  refine ⟨⟨o.mod, o.kind, o.glob, o.blt, o.above, o.inj, o.has, o.cab, o.hd, o.frames, o.stk, o.exf, o.bs, o.bsz, o.noex, o.exfs, o.funs, o.frf⟩, J.os, J.bare, J.base, J.loc, J.cell, J.free, J.freeC, fun p hp => ?_, J.hok, J.len⟩
  obtain ⟨a, b, c, d, e⟩ := I.pin p (List.mem_append_left _ ((List.mem_append.mp hp).elim id fun z => nomatch z))
  refine ⟨pushCells_keeps _ _ _ _ (Heap.get?_push_of_some _ a), b, Nat.ne_of_lt (Heap.lt_size a), fun hm => ?_, e⟩
  rcases List.mem_cons.mp (I.stkSub p.1 hm) with z | z
  · exact c z
  · exact d z
theorem lcB {Q : VK} {elt tg iter : Expr} {ifs : List Expr} {scope : Scope} {own : List (Str × Nat)} {pos : Pos} {wi : TI} {g : TG} {tt : TT} {te : TE} (c1 : Ok1 X) (hN : X.N.Nodup) (I : Inv X pins σ H s) (hi : PIB X tg iter wi) (ok : BlkOk X.N X.env.scope scope own)
    (hg : ∀ (s : Shared) (H : Hp) (C : Addr) (cl : List (Str × Addr)) (fp : List Addr), PG (Bk X s H scope (compEnvC scope cl C X.env) fp) tg g) (ht : ∀ (s : Shared) (H : Hp) (C : Addr) (cl : List (Str × Addr)) (fp : List Addr), PTs (Bk X s H scope (compEnvC scope cl C X.env) fp) ifs tt)
    (he : ∀ (s : Shared) (H : Hp) (C : Addr) (cl : List (Str × Addr)) (fp : List Addr), PE (Bk X s H scope (compEnvC scope cl C X.env) fp) elt te) (hs : ∀ x, foldedSetIterable iter X.env x = pure x) (h : tLc wi g tt te (own.map (·.2)) σ H Q) :
    wpAny (model X.prog X.w) X.A (eval (.ListComp elt [⟨tg, iter, ifs, 0⟩] scope pos) X.env) (EP X pins σ Q) X.xe s := by
  rw [eval_ListComp]
  have clos : ∀ y ∈ scope.names, y.2 = .free → ∃ c, X.env.cells.lookup y.1 = some c := fun y hy e => (ok.free y hy e).elim (fun k => I.ok.has _ (.inl k)) fun k => I.ok.has _ (.inr k)
  refine wpAny_comprehension_free (use := none) rfl hs (closure_ok clos) ok.kind (fun y hy e => by rw [ok.uniq y hy, e]) (thn (hi.run pins s σ H _ I h) fun xv sa hx => thn hx fun itv sb hb => ?_)
  obtain ⟨it, fp, tn, J, Hb, eit, Ib, T, tn0, fpB, q⟩ := hb
  subst eit
  refine wpAny_newObj_type (newEnv_comp ?_) (by show 0 ≤ sizeLine; decide)
  generalize eD : sb.heap.objs.size = D
  obtain ⟨W, ⟨m0, w0⟩, turn⟩ := q D (Ib.hok.fresh (Nat.le_of_eq eD))
  generalize esc : ({ sb with heap := sb.heap.push { cls := .type "list", data := .seq ([] : List Value).toArray } } : Shared) = sc
  have hcq : sc.heap = sb.heap.push { cls := .type "list", data := .seq ([] : List Value).toArray } := by rw [← esc]
  have Ic : Inv X pins σ (upd Hb D (.lst [])) sc := by
    rw [← esc]
    refine Ib.laid (t' := sb.toks) (fun b o e => Heap.get?_push_of_some _ e) (Nat.le_of_eq eD) ⟨Nat.zero_le _, [], 0, .nil, ?_⟩
    rw [← eD]
    exact Heap.get?_push_size _ rfl
  have fpC : ∀ b ∈ fp, FpOk X pins (upd Hb D (.lst [])) b ∧ b < sc.heap.objs.size := fun b hb => by
    obtain ⟨o, e, _⟩ := T.obj _ _ tn0 b hb
    have lt := Heap.lt_size e
    refine ⟨⟨?_, (fpB b hb).2⟩, by rw [hcq, Heap.size_push]; exact Nat.lt_succ_of_lt lt⟩
    rw [upd_ne (by rw [← eD]; exact Nat.ne_of_lt lt)]
    exact (fpB b hb).1
  have tnC : tn 0 sc.heap := T.keep _ _ _ tn0 fun b _ o e => by rw [hcq]; exact Heap.get?_push_of_some _ e
  have Id := bk_start Ic ok hN fpC
  have pg := hg sc (upd Hb D (.lst [])) sc.heap.objs.size (cellsFrom (sc.heap.objs.size + 1) scope.names (cloFrom X.env.cells scope.names [])) fp
  have pt := ht sc (upd Hb D (.lst [])) sc.heap.objs.size (cellsFrom (sc.heap.objs.size + 1) scope.names (cloFrom X.env.cells scope.names [])) fp
  have pe := he sc (upd Hb D (.lst [])) sc.heap.objs.size (cellsFrom (sc.heap.objs.size + 1) scope.names (cloFrom X.env.cells scope.names [])) fp
  show codeAny _ _ (.compStart (.ListComp elt [⟨tg, iter, ifs, 0⟩] scope pos) 0 (.ref it) (.ref D) (compEnvC scope (cellsFrom (sc.heap.objs.size + 1) scope.names (cloFrom X.env.cells scope.names [])) sc.heap.objs.size X.env)) (compPost (model X.prog X.w) X.A X.xe none _ (.ref D) sc.heap.objs.size) { sc with heap := pushCells (sc.heap.push { cls := .type "dict", data := .dict #[] }) scope.names }
  have nfp : ∀ b ∈ fp, (upd Hb D (.lst [])) b = none := fun b hb => (fpC b hb).1.1
  generalize ece : compEnvC scope (cellsFrom (sc.heap.objs.size + 1) scope.names (cloFrom X.env.cells scope.names [])) sc.heap.objs.size X.env = ce at Id pg pt pe ⊢
  have cL : ce.locals = sc.heap.objs.size := by subst ece; rfl
  generalize eHc : upd Hb D (.lst []) = Hc at Ic Id pg pt pe w0 nfp fpC
  generalize esd : ({ sc with heap := pushCells (sc.heap.push { cls := .type "dict", data := .dict #[] }) scope.names } : Shared) = sd at Id ⊢
  have tnD : tn 0 sd.heap := T.keep _ _ _ tnC fun b _ o e => by rw [← esd]; exact pushCells_keeps _ _ _ _ (Heap.get?_push_of_some _ e)
  have stat : ∀ {σ' : L2.St} {H' : Hp} {s' : Shared}, Inv (Bk X sc Hc scope ce fp) [] σ' H' s' → (∀ b ∈ fp, H' b = none) → ∀ b ∈ fp, FpOk (Bk X sc Hc scope ce fp) [] H' b := fun {σ' H' s'} I' hn b hb =>
    ⟨hn b hb, (I'.ok.exf b hb).1, I'.ok.exfs b hb, .inl hb, fun x c e => (I'.ok.exf b hb).2 x c e, fun p hp => (fpC b hb).1.2.2.2.2.2 p (List.mem_append_left _ ((List.mem_append.mp hp).elim id fun z => nomatch z))⟩
  have c2 : Ok1 (Bk X sc Hc scope ce fp) := c1
  have loop : codeAny (model X.prog X.w) X.A (.compLoop (.ListComp elt [⟨tg, iter, ifs, 0⟩] scope pos) 0 (.ref it) (.ref D) ce) (compPost (model X.prog X.w) X.A X.xe none (EP X pins σ Q) (.ref D) sc.heap.objs.size) sd := by
    refine compLoop_any (fun n s' => ∃ i H', Inv (Bk X sc Hc scope ce fp) [] (wipe σ (own.map (·.2))) H' s' ∧ tn i s'.heap ∧ (∀ b ∈ fp, H' b = none) ∧ W i n H') ?_ m0 ⟨0, Hc, Id, tnD, nfp, w0⟩
    rintro n se ⟨i, He, Ie, tnE, nE, wE⟩
    rcases turn i n He wE with ⟨stop, qq⟩ | ⟨go, Nx, hNx, step⟩
    · refine thnF (T.done (Bk X sc Hc scope ce fp) rfl rfl rfl c2 i [] se _ He (fun _ _ => False) Ie (stat Ie nE) tnE stop) fun r sf ⟨hr, If⟩ => ?_
      subst hr
      have Ig : Inv X pins σ He sf := Ic.call' (ch := fp) If.os If.base If.hok If.bare fun b hb => ⟨(fpC b hb).1.2.2.2.1, (fpC b hb).1.2.1, (fpC b hb).1.2.2.2.2.1, (fpC b hb).1.2.2.2.2.2⟩
      have nC : He sc.heap.objs.size = none := by
        have z : He ce.locals = none := If.free
        rw [cL] at z
        exact z
      obtain ⟨m, hn, _⟩ := If.loc
      have hn : sf.heap.Ns ce.locals m := hn
      rw [cL] at hn
      obtain ⟨f0, f1, f2, f3, f4, f5⟩ := Ic.fpOk (b := sc.heap.objs.size) (Nat.le_refl _) nC
      exact ⟨m, hn, fun h2 sbut => ⟨.ref D, He, Ig.turned (t' := sf.toks) (fun b o hb e => (sbut.2 b hb).trans e) f0 f1 f3 f4 f5, rfl, qq⟩⟩
    · refine thnF (T.item (Bk X sc Hc scope ce fp) rfl rfl rfl c2 i [] se _ He (fun _ _ => False) Ie (stat Ie nE) tnE go) fun r sf ⟨u, hr, h6⟩ => ?_
      subst hr
      refine thnF h6 fun _ sg ⟨x, Hg, Ig, rg, yg, tnG, nG⟩ => ?_
      have Ig' := Ig.pinned (stat Ig nG) (T.obj _ _ tnG)
      refine thnF (pg.run _ sg _ Hg x u _ Ig' rg (step x Hg yg)) fun _ sh ⟨σh, Hh, Ih, hwh, qh⟩ => ?_
      refine thnF (pt.run _ sh σh Hh _ Ih qh) fun b si ⟨Hi, Ii, qi⟩ => ?_
      have fin : ∀ {s' : Shared} {H' : Hp}, Inv (Bk X sc Hc scope ce fp) ([] ++ pinsAt fp sg.heap) σh H' s' → Nx H' → ∃ m, m < n ∧ ∃ i H', Inv (Bk X sc Hc scope ce fp) [] (wipe σ (own.map (·.2))) H' s' ∧ tn i s'.heap ∧ (∀ b ∈ fp, H' b = none) ∧ W i m H' := fun {s' H'} I' nx => by
        obtain ⟨m', hm, w'⟩ := hNx H' nx
        have pinned : ∀ b ∈ fp, ∀ o, sg.heap.get? b = some o → s'.heap.get? b = some o ∧ H' b = none := fun b hb o e => (fun z => ⟨z.1, z.2.1⟩) (I'.pin (b, o) (List.mem_append_right _ (List.mem_append_right _ (mem_pinsAt hb e))))
        refine ⟨m', hm, i + 1, H', (I'.unpinned (pins := [])).weak (by rw [← hwh, wipe_length]) (fun j v e => (wipe_some (hwh ▸ e)).1), T.keep _ _ _ tnG fun b hb o e => (pinned b hb o e).1, fun b hb => ?_, w'⟩
        obtain ⟨o, e, _⟩ := T.obj _ _ tnG b hb
        exact (pinned b hb o e).2
      cases b with
      | false =>
        simp only [Bool.false_eq_true, if_false] at qi ⊢
        exact fin Ii qi
      | true =>
        simp only [if_true] at qi ⊢
        refine thnF (pe.run _ si σh Hi _ Ii qi) fun z sj ⟨yv, Hj, Ij, rj, acc, hDj, hzj, nx⟩ => ?_
        exact app_ok (X := Bk X sc Hc scope ce fp) Ij hDj hzj rj fun sk Ik => fin Ik nx
  exact codeAny_compStart_list loop (T.self X.A 0 _ _ _ tnD loop)
theorem pe_lcB {elt tg iter : Expr} {ifs : List Expr} {scope : Scope} {own : List (Str × Nat)} {pos : Pos} {wi : TI} {g : TG} {tt : TT} {te : TE} (c1 : Ok1 X) (hN : X.N.Nodup) (hi : PIB X tg iter wi) (ok : BlkOk X.N X.env.scope scope own)
    (hg : ∀ (s : Shared) (H : Hp) (C : Addr) (cl : List (Str × Addr)) (fp : List Addr), PG (Bk X s H scope (compEnvC scope cl C X.env) fp) tg g) (ht : ∀ (s : Shared) (H : Hp) (C : Addr) (cl : List (Str × Addr)) (fp : List Addr), PTs (Bk X s H scope (compEnvC scope cl C X.env) fp) ifs tt)
    (he : ∀ (s : Shared) (H : Hp) (C : Addr) (cl : List (Str × Addr)) (fp : List Addr), PE (Bk X s H scope (compEnvC scope cl C X.env) fp) elt te) (hs : ∀ x, foldedSetIterable iter X.env x = pure x := by intro _; rfl) :
    PE X (.ListComp elt [⟨tg, iter, ifs, 0⟩] scope pos) (tLc wi g tt te (own.map (·.2))) := ⟨fun pins s σ H Q I h => lcB c1 hN I hi ok hg ht he hs h⟩
end
end G35

/-! GHot5 -/
set_option Elab.async false
set_option linter.all false
set_option maxRecDepth 100000
set_option maxHeartbeats 4000000
/-! Defs that may be called while an exception is handled; a list extended by a tuple. -/
namespace G35
open PySem PySem.Spec PyProof.Rows L2

theorem ext_tup (l : Addr) (items : Array Value) (n : Nat) (b : Addr) (dd : Option Addr) (sl : Array (Option Value)) (items2 : Array Value) (n2 : Nat) (hs0 : ¬(!items.isEmpty && Builtin.List.listTooLong (items.size + items2.size)) = true) (hs1 : items.size ≤ sizeLine) (hs2 : items.size + items2.size ≤ sizeLine + 1 := by seq_fits) :
    Meets (Builtin.«list.extend» ⟨[.ref l, .ref b], []⟩) (fun _ R s => s.heap.get? l = some { cls := .type "list", dict := none, data := .seq items n, slots := #[] } ∧ s.heap.get? b = some { cls := .type "tuple", dict := dd, data := .seq items2 n2, slots := sl } ∧ R (.ok (.ret Value.none)) { s with heap := s.heap.update l (Obj.mapSeq fun x => x ++ items2), toks := s.toks }) :=
  .of_wp fun prog w A R s h => by
    obtain ⟨hp, g, d, tk, os⟩ := s
    obtain ⟨hl, hb, h⟩ := h
    have f2 := PySem.F.sub_tuple_tuple
    have f3 := PySem.F.sub_list_list
    have f4 := PySem.F.sub_tuple_list
    have f5 := PySem.F.sub_list_tuple
    have hz' : (items ++ items2).size ≤ sizeLine + 1 := by rw [Array.size_append]; exact hs2
    wp_walk using (wpAny_updateSeq hl rfl (hz := hs1) (_hz' := hz')), wpAny_loadPart' hl, wpAny_loadPart' hb
    exact ⟨_, rfl, h⟩
section
variable {X : Cx}
def rExtT (K : PySem.W.Frag) : V → List V → Hp → VK → Prop := fun x vs H Q => ∃ l b xs zs, x = .ref l ∧ vs = [.ref b] ∧ H l = some (.lst xs) ∧ H b = some (.tup zs) ∧ xs.length + zs.length ≤ sizeLine ∧ Q .non (upd H l (.lst (xs ++ zs)))
theorem mt_extT : MtM X "list.extend" (rExtT X.K) := by
  intro pins s σ H x vs v us Q I rx rv h
  obtain ⟨l, b, xs, zs, rfl, rfl, hH, hB, hz, q⟩ := h
  cases rx
  obtain ⟨u, rfl, ru⟩ := rv.one
  cases ru
  obtain ⟨z, its, n, r, hl, e⟩ := I.lstM hH
  obtain ⟨its2, r2, ⟨o2, e2, c2, n2, d2⟩, z2⟩ := I.tuple (SqT.of hB)
  obtain ⟨oc, od, oda, osl⟩ := o2
  dsimp only at c2 d2
  subst c2 d2
  have hl2 := r2.length
  have hsz : its.toArray.size + its2.toArray.size ≤ sizeLine := by rw [List.size_toArray, List.size_toArray]; omega
  have hlong : ¬ (!its.toArray.isEmpty && Builtin.List.listTooLong (its.toArray.size + its2.toArray.size)) = true := by
    rw [notLongL hsz, Bool.and_false]
    exact Bool.false_ne_true
  refine call_meets F.slot_list_extend ⟨_, e, rfl⟩ F.entry_list_extend (F.args_list_extend_2 _ _) (ext_tup l its.toArray n b od osl its2.toArray n2 hlong (by rw [List.size_toArray]; omega) (by omega)) ⟨e, e2, ?_⟩
  refine ⟨.non, _, I.lset (its' := its ++ its2) hH e (by simp) (r.append r2) ?_, rfl, q⟩
  rw [List.length_append]
  omega
end
/-- a def that may be called by its name, also while an exception is handled -/
structure ClB (P : Program) (w : World) (K : PySem.W.Frag) (mg : Str → Option Value) (base : Heap) (k : Nat) (x : Str) (ps : List Str) (sp : Sp) : Prop where
  ex : ∃ fd, FnOk P w K mg base CX0 k (He.ga K x) fd ps sp ∧ L2H.FnH P w K mg base CX0 k (He.ga K x) fd ps sp ∧ Binds K fd ps []
  mgx : mg x = some (.ref (He.ga K x))
  kp : PySem.W.keepIn K (.ref (He.ga K x)) = true
section
variable {P : Program} {w : World} {K : PySem.W.Frag} {mg : Str → Option Value} {base : Heap}
theorem ClB.cl {k : Nat} {x : Str} {ps : List Str} {sp : Sp} (c : ClB P w K mg base k x ps sp) : Cl P w K mg base CX0 k x ps sp := by
  obtain ⟨fd, F, _, b⟩ := c.ex
  exact ⟨⟨fd, F, b⟩, c.mgx, c.kp⟩
theorem ClB.imp {k : Nat} {x : Str} {ps : List Str} {sp sp' : Sp} (c : ClB P w K mg base k x ps sp) (h : ∀ vs H Q E, sp' vs H Q E → sp vs H Q E) : ClB P w K mg base k x ps sp' := by
  obtain ⟨fd, F, G, b⟩ := c.ex
  exact ⟨⟨fd, F.imp h, ⟨fun vs H Q E q => G.len vs H Q E (h vs H Q E q), fun A outer s H args us vs Q E p a1 a2 a3 a4 a5 a6 a7 => G.run A outer s H args us vs Q E p a1 a2 a3 a4 a5 a6 (h _ _ _ _ a7)⟩, b⟩, c.mgx, c.kp⟩
theorem ClB.mono {j k : Nat} {x : Str} {ps : List Str} {sp : Sp} (c : ClB P w K mg base j x ps sp) (hk : j ≤ k) : ClB P w K mg base k x ps sp := by
  obtain ⟨fd, F, G, b⟩ := c.ex
  exact ⟨⟨fd, F.mono hk, ⟨G.len, fun A outer s H args us vs Q E p a1 => G.run A outer s H args us vs Q E p (a1.mono hk)⟩, b⟩, c.mgx, c.kp⟩
/-- such a def's body's context -/
abbrev cxB (P : Program) (w : World) (K : PySem.W.Frag) (mg : Str → Option Value) (base : Heap) (N : List Str) (qual : Str) (scope : Scope) (f : Addr) (cd : Value) (A : Around) (outer : List Env) (s : Shared) (H : Hp) (E : XK) (b : Bool) (pn : List (Addr × Obj)) : Cx :=
  { (cxOf CX0 P w K mg base N qual scope f cd A outer s H E).nox with calm := b, pn := pn }
theorem clB_of {d : He.DefD} {x : Str} {k : Nat} {N ps : List Str} {sp : Sp} (T : T35 K mg) (i : Nat) (hi : fn[i]? = some d) (hx : d.at_ = (x, none)) (hd : d.dfl = []) (hk : d.kwd = [])
    (S : FnScope N ps d.scope) (len : ∀ vs H Q E, sp vs H Q E → vs.length = ps.length)
    (hb : ∀ (kV doc pm : Value) (an : Option Addr) (cdv ct : Value) (us : List Value), us.length = ps.length → bindArgs (PySem.W.fnOf d.name d.qual d.params d.body d.scope .none kV doc pm an cdv ct) ⟨us, []⟩ = pure (ps.zip us))
    (hbody : ∀ (cdv : Value) (A : Around) (outer : List Env) (s : Shared) (H : Hp) (vs : List V) (Q : VK) (E : XK) (b : Bool) (pn : List (Addr × Obj)), Ok1 (cxB P w K mg base N d.qual d.scope (He.ga K x) cdv A outer s H E b pn) → L2H.RoomH k (cxB P w K mg base N d.qual d.scope (He.ga K x) cdv A outer s H E b pn).A → sp vs H Q E →
      ∃ t, PSs (cxB P w K mg base N d.qual d.scope (He.ga K x) cdv A outer s H E b pn) d.body t ∧ t { nx := fun _ H' => Q .non H', rt := Q } (L2.start N vs) H) : ClB P w K mg base (k + 1) x ps sp := by
  obtain ⟨⟨fd, F⟩, g⟩ := T.def_ i d hi
  have e : He.fAd K d.at_ = He.ga K x := by rw [hx]; rfl
  rw [e] at F
  have g2 : mg x = some (.ref (He.ga K x)) := by
    have := g (by rw [hx])
    rw [hx] at this
    exact this
  have e1 : d.dvs K = [] := by unfold He.DefD.dvs; rw [hd]; rfl
  rw [e1] at F
  refine ⟨⟨fd, F.ok S len fun cdv A outer s H vs Q E hr hsp => ?_, ?_, F.bindsN hb⟩, g2, F.kp⟩
  · obtain ⟨t, h, q⟩ := hbody cdv A outer s H vs Q E true [] (.inl rfl) (L2H.roomH_of hr) hsp
    exact ⟨t, PSs.nox h, q⟩
  · obtain ⟨oc, od, dV, kV, doc, pm, an, cdv, ct, osl, rfl, lk, hcd, _, _⟩ := F.ex
    refine L2H.fn_ofH lk hcd S len fun A outer s H vs Q E p hot hr hsp => ?_
    obtain ⟨t, h, q⟩ := hbody cdv A outer s H vs Q E false [p] (.inr ⟨p, hot, List.mem_singleton.mpr rfl⟩) hr hsp
    exact ⟨t, PSs.nox h, q⟩
end
def tCallB (sp : Sp) (t : TA) : TE := fun σ H Q => t σ H fun vs H1 => sp vs H1 Q E0
theorem pe_clB {X : Cx} {k j : Nat} {x : Str} {ps : List Str} {sp : Sp} {p pos : Pos} {e : Expr} {es : List Expr} {t : TA} (c : ClB X.prog X.w X.K X.mg X.base k x ps sp) (c1 : Ok1 X) (hr : L2H.RoomH j X.A) (hk : k ≤ j) (hg : Gl X x) (ha : PA X (e :: es) t)
    (hdb : (x == ("__debug__" : Str)) = false := by decide) (he : starEach (e :: es) X.env = (false, eval e X.env) :: starEach es X.env := by rfl) (hpl : (backTo pos (starEach es X.env)).any (·.1) = false := by rfl) :
    PE X (.Call (.Name x p) (e :: es) [] pos) (tCallB sp t) := by
  obtain ⟨fd, F, G, b⟩ := c.ex
  refine ⟨fun pins s σ H Q I h => ?_⟩
  rcases c1 with c1 | c1
  · have hr2 : Room k X.A := ⟨I.ok.hd c1, (hr.mono hk).dp, (hr.mono hk).un⟩
    refine (pe_call F hr2 hg c.mgx c.kp b .nil pass0 ha hdb he hpl).run pins s σ H Q I ?_
    have e2 : (fun vs H1 => sp (vs ++ []) H1 Q E0) = fun (vs : List V) (H1 : Hp) => sp vs H1 Q E0 := by
      funext vs H1
      rw [List.append_nil]
    show t σ H fun vs H1 => sp (vs ++ []) H1 Q E0
    rw [e2]
    exact h
  · exact (L2H.pe_callH G (hr.mono hk) c1 hg c.mgx c.kp b (E := fun _ => E0) (fun _ _ _ _ _ _ _ z => False.elim z) ha hdb he hpl).run pins s σ H Q I h
end G35

/-! GLib2 -/
set_option Elab.async false
set_option linter.all false
set_option maxRecDepth 100000
set_option maxHeartbeats 4000000
/-! More readings: what makes new objects; tables of names. -/
namespace G35
open PySem PySem.Spec PyProof.Rows L2
theorem tupex_new {H : Hp} {p : Addr} {o : HO} (h : H p = none) : TupEx H (upd H p o) := .of (same_new h)
theorem tupex_of {H : Hp} {p : Addr} {o o' : HO} (h : H p = some o') (n : ∀ xs, o' ≠ .tup xs) : TupEx H (upd H p o) := fun a xs e => by
  have : a ≠ p := fun z => by
    rw [z, h] at e
    cases e
    exact n xs rfl
  rw [upd_ne this]
  exact e
theorem tupex_dk {H : Hp} {p : Addr} {o : HO} {k : List (Key × V)} (h : H p = some (.dK k)) : TupEx H (upd H p o) := tupex_of h fun _ z => nomatch z
theorem tupex_ls {H : Hp} {p : Addr} {o : HO} {k : List V} (h : H p = some (.lst k)) : TupEx H (upd H p o) := tupex_of h fun _ z => nomatch z
theorem tupex_ins {H : Hp} {p : Addr} {o : HO} {c dx : Addr} {k : List (Str × V)} (h : H p = some (.ins c dx k)) : TupEx H (upd H p o) := tupex_of h fun _ z => nomatch z
section
variable {K : PySem.W.Frag} {σ : L2.St} {H : Hp} {ta tb td te tv : TE} {t u : TT} {x y z v : V} {r : R2} {D : Ends} {tu tw : TS} {tr : TA} {vs : List V} {Q : VK}
theorem x_tup (h : RdA tr σ H vs) (z : vs.length ≤ sizeLine) (k : ∀ p, H p = none → Q (.ref p) (upd H p (.tup vs))) : tTup tr σ H Q := h _ ⟨z, k⟩
theorem x_lst (h : RdA tr σ H vs) (z : vs.length ≤ sizeLine) (k : ∀ p, H p = none → Q (.ref p) (upd H p (.lst vs))) : tLst tr σ H Q := h _ ⟨z, k⟩
theorem x_clB {sp : Sp} (h : RdA tr σ H vs) (k : sp vs H Q E0) : tCallB sp tr σ H Q := h _ k
theorem x_cl {sp : Sp} (h : RdA tr σ H vs) (k : sp vs H Q E0) : tCall sp [] E0 tr σ H Q := h _ (by rw [List.append_nil]; exact k)
theorem s_drop (h : te σ H fun _ H1 => D.nx σ H1) : tDrop te D σ H := h
theorem s_dput {d : Addr} {kvs : List (Key × V)} {a : Str} (hv : Rds tv σ H v) (hd : Rds td σ H (.ref d)) (ha : Rds ta σ H (.str a)) (h : H d = some (.dK kvs)) (hl : kvs.length < sizeLine) (k : D.nx σ (upd H d (.dK (putK kvs (Sum.inr a) v)))) : sDPut td ta tv D σ H :=
  hv _ (hd _ (ha _ ⟨d, _, rfl, DPut.k (k := Sum.inr a) h hl, k⟩))
/-- a while whose test leaves the heap as it is; W counts down -/
theorem rd_lenD {d : Addr} {kvs : List (Key × V)} (ha : Rds ta σ H (.ref d)) (h : H d = some (.dK kvs)) : Rds (tCB (fun xs H Q => ∃ a kvs, xs = [V.ref a] ∧ H a = some (.dK kvs) ∧ Q (.int kvs.length) H) (tCons ta tNil)) σ H (.int (kvs.length : Int)) := fun Q q =>
  ha _ ⟨d, kvs, rfl, h, q⟩
theorem rd_gt0 {n : Nat} (ha : Rds ta σ H (.int (n : Int))) : Rds (tOp (rI0 fun i j => .bl (decide (j < i))) ta (tC (.int 0))) σ H (.bl (decide (0 < n))) := by
  have e : decide ((0 : Int) < (n : Int)) = decide (0 < n) := by
    rw [decide_eq_decide]
    omega
  rw [← e]
  exact rd_I0 (g := fun i j => .bl (decide (j < i))) ha rd_c
end
/-! a table of names that were found -/
def kvF (F : List Str) : List (Key × V) := F.map fun x => (Sum.inr x, .bl true)
theorem kvF_any (F : List Str) (x : Str) : ((kvF F).any fun kv => decide (kv.1 = Sum.inr x)) = decide (x ∈ F) := by
  unfold kvF
  induction F with
  | nil => rfl
  | cons y F ih =>
    rw [List.map_cons, List.any_cons, ih]
    by_cases h : y = x
    · subst h
      simp
    · have h2 : ¬ (Sum.inr y : Key) = Sum.inr x := fun z => h (Sum.inr.inj z)
      have h3 : ¬ x = y := fun z => h z.symm
      simp [h2, h3]
theorem kvF_put (F : List Str) (x : Str) : putK (kvF F) (Sum.inr x) (.bl true) = kvF (addN F x) := by
  unfold putK addN
  rw [kvF_any]
  by_cases h : x ∈ F
  · rw [if_pos (decide_eq_true h), if_pos h]
    unfold kvF
    rw [List.map_map]
    refine List.map_congr_left fun y _ => ?_
    show (if (Sum.inr y : Key) = Sum.inr x then ((Sum.inr y : Key), V.bl true) else (Sum.inr y, .bl true)) = _
    split <;> rfl
  · rw [if_neg (by rw [decide_eq_false h]; exact Bool.false_ne_true), if_neg h]
    unfold kvF
    rw [List.map_append]
    rfl
theorem kvF_len (F : List Str) : (kvF F).length = F.length := List.length_map _
theorem kvF_keys (F : List Str) : ((kvF F).map fun kv => kV kv.1) = F.map V.str := by
  unfold kvF
  rw [List.map_map]
  rfl
theorem addN_len (F : List Str) (x : Str) : (addN F x).length ≤ F.length + 1 := by
  unfold addN
  split
  · exact Nat.le_succ _
  · rw [List.length_append]
    exact Nat.le_refl _
def sizes (ts : List PT) : Nat := (ts.map Tm.size).sum
theorem sizes_nil : sizes [] = 0 := rfl
theorem sizes_cons (t : PT) (ts : List PT) : sizes (t :: ts) = t.size + sizes ts := by
  unfold sizes
  rw [List.map_cons, List.sum_cons]
theorem sizes_app (ts us : List PT) : sizes (ts ++ us) = sizes ts + sizes us := by
  unfold sizes
  rw [List.map_append, List.sum_append]
theorem len_sizes : ∀ ts : List PT, ts.length ≤ sizes ts
  | [] => Nat.le_refl _
  | t :: ts => by
    rw [List.length_cons, sizes_cons]
    have := len_sizes ts
    have := t.size_pos
    omega
theorem RepL.rev {H : Hp} : ∀ {ts : List PT} {vs : List V}, RepL H ts vs → RepL H ts.reverse vs.reverse
  | [], vs, h => by
    have e : vs = [] := h
    rw [e]
    exact RepL.nil
  | t :: ts, vs, h => by
    obtain ⟨v, r, e, h1, h2⟩ := h
    rw [e, List.reverse_cons, List.reverse_cons]
    exact (RepL.rev h2).snoc h1
theorem RepL.split {H : Hp} : ∀ {ts us : List PT} {vs : List V}, RepL H (ts ++ us) vs → ∃ a b, vs = a ++ b ∧ RepL H ts a ∧ RepL H us b
  | [], us, vs, h => ⟨[], vs, rfl, RepL.nil, h⟩
  | t :: ts, us, vs, h => by
    obtain ⟨v, r, e, h1, h2⟩ := h
    obtain ⟨a, b, e2, h3, h4⟩ := RepL.split h2
    exact ⟨v :: a, b, by rw [e, e2]; rfl, .cons h1 h3, h4⟩
theorem RepL.last {H : Hp} {ts : List PT} {t : PT} {vs : List V} (h : RepL H (ts ++ [t]) vs) : ∃ a v, vs = a ++ [v] ∧ RepL H ts a ∧ RepT H t v := by
  obtain ⟨a, b, e, h1, h2⟩ := h.split
  obtain ⟨v, r, e2, h3, h4⟩ := h2
  have e3 : r = [] := h4
  exact ⟨a, v, by rw [e, e2, e3], h1, h3⟩
/-- pop of a list's last -/
theorem rd_popped {us : List V} {v : V} : (us ++ [v])[(us ++ [v]).length - 1]? = some v ∧ (us ++ [v]).dropLast = us := by
  constructor
  · rw [List.length_append]
    exact List.getElem?_concat_length
  · exact List.dropLast_concat
theorem atI_at {xs : List V} {i : Nat} {v : V} (h : xs[i]? = some v) : atI xs (i : Int) = some v := atI_nat h
end G35

/-! GW2 -/
set_option Elab.async false
set_option linter.all false
set_option maxRecDepth 100000
set_option maxHeartbeats 4000000
namespace G35
open PySem PySem.Spec PyProof.Rows L2
/-! ### unknown, app, unknowns_of -/
def spUnknown : Sp := fun vs H Q _ => ∃ x : Str, vs = [.str x] ∧ ∀ v H', Same H H' → RepT H' (.any x) v → Q v H'
def spApp : Sp := fun vs H Q _ => ∃ (f : Str) (ks : List PT) (l : Addr) (ws : List V), vs = [.str f, .ref l] ∧ (H l = some (.lst ws) ∨ H l = some (.tup ws)) ∧ RepL H ks ws ∧ ∀ v H', Same H H' → RepT H' (.app f ks) v → Q v H'
/-- unknowns_of(terms), a list -/
def spUnknowns : Sp := fun vs H Q _ => ∃ (a : Addr) (ts : List PT) (ws : List V), vs = [.ref a] ∧ H a = some (.lst ws) ∧ RepL H ts ws ∧ sizes ts ≤ 100000 ∧
  ∀ q H', Same H H' → H q = none → H' q = some (.lst ((firsts (varsT ts)).map V.str)) → Q (.ref q) H'
theorem varsT_nil : varsT [] = [] := rfl
theorem varsT_cons (t : PT) (ts : List PT) : varsT (t :: ts) = t.vars ++ varsT ts := by
  unfold varsT
  rw [List.flatMap_cons]
theorem varsT_app (ts us : List PT) : varsT (ts ++ us) = varsT ts ++ varsT us := by
  unfold varsT
  rw [List.flatMap_append]
theorem firstsF_app (F a b : List Str) : firstsF F (a ++ b) = firstsF (firstsF F a) b := by
  unfold firstsF
  rw [List.foldl_append]
section
variable {P : Program} {w : World} {K : PySem.W.Frag} {mg : Str → Option Value} {base : Heap}
theorem sc_unknown : FnScope ["name"] ["name"] d_unknown.scope := ⟨rfl, rfl, rfl, by decide +kernel, rfl, by decide +kernel, by decide +kernel⟩
theorem sc_app : FnScope ["sign", "kids"] ["sign", "kids"] d_app.scope := ⟨rfl, rfl, rfl, by decide +kernel, rfl, by decide +kernel, by decide +kernel⟩
theorem sc_unknowns : FnScope ["terms", "found", "left", "term"] ["terms"] d_unknowns_of.scope := ⟨rfl, rfl, rfl, by decide +kernel, rfl, by decide +kernel, by decide +kernel⟩
theorem ok_unknown (T : T35 K mg) : ClB P w K mg base 1 "unknown" ["name"] spUnknown := by
  refine clB_of (d := d_unknown) T 2 rfl rfl rfl rfl sc_unknown (fun vs H Q E h => ?_) (fun _ _ _ _ _ _ us hl => match us, hl with | [_], _ => rfl) (fun cdv A outer s H vs Q E b pn c1 hr h => ?_)
  · obtain ⟨x, rfl, _⟩ := h
    rfl
  · obtain ⟨x, rfl, k⟩ := h
    refine ⟨_, pss_one (ps_ret (pe_tup (pa_cons pe_str (pa_cons (pv 0) pa_nil)))), ?_⟩
    exact x_tup (ra_cons rd_c (ra_cons (rd_var rfl) ra_nil)) (sz (by simp)) fun p hp => k _ _ (same_new hp) ⟨p, rfl, upd_same⟩
theorem ok_app (T : T35 K mg) : ClB P w K mg base 1 "app" ["sign", "kids"] spApp := by
  refine clB_of (d := d_app) T 3 rfl rfl rfl rfl sc_app (fun vs H Q E h => ?_) (fun _ _ _ _ _ _ us hl => match us, hl with | [_, _], _ => rfl) (fun cdv A outer s H vs Q E b pn c1 hr h => ?_)
  · obtain ⟨f, ks, l, ws, rfl, _⟩ := h
    rfl
  · obtain ⟨f, ks, l, ws, rfl, hl, hr, k⟩ := h
    refine ⟨_, pss_one (ps_ret (pe_tup (pa_cons pe_str (pa_cons (pv 0) (pa_cons (pe_tupleOf rfl (T.free 3 _ rfl) (pv 1)) pa_nil))))), ?_⟩
    refine ⟨.str f, rfl, .ref l, rfl, ?_⟩
    rcases hl with hl | hl
    · refine .inl ⟨l, ws, rfl, SqL.of hl, fun q hq => ⟨sz (by simp), fun p hp => ?_⟩⟩
      have ne : p ≠ q := fun z => by
        rw [z, upd_same] at hp
        cases hp
      refine k _ _ ((same_new hq).trans (same_new hp)) ⟨p, q, ws, rfl, upd_same, ?_, hr.ex ((tupex_new hq).trans (tupex_new hp))⟩
      rw [upd_ne ne.symm, upd_same]
    · refine .inr ⟨l, ws, rfl, SqT.of hl, ⟨sz (by simp), fun p hp => ?_⟩⟩
      exact k _ _ (same_new hp) ⟨p, l, ws, rfl, upd_same, same_new hp _ _ hl, hr.ex (tupex_new hp)⟩
theorem ok_unknowns (T : T35 K mg) : ClB P w K mg base 1 "unknowns_of" ["terms"] spUnknowns := by
  refine clB_of (d := d_unknowns_of) T 4 rfl rfl rfl rfl sc_unknowns (fun vs H Q E h => ?_) (fun _ _ _ _ _ _ us hl => match us, hl with | [_], _ => rfl) (fun cdv A outer s H vs Q E b pn c1 hr h => ?_)
  · obtain ⟨a, ts, ws, rfl, _⟩ := h
    rfl
  · obtain ⟨a, ts, ws, rfl, ha, hts, hsz, k⟩ := h
    have hu : (cxB P w K mg base ["terms", "found", "left", "term"] d_unknowns_of.qual d_unknowns_of.scope (He.ga K "unknowns_of") cdv A outer s H E b pn).A.units + 1 < cLine := by
      have := hr.un
      omega
    refine ⟨_, pss_cons (ps_set (i := 1) sc_unknowns.nd rfl (Or.inl rfl) pe_dnewK) (pss_cons (ps_set (i := 2) sc_unknowns.nd rfl (Or.inl rfl) (pe_listRev c1 rfl (T.free 1 _ rfl) rfl (T.free 2 _ rfl) (pv 0)))
      (pss_cons (ps_while PassesOwn.never (pt_cmpR op_gt (pe_callB call_len_seq rfl (T.free 0 _ rfl) PySem.boot_len (pa_cons (pv 2) pa_nil)) pe_int (nomark _))
        (pss_cons (ps_set (i := 3) sc_unknowns.nd rfl (Or.inl rfl) (pe_bm0 PySem.F.plainAttrs_list PySem.F.slot_list_pop PySem.F.type_list_pop mt_pop (pv 2)))
        (pss_cons (ps_if (pt_cmpR op_eq (pe_ix ix_tup (pv 3) pe_int (fun _ _ => rfl)) pe_str (nomark _)) (pss_one (ps_dput hu (pv 1) (pe_ix ix_tup (pv 3) pe_int (fun _ _ => rfl)) pe_bl rfl)) pss_nil)
        (pss_one (ps_if (pt_cmpR op_eq (pe_ix ix_tup (pv 3) pe_int (fun _ _ => rfl)) pe_str (nomark _)) (pss_one (ps_expr (pe_bm PySem.F.plainAttrs_list PySem.F.slot_list_extend PySem.F.type_list_extend mt_extend (pv 2)
          (pa_cons (pe_listRev c1 rfl (T.free 1 _ rfl) rfl (T.free 2 _ rfl) (pe_ix ix_tup (pv 3) pe_int (fun _ _ => rfl))) pa_nil)))) pss_nil)))))
      (pss_one (ps_ret (pe_callTy (call_listD c1) rfl (T.free 1 _ rfl) PyProof.Rows.boot_list (pa_cons (pv 1) pa_nil)))))), ?_⟩
    refine fun d hd => ?_
    refine ⟨.ref a, rfl, a, ws, rfl, .inl (SqL.of (same_new hd _ _ ha)), fun q hq => ?_⟩
    have dq : d ≠ q := fun z => by
      rw [z] at hq
      rw [upd_same] at hq
      cases hq
    refine s_while (fun m σ H' => ∃ (F : List Str) (R : List PT) (us : List V) (o : Option V), σ = [some (.ref a), some (.ref d), some (.ref q), o] ∧ m = sizes R ∧ Same H H' ∧ H' d = some (.dK (kvF F)) ∧ H' q = some (.lst us) ∧ RepL H' R.reverse us ∧ F.length + sizes R ≤ sizes ts ∧ firstsF F (varsT R) = firsts (varsT ts)) (sizes ts)
      ⟨[], ts, ws.reverse, none, rfl, rfl, (same_new hd).trans (same_new hq), ?_, upd_same, ?_, by simp, rfl⟩ ?_
    · rw [upd_ne dq, upd_same]
      rfl
    · exact (hts.ex ((tupex_new hd).trans (tupex_new hq))).rev
    · rintro m σ H' ⟨F, R, us, o, rfl, rfl, hS, hF, hq', hR, hb, hf⟩
      have hlen := hR.length
      rw [List.length_reverse] at hlen
      have hqn : H q = none := (same_new hd).free hq
      refine ⟨decide (0 < us.length), rdT_test (rd_gt0 (rd_lenL (rd_var rfl) hq')), fun hpos => ?_, fun hz => ?_⟩
      · cases R with
        | nil =>
          have e : us.length = 0 := hlen
          rw [e] at hpos
          cases hpos
        | cons t R =>
          rw [List.reverse_cons] at hR
          obtain ⟨us, v, rfl, hR, ht⟩ := hR.last
          rw [sizes_cons] at hb
          -- pop
          refine ⟨.ref q, rfl, .inl ⟨rfl, _, SqL.of hq'⟩, q, _, v, rfl, rfl, hq', rd_popped.1, ?_⟩
          rw [rd_popped.2]
          have hS2 : Same H (upd H' q (.lst us)) := same_mut hS hqn
          have ex2 : TupEx H' (upd H' q (.lst us)) := tupex_ls hq'
          have hF2 : upd H' q (.lst us) d = some (.dK (kvF F)) := by rw [upd_ne dq]; exact hF
          have hq2 : upd H' q (.lst us) q = some (.lst us) := upd_same
          have ht2 := ht.ex ex2
          have hR2 := hR.ex ex2
          generalize upd H' q (.lst us) = H2 at hS2 hF2 hq2 ht2 hR2
          have hdn : H d = none := hd
          have len2 := len_sizes R
          have len3 := hR.length
          rw [List.length_reverse] at len3
          cases t with
          | num n =>
            refine s_if (rdT_test (rd_eqS (rd_tag (rd_var rfl) ht2) rd_c)) (fun z => ?_) fun _ => ?_
            · rw [dec_num] at z; cases z
            refine s_if (rdT_test (rd_eqS (rd_tag (rd_var rfl) ht2) rd_c)) (fun z => ?_) fun _ => ?_
            · rw [dea_num] at z; cases z
            refine ⟨sizes R, ?_, F, R, us, some v, rfl, rfl, hS2, hF2, hq2, hR2, by omega, ?_⟩
            · rw [sizes_cons, Tm.size_num]; omega
            · rw [varsT_cons, Tm.vars_num] at hf
              exact hf
          | any x =>
            rw [Tm.size_any] at hb
            refine s_if (rdT_test (rd_eqS (rd_tag (rd_var rfl) ht2) rd_c)) (fun _ => ?_) fun z => ?_
            · refine s_dput (v := .bl true) rd_c (rd_var rfl) (rd_second (rd_var rfl) ht2) hF2 (by rw [kvF_len]; exact szl (by omega)) ?_
              rw [kvF_put]
              have hS3 : Same H (upd H2 d (.dK (kvF (addN F x)))) := same_mut hS2 hdn
              have ex3 : TupEx H2 (upd H2 d (.dK (kvF (addN F x)))) := tupex_dk hF2
              refine s_if (rdT_test (rd_eqS (rd_tag (rd_var rfl) (ht2.ex ex3)) rd_c)) (fun z => ?_) fun _ => ?_
              · rw [dea_any] at z; cases z
              refine ⟨sizes R, ?_, addN F x, R, us, some v, rfl, rfl, hS3, upd_same, ?_, hR2.ex ex3, ?_, ?_⟩
              · rw [sizes_cons, Tm.size_any]; omega
              · rw [upd_ne (Ne.symm dq)]; exact hq2
              · have := addN_len F x
                omega
              · rw [varsT_cons, Tm.vars_any] at hf
                exact hf
            · rw [dec_any] at z; cases z
          | app f ks =>
            refine s_if (rdT_test (rd_eqS (rd_tag (rd_var rfl) ht2) rd_c)) (fun z => ?_) fun _ => ?_
            · rw [dec_app] at z; cases z
            refine s_if (rdT_test (rd_eqS (rd_tag (rd_var rfl) ht2) rd_c)) (fun _ => ?_) fun z => ?_
            · obtain ⟨ta, tk, kv, rfl, ht3, hk3, hks⟩ := ht2.kids
              have hz : sizes ks < (Tm.app f ks).size := by
                rw [Tm.size_app]
                unfold sizes
                omega
              have hkl := hks.length
              have hkz := len_sizes ks
              refine ⟨.ref q, rfl, .inl ⟨rfl, _, SqL.of hq2⟩, ?_⟩
              refine rd_ixT (n := 2) (rd_var rfl) rd_c ht3 rfl _ ?_
              refine ⟨tk, kv, rfl, .inr (SqT.of hk3), fun e he => ?_⟩
              have qe : q ≠ e := fun z => by
                rw [z, he] at hq2
                cases hq2
              refine ⟨q, e, us, kv.reverse, rfl, rfl, ?_, upd_same, sz ?_, ?_⟩
              · rw [upd_ne qe]; exact hq2
              · rw [List.length_reverse]; omega
              have ex3 : TupEx H2 (upd H2 e (.lst kv.reverse)) := tupex_new he
              have hq3 : upd H2 e (.lst kv.reverse) q = some (.lst us) := by rw [upd_ne qe]; exact hq2
              have hd3 : upd H2 e (.lst kv.reverse) d = some (.dK (kvF F)) := by
                rw [upd_ne fun z => by rw [z, he] at hF2; cases hF2]
                exact hF2
              have hS3 := hS2.trans (same_new (o := .lst kv.reverse) he)
              have ex4 : TupEx (upd H2 e (.lst kv.reverse)) (upd (upd H2 e (.lst kv.reverse)) q (.lst (us ++ kv.reverse))) := tupex_ls hq3
              refine ⟨sizes (ks ++ R), ?_, F, ks ++ R, us ++ kv.reverse, some (.ref ta), rfl, rfl, same_mut hS3 hqn, ?_, upd_same, ?_, ?_, ?_⟩
              · rw [sizes_cons, sizes_app]; omega
              · rw [upd_ne dq]; exact hd3
              · rw [List.reverse_append]
                exact ((hR2.ex (ex3.trans ex4)).append (hks.rev.ex (ex3.trans ex4)))
              · rw [sizes_app]; omega
              · rw [varsT_cons, Tm.vars_app] at hf
                rw [varsT_app]
                exact hf
            · rw [dea_app] at z; cases z
      · cases R with
        | nil =>
          refine ⟨.ref d, rfl, d, kvF F, rfl, hF, fun e he => k e _ (hS.trans (same_new he)) (hS.free he) ?_⟩
          have hf2 : F = firsts (varsT ts) := hf
          rw [upd_same, kvF_keys, hf2]
        | cons t R =>
          rw [hlen] at hz
          simp at hz
end
end G35

/-! GW3 -/
set_option Elab.async false
set_option linter.all false
set_option maxRecDepth 100000
set_option maxHeartbeats 4000000
namespace G35
open PySem PySem.Spec PyProof.Rows L2
/-! ### renamed, told_anew, marked -/
def spRenamed (n : Nat) : Sp := fun vs H Q _ => ∃ (t : PT) (v : V) (d : Addr) (kvs : List (Key × V)) (ρ : Str → Str), vs = [v, .ref d] ∧ RepT H t v ∧ t.depth ≤ n ∧ t.size ≤ 100000 ∧ H d = some (.dK kvs) ∧ (∀ x ∈ t.vars, valV kvs (Sum.inr x : Key) = some (.str (ρ x))) ∧
  ∀ v' H', Same H H' → RepT H' (t.sub fun x => .any (ρ x)) v' → Q v' H'
theorem kid_size {f : Str} {ks : List PT} {i : Nat} {t : PT} (h : ks[i]? = some t) : t.size < (Tm.app f ks).size ∧ t.depth < (Tm.app f ks).depth ∧ ∀ x ∈ t.vars, x ∈ (Tm.app f ks).vars := by
  have hm : t ∈ ks := List.mem_of_getElem? h
  refine ⟨Tm.size_kid hm, Tm.depth_kid hm, fun x hx => ?_⟩
  rw [Tm.vars_app]
  exact List.mem_flatMap.mpr ⟨t, hm, hx⟩
theorem sizes_app1 {f : Str} {ks : List PT} : (Tm.app f ks : PT).size = sizes ks + 1 := by
  rw [Tm.size_app]
  unfold sizes
  omega
theorem take_snoc {α : Type} {l : List α} {i : Nat} {x : α} (h : l[i]? = some x) : l.take (i + 1) = l.take i ++ [x] := by
  obtain ⟨hl, e⟩ := List.getElem?_eq_some_iff.mp h
  rw [List.take_succ_eq_append_getElem hl, e]
section
variable {P : Program} {w : World} {K : PySem.W.Frag} {mg : Str → Option Value} {base : Heap}
theorem sc_renamed : FnScope ["term", "names", "kid"] ["term", "names"] d_renamed.scope := ⟨rfl, rfl, rfl, by decide +kernel, rfl, by decide +kernel, by decide +kernel⟩
theorem ok_renamed (T : T35 K mg) : ∀ n : Nat, ClB P w K mg base (n + 2) "renamed" ["term", "names"] (spRenamed n)
  | 0 => by
    refine clB_of (d := d_renamed) T 5 rfl rfl rfl rfl sc_renamed (fun vs H Q E h => ?_) (fun _ _ _ _ _ _ us hl => match us, hl with | [_, _], _ => rfl) (fun cdv A outer s H vs Q E b pn c1 hr h => ?_)
    · obtain ⟨t, v, d, kvs, ρ, rfl, _⟩ := h
      rfl
    · obtain ⟨t, v, d, kvs, ρ, rfl, ht, hn, _⟩ := h
      have := t.depth_pos
      omega
  | n + 1 => by
    have ih := ok_renamed T n
    have cU := ok_unknown (P := P) (w := w) (base := base) T
    have cA := ok_app (P := P) (w := w) (base := base) T
    refine clB_of (d := d_renamed) T 5 rfl rfl rfl rfl sc_renamed (fun vs H Q E h => ?_) (fun _ _ _ _ _ _ us hl => match us, hl with | [_, _], _ => rfl) (fun cdv A outer s H vs Q E b pn c1 hr h => ?_)
    · obtain ⟨t, v, d, kvs, ρ, rfl, _⟩ := h
      rfl
    · obtain ⟨t, v, d, kvs, ρ, rfl, ht, hn, hsz, hd, hρ, k⟩ := h
      have hu : (cxB P w K mg base ["term", "names", "kid"] d_renamed.qual d_renamed.scope (He.ga K "renamed") cdv A outer s H E b pn).A.units + 1 < cLine := by
        have := hr.un
        omega
      refine ⟨_, pss_cons (ps_if (pt_cmpR op_eq (pe_ix ix_tup (pv 0) pe_int (fun _ _ => rfl)) pe_str (nomark _)) (pss_one (ps_ret (pe_clB cU c1 hr (by omega) rfl (pa_cons (pe_dget hu (pv 1) (pe_ix ix_tup (pv 0) pe_int (fun _ _ => rfl)) (fun _ _ => rfl)) pa_nil)))) pss_nil)
        (pss_cons (ps_if (pt_cmpR op_eq (pe_ix ix_tup (pv 0) pe_int (fun _ _ => rfl)) pe_str (nomark _)) (pss_one (ps_ret (pv 0))) pss_nil)
        (pss_one (ps_ret (pe_clB cA c1 hr (by omega) rfl (pa_cons (pe_ix ix_tup (pv 0) pe_int (fun _ _ => rfl)) (pa_cons
          (pe_lcB (own := [("kid", 2)]) (g := gName 2) (tt := tYes) c1 sc_renamed.nd (pib_tup (pe_ix ix_tup (pv 0) pe_int (fun _ _ => rfl))) (blkOk_by (N := ["term", "names", "kid"]) (sc := d_renamed.scope) (by decide +kernel)) (fun _ _ _ _ _ => pg_name (i := 2) sc_renamed.nd rfl (Or.inl rfl)) (fun _ _ _ _ _ => pts_nil)
            (fun s2 H2 C cl fp => pe_clB ih c1 hr (by omega) rfl (pa_cons (pv 2) (pa_cons (pv 1) pa_nil)))) pa_nil)))))), ?_⟩
      cases t with
      | any x =>
        refine s_if (rdT_test (rd_eqS (rd_tag (rd_var rfl) ht) rd_c)) (fun _ => ?_) fun z => ?_
        · refine x_clB (sp := spUnknown) (ra_cons (rd_dget (rd_second (rd_var rfl) ht) (rd_var rfl) hd (hρ x (by rw [Tm.vars_any]; exact List.mem_singleton.mpr rfl))) ra_nil) ⟨ρ x, rfl, fun v' H' e r => k v' H' e ?_⟩
          rw [Tm.sub_any]
          exact r
        · rw [dec_any] at z; cases z
      | num i =>
        refine s_if (rdT_test (rd_eqS (rd_tag (rd_var rfl) ht) rd_c)) (fun z => ?_) fun _ => ?_
        · rw [dec_num] at z; cases z
        refine s_if (rdT_test (rd_eqS (rd_tag (rd_var rfl) ht) rd_c)) (fun _ => ?_) fun z => ?_
        · exact s_ret (rd_var rfl) (k _ _ (Same.refl _) (by rw [Tm.sub_num]; exact ht))
        · rw [den_num] at z; cases z
      | app f ks =>
        refine s_if (rdT_test (rd_eqS (rd_tag (rd_var rfl) ht) rd_c)) (fun z => ?_) fun _ => ?_
        · rw [dec_app] at z; cases z
        refine s_if (rdT_test (rd_eqS (rd_tag (rd_var rfl) ht) rd_c)) (fun z => ?_) fun _ => ?_
        · rw [den_app] at z; cases z
        obtain ⟨ta, tk, kv, rfl, ht3, hk3, hks⟩ := ht.kids
        have hkl := hks.length
        have hkz := len_sizes ks
        rw [sizes_app1] at hsz
        refine rd_second (rd_var rfl) ht _ ?_
        refine rd_ixT (n := 2) (rd_var rfl) rd_c ht3 rfl _ ?_
        refine ⟨tk, rfl, ⟨_, SqT.of hk3⟩, fun D hD => ?_⟩
        refine lc_tup (xs := kv) (fun i H' => Same H H' ∧ ∃ acc, H' D = some (.lst acc) ∧ RepL H' ((ks.take i).map (Tm.sub fun x => .any (ρ x))) acc) ⟨same_new hD, [], upd_same, RepL.nil⟩ (fun i H' _ p => SqT.of (p.1 _ _ hk3)) (fun i x H' hx p => ?_) (fun H' p => ?_)
        · obtain ⟨hS, acc, hacc, hL⟩ := p
          obtain ⟨t, hti, hrt⟩ := hks.got hx
          obtain ⟨k1, k2, k3⟩ := kid_size (f := f) hti
          refine ⟨rfl, ?_⟩
          refine x_clB (sp := spRenamed n) (ra_cons (rd_var rfl) (ra_cons (rd_var rfl) ra_nil)) ⟨t, x, d, kvs, ρ, rfl, hrt.ex (.of hS), by omega, by rw [sizes_app1] at k1; omega, hS _ _ hd, fun y hy => hρ y (k3 y hy), fun v' H2 e r => ?_⟩
          have hal := hL.length
          rw [List.length_map, List.length_take] at hal
          have ex : TupEx H2 (upd H2 D (.lst (acc ++ [v']))) := tupex_ls (e _ _ hacc)
          refine ⟨acc, e _ _ hacc, szl (by omega), same_mut (hS.trans e) hD, _, upd_same, ?_⟩
          rw [take_snoc hti, List.map_append]
          exact (hL.ex ((TupEx.of e).trans ex)).snoc (r.ex ex)
        · obtain ⟨hS, acc, hacc, hL⟩ := p
          rw [hkl, List.take_length] at hL
          refine ⟨f, _, D, acc, rfl, .inl hacc, hL, fun v' H2 e r => k v' H2 (hS.trans e) ?_⟩
          rw [Tm.sub_app]
          exact r
end
end G35

/-! GW4 -/
set_option Elab.async false
set_option linter.all false
set_option maxRecDepth 100000
set_option maxHeartbeats 4000000
namespace G35
open PySem PySem.Spec PyProof.Rows L2
/-! ### told_anew, marked -/
def kvN (g : Str → Str) (l : List Str) : List (Key × V) := l.map fun x => (Sum.inr x, .str (g x))
theorem kvN_val {g : Str → Str} {l : List Str} {x : Str} (h : x ∈ l) : valV (kvN g l) (Sum.inr x : Key) = some (.str (g x)) := by
  induction l with
  | nil => cases h
  | cons y l ih =>
    show valV ((Sum.inr y, .str (g y)) :: kvN g l) (Sum.inr x) = _
    by_cases e : y = x
    · rw [valV_pos (show (Sum.inr y : Key) = Sum.inr x from congrArg Sum.inr e), e]
    · rw [valV_neg (show ¬ (Sum.inr y : Key) = Sum.inr x from fun z => e (Sum.inr.inj z))]
      refine ih ?_
      rcases List.mem_cons.mp h with z | z
      · exact absurd z.symm e
      · exact z
theorem kvN_none {g : Str → Str} {l : List Str} {x : Str} (h : x ∉ l) : valV (kvN g l) (Sum.inr x : Key) = none := by
  induction l with
  | nil => rfl
  | cons y l ih =>
    show valV ((Sum.inr y, .str (g y)) :: kvN g l) (Sum.inr x) = _
    rw [valV_neg (show ¬ (Sum.inr y : Key) = Sum.inr x from fun z => h (by rw [Sum.inr.inj z]; exact List.mem_cons_self ..))]
    exact ih fun z => h (List.mem_cons_of_mem _ z)
theorem kvN_put {g : Str → Str} {l : List Str} {x : Str} (h : x ∉ l) : putK (kvN g l) (Sum.inr x) (.str (g x)) = kvN g (l ++ [x]) := by
  rw [putK_new _ (kvN_none h)]
  unfold kvN
  rw [List.map_append]
  rfl
theorem kvN_len {g : Str → Str} {l : List Str} : (kvN g l).length = l.length := List.length_map _
theorem idx_at : ∀ {l : List Str} {i : Nat} {x : Str}, l.Nodup → l[i]? = some x → idx x l = i
  | [], _, _, _, h => by cases h
  | y :: l, 0, x, _, h => by
    cases h
    show (if y = y then 0 else _) = 0
    rw [if_pos rfl]
  | y :: l, i + 1, x, nd, h => by
    have hm : x ∈ l := List.mem_of_getElem? h
    have ne : x ≠ y := fun z => (List.nodup_cons.mp nd).1 (z ▸ hm)
    show (if x = y then 0 else idx x l + 1) = i + 1
    rw [if_neg ne, idx_at (List.nodup_cons.mp nd).2 h]
theorem not_take {l : List Str} {i : Nat} {x : Str} (nd : l.Nodup) (h : l[i]? = some x) : x ∉ l.take i := fun hm => by
  obtain ⟨j, hj⟩ := List.getElem?_of_mem hm
  have hji : j < i := by
    have := (List.getElem?_eq_some_iff.mp hj).1
    rw [List.length_take] at this
    omega
  rw [List.getElem?_take_of_lt hji] at hj
  have a := idx_at nd hj
  have b := idx_at nd h
  omega
def spTold (n : Nat) : Sp := fun vs H Q _ => ∃ (a : Addr) (ts : List PT) (ws : List V), vs = [.ref a] ∧ H a = some (.lst ws) ∧ RepL H ts ws ∧ sizes ts ≤ 100000 ∧ (∀ t ∈ ts, t.depth ≤ n) ∧
  ∀ q us H', Same H H' → H q = none → H' q = some (.lst us) → RepL H' (tolds ts) us → Q (.ref q) H'
def spMarked (n : Nat) : Sp := fun vs H Q _ => ∃ (t : PT) (v : V) (k : Int), vs = [v, .int k] ∧ RepT H t v ∧ t.depth ≤ n ∧ t.size ≤ 100000 ∧ k.natAbs.log2 < 1920 ∧ (∀ x ∈ t.vars, x.length ≤ 1000) ∧
  ∀ v' H', Same H H' → RepT H' (t.sub fun x => .any (x ++ Str.ofString "." ++ istr k)) v' → Q v' H'
theorem len_firstsF : ∀ {l acc : List Str}, (firstsF acc l).length ≤ acc.length + l.length
  | [], acc => Nat.le_refl _
  | x :: l, acc => by
    have := len_firstsF (l := l) (acc := addN acc x)
    have := addN_len acc x
    show (firstsF (addN acc x) l).length ≤ _
    rw [List.length_cons]
    omega
theorem len_vars : ∀ t : PT, t.vars.length ≤ t.size := by
  refine Tm.ind (fun n => by rw [Tm.vars_num]; exact Nat.zero_le _) (fun x => by rw [Tm.vars_any, Tm.size_any]; exact Nat.le_refl _) fun f ks ih => ?_
  rw [Tm.vars_app, Tm.size_app]
  have : ∀ ks : List PT, (∀ k ∈ ks, k.vars.length ≤ k.size) → (ks.flatMap Tm.vars).length ≤ (ks.map Tm.size).sum := by
    intro ks
    induction ks with
    | nil => intro _; exact Nat.le_refl _
    | cons k ks ih =>
      intro h
      rw [List.flatMap_cons, List.length_append, List.map_cons, List.sum_cons]
      have := h k (List.mem_cons_self ..)
      have := ih fun j hj => h j (List.mem_cons_of_mem _ hj)
      omega
  have := this ks ih
  omega
theorem len_varsT : ∀ ts : List PT, (varsT ts).length ≤ sizes ts
  | [] => Nat.le_refl _
  | t :: ts => by
    rw [varsT_cons, sizes_cons, List.length_append]
    have := len_vars t
    have := len_varsT ts
    omega
theorem log2_small {i : Int} (h0 : 0 ≤ i) (h : i ≤ 1000000) : i.natAbs.log2 < 1920 := by
  have h1 : i.natAbs < 2 ^ 20 := by omega
  by_cases e : i.natAbs = 0
  · rw [e]
    decide
  · have := (Nat.log2_lt e).mpr h1
    omega
theorem nmU_len {i : Nat} (h : i ≤ 100000) : (istr ((i : Int) + 1)).length ≤ 1921 := PyProof.Rows.int_text_len_1921 (log2_small (by omega) (by omega))
section
variable {P : Program} {w : World} {K : PySem.W.Frag} {mg : Str → Option Value} {base : Heap}
theorem sc_told : FnScope ["terms", "names", "name", "term"] ["terms"] d_told_anew.scope := ⟨rfl, rfl, rfl, by decide +kernel, rfl, by decide +kernel, by decide +kernel⟩
theorem sc_marked : FnScope ["term", "n", "names", "name"] ["term", "n"] d_marked.scope := ⟨rfl, rfl, rfl, by decide +kernel, rfl, by decide +kernel, by decide +kernel⟩
theorem ok_told (T : T35 K mg) (n : Nat) : ClB P w K mg base (n + 3) "told_anew" ["terms"] (spTold n) := by
  have cU := ok_unknowns (P := P) (w := w) (base := base) T
  have cR := ok_renamed (P := P) (w := w) (base := base) T n
  refine clB_of (d := d_told_anew) T 6 rfl rfl rfl rfl sc_told (fun vs H Q E h => ?_) (fun _ _ _ _ _ _ us hl => match us, hl with | [_], _ => rfl) (fun cdv A outer s H vs Q E b pn c1 hr h => ?_)
  · obtain ⟨a, ts, ws, rfl, _⟩ := h
    rfl
  · obtain ⟨a, ts, ws, rfl, ha, hts, hsz, hdp, k⟩ := h
    have hu : (cxB P w K mg base ["terms", "names", "name", "term"] d_told_anew.qual d_told_anew.scope (He.ga K "told_anew") cdv A outer s H E b pn).A.units + 1 < cLine := by
      have := hr.un
      omega
    refine ⟨_, pss_cons (ps_set (i := 1) sc_told.nd rfl (Or.inr rfl) pe_dnewK)
      (pss_cons (ps_forB PassesOwn.never c1 (pib_list (pe_clB cU c1 hr (by omega) rfl (pa_cons (pv 0) pa_nil))) (pg_name (i := 2) sc_told.nd rfl (Or.inl rfl))
        (pss_one (ps_dput hu (pv 1) (pv 2) (pe_op op_add_str pe_str (pe_callTy call_str_int rfl (T.free 4 _ rfl) PyProof.Rows.boot_str (pa_cons (pe_op op_add (pe_callB call_lenD rfl (T.free 0 _ rfl) PySem.boot_len (pa_cons (pv 1) pa_nil)) pe_int) pa_nil))) rfl)))
      (pss_one (ps_ret (pe_lcB (own := [("term", 3)]) (g := gName 3) (tt := tYes) c1 sc_told.nd (pib_list (pv 0)) (blkOk_by (N := ["terms", "names", "name", "term"]) (sc := d_told_anew.scope) (by decide +kernel)) (fun _ _ _ _ _ => pg_name (i := 3) sc_told.nd rfl (Or.inl rfl)) (fun _ _ _ _ _ => pts_nil)
        (fun s2 H2 C cl fp => pe_clB cR c1 hr (by omega) rfl (pa_cons (pv 3) (pa_cons (pv 1) pa_nil))))))), ?_⟩
    intro d hd
    refine x_clB (sp := spUnknowns) (ra_cons (rd_var rfl) ra_nil) ⟨a, ts, ws, rfl, same_new hd _ _ ha, hts.ex (tupex_new hd), hsz, fun q H1 hS hq hq1 => ?_⟩
    have hd1 : H1 d = some (.dK []) := hS _ _ upd_same
    have dq : d ≠ q := fun z => by
      rw [z, hq1] at hd1
      cases hd1
    have hS0 : Same H H1 := (same_new hd).trans hS
    have nd := nodup_firsts (l := varsT ts)
    have hfl : (firsts (varsT ts)).length ≤ 100000 := by
      have a := len_firstsF (l := varsT ts) (acc := [])
      have b := len_varsT ts
      unfold firsts
      have c : ([] : List Str).length = 0 := rfl
      omega
    generalize hl : firsts (varsT ts) = l at hq1 nd hfl
    refine ⟨q, rfl, ⟨_, SqL.of hq1⟩, ?_⟩
    refine for_list (xs := l.map V.str) (fun i σ H' => ∃ o, σ = [some (.ref a), some (.ref d), o, none] ∧ Same H H' ∧ H' q = some (.lst (l.map V.str)) ∧ H' d = some (.dK (kvN (fun x => nmU (idx x l)) (l.take i)))) ⟨none, rfl, hS0, hq1, hd1⟩ (fun i σ H' _ p => ?_) (fun i x σ H' hx p => ?_) (fun σ H' p => ?_)
    · obtain ⟨o, _, _, p, _⟩ := p
      exact SqL.of p
    · obtain ⟨o, rfl, hS', hq', hd'⟩ := p
      rw [List.getElem?_map] at hx
      cases hy : l[i]? with
      | none => rw [hy] at hx; cases hx
      | some y =>
        rw [hy] at hx
        cases hx
        have hil := (List.getElem?_eq_some_iff.mp hy).1
        have hkl : (kvN (fun x => nmU (idx x l)) (l.take i)).length = i := by rw [kvN_len, List.length_take]; omega
        have hlen := nmU_len (i := i) (by omega)
        refine s_dput (v := .str (nmU i)) (rd_op rd_c (fun Q q => ?_) fun Q q => ⟨_, _, rfl, rfl, ?_, q⟩) (rd_var rfl) (rd_var rfl) hd' (by rw [hkl]; exact szl (by omega)) ?_
        · refine rd_I0 (g := fun i j => .int (i + j)) (rd_lenD (rd_var rfl) hd') rd_c _ ⟨_, rfl, ?_, ?_⟩
          · rw [hkl]
            exact log2_small (by omega) (by omega)
          · rw [hkl]
            exact q
        · exact sz (by have e : (Str.ofString "U").length = 1 := rfl
                       show (Str.ofString "U").length + (istr ((i : Int) + 1)).length ≤ _
                       omega)
        · refine ⟨some (.str y), rfl, same_mut hS' hd, ?_, ?_⟩
          · rw [upd_ne dq.symm]
            exact hq'
          · rw [upd_same, take_snoc hy, ← kvN_put (not_take nd hy)]
            show some (HO.dK (putK _ _ (.str (nmU i)))) = some (.dK (putK _ _ (.str (nmU (idx y l)))))
            rw [idx_at nd hy]
    · obtain ⟨o, rfl, hS', hq', hd'⟩ := p
      rw [List.length_map, List.take_length] at hd'
      have hwl := hts.length
      have hzl := len_sizes ts
      refine ⟨.ref a, rfl, a, rfl, ⟨_, SqL.of (hS' _ _ ha)⟩, fun D hD => ?_⟩
      refine lc_list (xs := ws) (fun i H2 => Same H' H2 ∧ ∃ acc, H2 D = some (.lst acc) ∧ RepL H2 ((ts.take i).map (toldBy l)) acc) ⟨same_new hD, [], upd_same, RepL.nil⟩ (fun i H2 _ p => SqL.of (p.1 _ _ (hS' _ _ ha))) (fun i x H2 hx p => ?_) (fun H2 p => ?_)
      · obtain ⟨hS2, acc, hacc, hL⟩ := p
        obtain ⟨t, hti, hrt⟩ := hts.got hx
        have hm : t ∈ ts := List.mem_of_getElem? hti
        refine ⟨rfl, ?_⟩
        refine x_clB (sp := spRenamed n) (ra_cons (rd_var rfl) (ra_cons (rd_var rfl) ra_nil)) ⟨t, x, d, _, fun x => nmU (idx x l), rfl, hrt.ex ((TupEx.of hS').trans (.of hS2)), hdp t hm, ?_, hS2 _ _ hd', fun y hy => kvN_val (g := fun x => nmU (idx x l)) ?_, fun v' H3 e r => ?_⟩
        · have := Tm.mem_sum (List.mem_map.mpr ⟨t, hm, rfl⟩ : t.size ∈ ts.map Tm.size)
          unfold sizes at hsz
          omega
        · rw [← hl]
          exact mem_firsts.mpr (mem_varsT hm hy)
        · have hal := hL.length
          rw [List.length_map, List.length_take] at hal
          have ex : TupEx H3 (upd H3 D (.lst (acc ++ [v']))) := tupex_ls (e _ _ hacc)
          refine ⟨acc, e _ _ hacc, szl (by omega), same_mut (hS2.trans e) hD, _, upd_same, ?_⟩
          rw [take_snoc hti, List.map_append]
          exact (hL.ex ((TupEx.of e).trans ex)).snoc (r.ex ex)
      · obtain ⟨hS2, acc, hacc, hL⟩ := p
        rw [hwl, List.take_length] at hL
        refine k D acc H2 (hS'.trans hS2) (hS'.free hD) hacc ?_
        unfold tolds
        rw [hl]
        exact hL
theorem ok_marked (T : T35 K mg) (n : Nat) : ClB P w K mg base (n + 3) "marked" ["term", "n"] (spMarked n) := by
  have cU := ok_unknowns (P := P) (w := w) (base := base) T
  have cR := ok_renamed (P := P) (w := w) (base := base) T n
  refine clB_of (d := d_marked) T 7 rfl rfl rfl rfl sc_marked (fun vs H Q E h => ?_) (fun _ _ _ _ _ _ us hl => match us, hl with | [_, _], _ => rfl) (fun cdv A outer s H vs Q E b pn c1 hr h => ?_)
  · obtain ⟨t, v, k, rfl, _⟩ := h
    rfl
  · obtain ⟨t, v, m, rfl, ht, hdp, hsz, hm, hx, k⟩ := h
    have hu : (cxB P w K mg base ["term", "n", "names", "name"] d_marked.qual d_marked.scope (He.ga K "marked") cdv A outer s H E b pn).A.units + 1 < cLine := by
      have := hr.un
      omega
    refine ⟨_, pss_cons (ps_set (i := 2) sc_marked.nd rfl (Or.inl rfl) pe_dnewK)
      (pss_cons (ps_forB PassesOwn.never c1 (pib_list (pe_clB cU c1 hr (by omega) rfl (pa_cons (pe_lst (pa_cons (pv 0) pa_nil)) pa_nil))) (pg_name (i := 3) sc_marked.nd rfl (Or.inl rfl))
        (pss_one (ps_dput hu (pv 2) (pv 3) (pe_op op_add_str (pe_op op_add_str (pv 3) pe_str) (pe_callTy call_str_int rfl (T.free 4 _ rfl) PyProof.Rows.boot_str (pa_cons (pv 1) pa_nil))) rfl)))
      (pss_one (ps_ret (pe_clB cR c1 hr (by omega) rfl (pa_cons (pv 0) (pa_cons (pv 2) pa_nil)))))), ?_⟩
    intro d hd
    refine ⟨v, rfl, sz (by simp), fun b hb => ?_⟩
    refine ⟨b, [t], [v], rfl, upd_same, .cons (ht.ex ((tupex_new hd).trans (tupex_new hb))) .nil, ?_, fun q H1 hS hq hq1 => ?_⟩
    · rw [sizes_cons, sizes_nil]; omega
    have hd0 : upd (upd H d (.dK [])) b (.lst [v]) d = some (.dK []) := by
      rw [upd_ne fun z => by rw [← z, upd_same] at hb; cases hb]
      exact upd_same
    have hd1 : H1 d = some (.dK []) := hS _ _ hd0
    have dq : d ≠ q := fun z => by
      rw [z, hq1] at hd1
      cases hd1
    have hS0 : Same H H1 := ((same_new hd).trans (same_new hb)).trans hS
    rw [varsT_cons, varsT_nil, List.append_nil] at hq1
    have nd := nodup_firsts (l := t.vars)
    have hfl : (firsts t.vars).length ≤ 100000 := by
      have a := len_firstsF (l := t.vars) (acc := [])
      have b := len_vars t
      unfold firsts
      have c : ([] : List Str).length = 0 := rfl
      omega
    have hmem : ∀ y, y ∈ firsts t.vars ↔ y ∈ t.vars := fun y => mem_firsts
    generalize hl : firsts t.vars = l at hq1 nd hfl hmem
    refine ⟨q, rfl, ⟨_, SqL.of hq1⟩, ?_⟩
    refine for_list (xs := l.map V.str) (fun i σ H' => ∃ o, σ = [some v, some (.int m), some (.ref d), o] ∧ Same H H' ∧ H' q = some (.lst (l.map V.str)) ∧ H' d = some (.dK (kvN (fun x => x ++ Str.ofString "." ++ istr m) (l.take i)))) ⟨none, rfl, hS0, hq1, hd1⟩ (fun i σ H' _ p => ?_) (fun i x σ H' hx p => ?_) (fun σ H' p => ?_)
    · obtain ⟨o, _, _, p, _⟩ := p
      exact SqL.of p
    · obtain ⟨o, rfl, hS', hq', hd'⟩ := p
      rw [List.getElem?_map] at hx
      cases hy : l[i]? with
      | none => rw [hy] at hx; cases hx
      | some y =>
        rw [hy] at hx
        cases hx
        have hil := (List.getElem?_eq_some_iff.mp hy).1
        have hkl : (kvN (fun x => x ++ Str.ofString "." ++ istr m) (l.take i)).length = i := by rw [kvN_len, List.length_take]; omega
        have hyl := hx y ((hmem y).mp (List.mem_of_getElem? hy))
        have hml : (istr m).length ≤ 1921 := PyProof.Rows.int_text_len_1921 hm
        have e1 : (Str.ofString ".").length = 1 := rfl
        refine s_dput (v := .str (y ++ Str.ofString "." ++ istr m)) (rd_op (rd_op (rd_var rfl) rd_c fun Q q => ⟨_, _, rfl, rfl, sz (by omega), q⟩) (fun Q q => ⟨_, rfl, _, rfl, hm, q⟩) fun Q q => ⟨_, _, rfl, rfl, sz ?_, q⟩) (rd_var rfl) (rd_var rfl) hd' (by rw [hkl]; exact szl (by omega)) ?_
        · show (y ++ Str.ofString ".").length + (istr m).length ≤ _
          rw [strLen_append]
          omega
        · refine ⟨some (.str y), rfl, same_mut hS' hd, ?_, ?_⟩
          · rw [upd_ne dq.symm]
            exact hq'
          · rw [upd_same, take_snoc hy, ← kvN_put (not_take nd hy)]
    · obtain ⟨o, rfl, hS', hq', hd'⟩ := p
      rw [List.length_map, List.take_length] at hd'
      exact x_clB (sp := spRenamed n) (ra_cons (rd_var rfl) (ra_cons (rd_var rfl) ra_nil)) ⟨t, v, d, _, fun x => x ++ Str.ofString "." ++ istr m, rfl, ht.ex (.of hS'), hdp, hsz, hd', fun y hy => kvN_val (g := fun x => x ++ Str.ofString "." ++ istr m) ((hmem y).mpr hy), fun v' H3 e r => k v' H3 (hS'.trans e) r⟩
end
end G35

/-! GW5 -/
set_option Elab.async false
set_option linter.all false
set_option maxRecDepth 100000
set_option maxHeartbeats 4000000
namespace G35
open PySem PySem.Spec PyProof.Rows L2
/-! ### parts_up_to, stands_in -/
def upTo (n m : Nat) : Nat := if n ≤ m then n else m + 1
def spParts : Sp := fun vs H Q _ => ∃ (t : PT) (P : Puts) (σ : Str → PT) (rk : Str → Nat) (v : V) (d : Addr) (m : Nat), vs = [v, .ref d, .int (m : Int)] ∧ m ≤ 1000 ∧ RepT H t v ∧ PutsAt H d P ∧ Good P σ rk ∧ Ar (t.sub σ) ∧
  ∀ H', Same H H' → Q (.int ((upTo (t.sub σ).size m : Nat) : Int)) H'
def fsz (σ : Str → PT) (R : List PT) : Nat := sizes (R.map (Tm.sub σ))
theorem fsz_cons (σ : Str → PT) (t : PT) (R : List PT) : fsz σ (t :: R) = (t.sub σ).size + fsz σ R := by
  unfold fsz
  rw [List.map_cons, sizes_cons]
theorem fsz_app (σ : Str → PT) (R S : List PT) : fsz σ (R ++ S) = fsz σ R + fsz σ S := by
  unfold fsz
  rw [List.map_append, sizes_app]
theorem fsz_rev (σ : Str → PT) : ∀ R : List PT, fsz σ R.reverse = fsz σ R
  | [] => rfl
  | t :: R => by
    rw [List.reverse_cons, fsz_app, fsz_rev σ R, fsz_cons, fsz_cons]
    show _ + (_ + 0) = _
    omega
theorem walked_sub {P : Puts} {σ : Str → PT} {rk : Str → Nat} (G : Good P σ rk) {t r : PT} (h : Walked P t r) : r.sub σ = t.sub σ := by
  obtain ⟨n, h⟩ := h
  exact Walked.read G.sol h
theorem walked_free {P : Puts} {t : PT} {x : Str} (h : Walked P t (.any x)) : look P x = none := by
  obtain ⟨n, h⟩ := h
  exact Walked.ends h x rfl
section
variable {P : Program} {w : World} {K : PySem.W.Frag} {mg : Str → Option Value} {base : Heap}
theorem sc_parts : FnScope ["term", "puts", "most", "many", "left"] ["term", "puts", "most"] d_parts_up_to.scope := ⟨rfl, rfl, rfl, by decide +kernel, rfl, by decide +kernel, by decide +kernel⟩
theorem sc_stands : FnScope ["name", "term", "puts", "left"] ["name", "term", "puts"] d_stands_in.scope := ⟨rfl, rfl, rfl, by decide +kernel, rfl, by decide +kernel, by decide +kernel⟩
theorem ok_parts (T : T35 K mg) : Cl P w K mg base CX0 2 "parts_up_to" ["term", "puts", "most"] spParts := by
  have cW := ok_walked (P := P) (w := w) (base := base) T
  refine cl_of (d := d_parts_up_to) T 9 rfl rfl rfl rfl sc_parts (fun vs H Q E h => ?_) (fun _ _ _ _ _ _ us hl => match us, hl with | [_, _, _], _ => rfl) (fun cdv A outer s H vs Q E hr h => ?_)
  · obtain ⟨t, P, σ, rk, v, d, m, rfl, _⟩ := h
    rfl
  · obtain ⟨t, P', σ, rk, v, d, m, rfl, hm, ht, hP, G, hA, k⟩ := h
    refine ⟨_, pss_cons (ps_set (i := 3) sc_parts.nd rfl (Or.inl rfl) pe_int) (pss_cons (ps_set (i := 4) sc_parts.nd rfl (Or.inl rfl) (pe_lst (pa_cons (pv 0) pa_nil)))
      (pss_cons (ps_while PassesOwn.never (pt_cmpR op_gt (pe_callB call_len_seq rfl (T.free 0 _ rfl) PySem.boot_len (pa_cons (pv 4) pa_nil)) pe_int (nomark _))
        (pss_cons (ps_set (i := 3) sc_parts.nd rfl (Or.inl rfl) (pe_op op_add (pv 3) pe_int))
        (pss_cons (ps_if (pt_cmpR op_gt (pv 3) (pv 2) (nomark _)) (pss_one (ps_ret (pv 3))) pss_nil)
        (pss_cons (ps_set (i := 0) sc_parts.nd rfl (Or.inl rfl) (pe_cl cW hr (Nat.le_refl _) rfl (pa_cons (pe_bm0 PySem.F.plainAttrs_list PySem.F.slot_list_pop PySem.F.type_list_pop mt_pop (pv 4)) (pa_cons (pv 1) pa_nil))))
        (pss_one (ps_if (pt_cmpR op_eq (pe_ix ix_tup (pv 0) pe_int (fun _ _ => rfl)) pe_str (nomark _)) (pss_one (ps_expr (pe_bm PySem.F.plainAttrs_list PySem.F.slot_list_extend PySem.F.type_list_extend mt_extT (pv 4)
          (pa_cons (pe_ix ix_tup (pv 0) pe_int (fun _ _ => rfl)) pa_nil)))) pss_nil))))))
      (pss_one (ps_ret (pv 3))))), ?_⟩
    refine ⟨v, rfl, sz (by simp), fun q hq => ?_⟩
    have ex0 : TupEx H (upd H q (.lst [v])) := tupex_new hq
    refine s_while (fun n σ' H' => ∃ (R : List PT) (us : List V) (many : Nat) (x : V), σ' = [some x, some (.ref d), some (.int (m : Int)), some (.int (many : Int)), some (.ref q)] ∧ n = fsz σ R ∧ Same H H' ∧ H' q = some (.lst us) ∧ RepL H' R us ∧ many + fsz σ R = (t.sub σ).size ∧ many ≤ m ∧ R.length ≤ many + 1 ∧ ∀ r ∈ R, Ar (r.sub σ)) (t.sub σ).size
      ⟨[t], [v], 0, v, rfl, ?_, same_new hq, upd_same, .cons (ht.ex ex0) .nil, ?_, Nat.zero_le _, Nat.le_refl _, ?_⟩ ?_
    · rw [fsz_cons]; rfl
    · rw [fsz_cons]
      show 0 + (_ + 0) = _
      omega
    · intro r hr
      rw [List.mem_singleton.mp hr]
      exact hA
    · rintro n σ' H' ⟨R, us, many, x, rfl, rfl, hS, hq', hR, hsum, hmm, hRl, hAr⟩
      have hlen := hR.length
      refine ⟨decide (0 < us.length), rdT_test (rd_gt0 (rd_lenL (rd_var rfl) hq')), fun hpos => ?_, fun hz => ?_⟩
      · rcases List.eq_nil_or_concat R with e | ⟨R, u, e⟩
        · rw [hlen, e] at hpos
          cases hpos
        · rw [List.concat_eq_append] at e
          subst e
          obtain ⟨us, y, rfl, hR, hu⟩ := hR.last
          rw [fsz_app, fsz_cons] at hsum
          have fn0 : fsz σ [] = 0 := rfl
          have up := (u.sub σ).size_pos
          rw [List.length_append] at hRl
          have l1 : [u].length = 1 := rfl
          refine s_set (rd_I0 (g := fun i j => .int (i + j)) (rd_var rfl) rd_c) ?_
          have e1 : (many : Int) + 1 = ((many + 1 : Nat) : Int) := by omega
          rw [e1]
          refine s_if (rdT_test (rd_I0 (g := fun i j => .bl (decide (j < i))) (rd_var rfl) (rd_var rfl))) (fun hgt => ?_) fun hgt => ?_
          · have hgt := of_decide_eq_true hgt
            refine s_ret (rd_var rfl) ?_
            have e2 : upTo (t.sub σ).size m = many + 1 := by
              unfold upTo
              rw [if_neg (by omega)]
              omega
            have := k H' hS
            rw [e2] at this
            exact this
          · have hgt := of_decide_eq_false hgt
            -- term = walked(left.pop(), puts)
            refine ⟨.ref q, rfl, .inl ⟨rfl, _, SqL.of hq'⟩, q, _, y, rfl, rfl, hq', rd_popped.1, ?_⟩
            rw [rd_popped.2]
            have hqn : H q = none := hq
            have ex2 : TupEx H' (upd H' q (.lst us)) := tupex_ls hq'
            have hS2 : Same H (upd H' q (.lst us)) := same_mut hS hqn
            have hR2 := hR.ex ex2
            have hu2 := hu.ex ex2
            have hq2 : upd H' q (.lst us) q = some (.lst us) := upd_same
            generalize upd H' q (.lst us) = H2 at ex2 hS2 hR2 hu2 hq2
            refine ⟨.ref d, rfl, ?_⟩
            obtain ⟨r, hw⟩ := G.walks u
            refine ⟨u, r, P', y, d, rfl, hu2, hP.same hS2, hw, fun y' hy' => ?_⟩
            have hrs := walked_sub G hw
            have hAu : Ar (r.sub σ) := by
              rw [hrs]
              exact hAr u (List.mem_append_right _ (List.mem_singleton.mpr rfl))
            have keep : ∀ (z : Nat) (R' : List PT) (us' : List V) (H3 : Hp), r.sub σ = u.sub σ → True := fun _ _ _ _ _ => trivial
            cases r with
            | num i =>
              refine s_if (rdT_test (rd_eqS (rd_tag (rd_var rfl) hy') rd_c)) (fun z => ?_) fun _ => ?_
              · rw [dea_num] at z; cases z
              · refine ⟨_, ?_, R, us, many + 1, y', rfl, rfl, hS2, hq2, hR2, ?_, by omega, by omega, fun r hr => hAr r (List.mem_append_left _ hr)⟩
                · rw [fsz_app, fsz_cons]; omega
                · rw [← hrs, Tm.sub_num, Tm.size_num] at hsum
                  omega
            | any x =>
              refine s_if (rdT_test (rd_eqS (rd_tag (rd_var rfl) hy') rd_c)) (fun z => ?_) fun _ => ?_
              · rw [dea_any] at z; cases z
              · refine ⟨_, ?_, R, us, many + 1, y', rfl, rfl, hS2, hq2, hR2, ?_, by omega, by omega, fun r hr => hAr r (List.mem_append_left _ hr)⟩
                · rw [fsz_app, fsz_cons]; omega
                · rw [← hrs, Tm.sub_any, G.free x (walked_free hw), Tm.size_any] at hsum
                  omega
            | app f ks =>
              refine s_if (rdT_test (rd_eqS (rd_tag (rd_var rfl) hy') rd_c)) (fun _ => ?_) fun z => ?_
              · obtain ⟨ta, tk, kv, rfl, ht3, hk3, hks⟩ := hy'.kids
                have hkl := hks.length
                have two : ks.length ≤ 2 := by
                  rw [Tm.sub_app] at hAu
                  have := hAu.two
                  rw [List.length_map] at this
                  exact this
                have hsz : (u.sub σ).size = 1 + fsz σ ks := by
                  rw [← hrs, Tm.sub_app, sizes_app1]
                  unfold fsz
                  omega
                have hul := hR2.length
                refine ⟨.ref q, rfl, .inl ⟨rfl, _, SqL.of hq2⟩, ?_⟩
                refine rd_ixT (n := 2) (rd_var rfl) rd_c ht3 rfl _ ?_
                refine ⟨q, tk, us, kv, rfl, rfl, hq2, hk3, sz (by omega), ?_⟩
                have ex4 : TupEx H2 (upd H2 q (.lst (us ++ kv))) := tupex_ls hq2
                refine ⟨_, ?_, R ++ ks, us ++ kv, many + 1, .ref ta, rfl, rfl, same_mut hS2 hqn, upd_same, (hR2.ex ex4).append (hks.ex ex4), ?_, by omega, ?_, fun r hr => ?_⟩
                · rw [fsz_app, fsz_app, fsz_cons]; omega
                · rw [fsz_app]; omega
                · rw [List.length_append]; omega
                · rcases List.mem_append.mp hr with hr | hr
                  · exact hAr r (List.mem_append_left _ hr)
                  · rw [Tm.sub_app] at hAu
                    exact hAu.kid (List.mem_map.mpr ⟨r, hr, rfl⟩)
              · rw [dea_app] at z; cases z
      · have e : R = [] := by
          have := of_decide_eq_false hz
          rw [hlen] at this
          exact List.length_eq_zero_iff.mp (by omega)
        subst e
        have fn0 : fsz σ [] = 0 := rfl
        have e2 : upTo (t.sub σ).size m = many := by
          unfold upTo
          rw [if_pos (by omega)]
          omega
        have := k H' hS
        rw [e2] at this
        exact s_ret (rd_var rfl) this
end
end G35

/-! GW6 -/
set_option Elab.async false
set_option linter.all false
set_option maxRecDepth 100000
set_option maxHeartbeats 4000000
namespace G35
open PySem PySem.Spec PyProof.Rows L2
/-! ### stands_in, put_in, written_out -/
/-- the top's numbers and tables -/
structure T36 (K : PySem.W.Frag) (mg : Str → Option Value) : Prop where
  t : T35 K mg
  m1 : ∃ k, mg "MOST_PARTS_puts" = some (.int 40 k)
  m2 : ∃ k, mg "MOST_PARTS_search" = some (.int 40 k)
  far : ∃ k, mg "FAR" = some (.int (10 ^ 30) k)
  deeds : ∃ a, mg "DEEDS" = some (.ref a) ∧ ∀ H, SqT K H a [.str "=", .str ":=", .str "<", .str "<="]
  sums : ∃ a, mg "SUMS" = some (.ref a) ∧ ∀ H, SqT K H a [.str "+", .str "-", .str "*", .str "/", .str "/:"]
def spStands : Sp := fun vs H Q _ => ∃ (x : Str) (t : PT) (P : Puts) (σ : Str → PT) (rk : Str → Nat) (v : V) (d : Addr), vs = [.str x, v, .ref d] ∧ RepT H t v ∧ PutsAt H d P ∧ Good P σ rk ∧ Ar (t.sub σ) ∧ (t.sub σ).depth ≤ 10000 ∧ look P x = none ∧
  ∀ (b : Bool) H', (b = true ↔ x ∈ (t.sub σ).vars) → Same H H' → Q (.bl b) H'
def spPutIn (n : Nat) : Sp := fun vs H Q _ => ∃ (t : PT) (P : Puts) (σ : Str → PT) (rk : Str → Nat) (v : V) (d : Addr), vs = [v, .ref d] ∧ RepT H t v ∧ PutsAt H d P ∧ Good P σ rk ∧ (t.sub σ).depth ≤ n ∧ (t.sub σ).size ≤ 100000 ∧
  ∀ v' H', Same H H' → RepT H' (t.sub σ) v' → Q v' H'
def spWritten : Sp := fun vs H Q _ => ∃ (t : PT) (P : Puts) (σ : Str → PT) (rk : Str → Nat) (v : V) (d : Addr), vs = [v, .ref d] ∧ RepT H t v ∧ PutsAt H d P ∧ Good P σ rk ∧ Ar (t.sub σ) ∧ (t.sub σ).size ≤ 40 ∧
  ∀ v' H', Same H H' → RepT H' (t.sub σ) v' → Q v' H'
def inVars (σ : Str → PT) (x : Str) (R : List PT) : Prop := ∃ r ∈ R, x ∈ (r.sub σ).vars
theorem PutsAt.ex {H H' : Hp} (h : PutsAt H d P) (e : Same H H') : PutsAt H' d P := h.same e
section
variable {P : Program} {w : World} {K : PySem.W.Frag} {mg : Str → Option Value} {base : Heap}
theorem ok_stands (T : T35 K mg) : Cl P w K mg base CX0 2 "stands_in" ["name", "term", "puts"] spStands := by
  have cW := ok_walked (P := P) (w := w) (base := base) T
  refine cl_of (d := d_stands_in) T 13 rfl rfl rfl rfl sc_stands (fun vs H Q E h => ?_) (fun _ _ _ _ _ _ us hl => match us, hl with | [_, _, _], _ => rfl) (fun cdv A outer s H vs Q E hr h => ?_)
  · obtain ⟨x, t, P, σ, rk, v, d, rfl, _⟩ := h
    rfl
  · obtain ⟨x, t, P', σ, rk, v, d, rfl, ht, hP, G, hA, hD, hx, k⟩ := h
    refine ⟨_, pss_cons (ps_set (i := 3) sc_stands.nd rfl (Or.inl rfl) (pe_lst (pa_cons (pv 1) pa_nil)))
      (pss_cons (ps_while PassesOwn.never (pt_cmpR op_gt (pe_callB call_len_seq rfl (T.free 0 _ rfl) PySem.boot_len (pa_cons (pv 3) pa_nil)) pe_int (nomark _))
        (pss_cons (ps_set (i := 1) sc_stands.nd rfl (Or.inl rfl) (pe_cl cW hr (Nat.le_refl _) rfl (pa_cons (pe_bm0 PySem.F.plainAttrs_list PySem.F.slot_list_pop PySem.F.type_list_pop mt_pop (pv 3)) (pa_cons (pv 2) pa_nil))))
        (pss_cons (ps_if (PW.pt (pw_and (pt_cmpR op_eq (pe_ix ix_tup (pv 1) pe_int (fun _ _ => rfl)) pe_str (nomark _)) (pw_and1 (pt_cmpR op_eq (pe_ix ix_tup (pv 1) pe_int (fun _ _ => rfl)) (pv 0) (nomark _))))) (pss_one (ps_ret pe_bl)) pss_nil)
        (pss_one (ps_if (pt_cmpR op_eq (pe_ix ix_tup (pv 1) pe_int (fun _ _ => rfl)) pe_str (nomark _)) (pss_one (ps_expr (pe_bm PySem.F.plainAttrs_list PySem.F.slot_list_extend PySem.F.type_list_extend mt_extT (pv 3)
          (pa_cons (pe_ix ix_tup (pv 1) pe_int (fun _ _ => rfl)) pa_nil)))) pss_nil)))))
      (pss_one (ps_ret pe_bl))), ?_⟩
    refine ⟨v, rfl, sz (by simp), fun q hq => ?_⟩
    have ex0 : TupEx H (upd H q (.lst [v])) := tupex_new hq
    refine s_while (fun n σ' H' => ∃ (R : List PT) (us : List V) (y : V), σ' = [some (.str x), some y, some (.ref d), some (.ref q)] ∧ n = fsz σ R ∧ Same H H' ∧ H' q = some (.lst us) ∧ RepL H' R us ∧ (inVars σ x R ↔ x ∈ (t.sub σ).vars) ∧ (∀ j r, R[j]? = some r → j + (r.sub σ).depth ≤ 10000) ∧ ∀ r ∈ R, Ar (r.sub σ)) (fsz σ [t])
      ⟨[t], [v], v, rfl, rfl, same_new hq, upd_same, .cons (ht.ex ex0) .nil, ?_, fun j r hj => ?_, fun r hr => ?_⟩ ?_
    · constructor
      · rintro ⟨r, hr, z⟩
        rw [List.mem_singleton.mp hr] at z
        exact z
      · exact fun z => ⟨t, List.mem_singleton.mpr rfl, z⟩
    · cases j with
      | zero =>
        cases hj
        omega
      | succ j => cases hj
    · rw [List.mem_singleton.mp hr]
      exact hA
    · rintro n σ' H' ⟨R, us, y0, rfl, rfl, hS, hq', hR, hin, hdp, hAr⟩
      have hlen := hR.length
      refine ⟨decide (0 < us.length), rdT_test (rd_gt0 (rd_lenL (rd_var rfl) hq')), fun hpos => ?_, fun hz => ?_⟩
      · rcases List.eq_nil_or_concat R with e | ⟨R, u, e⟩
        · rw [hlen, e] at hpos
          cases hpos
        · rw [List.concat_eq_append] at e
          subst e
          obtain ⟨us, y, rfl, hR, hu⟩ := hR.last
          refine ⟨.ref q, rfl, .inl ⟨rfl, _, SqL.of hq'⟩, q, _, y, rfl, rfl, hq', rd_popped.1, ?_⟩
          rw [rd_popped.2]
          have hqn : H q = none := hq
          have ex2 : TupEx H' (upd H' q (.lst us)) := tupex_ls hq'
          have hS2 : Same H (upd H' q (.lst us)) := same_mut hS hqn
          have hR2 := hR.ex ex2
          have hu2 := hu.ex ex2
          have hq2 : upd H' q (.lst us) q = some (.lst us) := upd_same
          generalize upd H' q (.lst us) = H2 at ex2 hS2 hR2 hu2 hq2
          refine ⟨.ref d, rfl, ?_⟩
          obtain ⟨r, hw⟩ := G.walks u
          refine ⟨u, r, P', y, d, rfl, hu2, hP.same hS2, hw, fun y' hy' => ?_⟩
          have hrs := walked_sub G hw
          have hdu := hdp R.length u (by rw [List.getElem?_append_right (Nat.le_refl _), Nat.sub_self]; rfl)
          have hAu : Ar (r.sub σ) := by
            rw [hrs]
            exact hAr u (List.mem_append_right _ (List.mem_singleton.mpr rfl))
          rw [← hrs] at hdu
          have split : inVars σ x (R ++ [u]) ↔ inVars σ x R ∨ x ∈ (r.sub σ).vars := by
            constructor
            · rintro ⟨z, hz, hv⟩
              rcases List.mem_append.mp hz with hz | hz
              · exact .inl ⟨z, hz, hv⟩
              · rw [List.mem_singleton.mp hz, ← hrs] at hv
                exact .inr hv
            · rintro (⟨z, hz, hv⟩ | hv)
              · exact ⟨z, List.mem_append_left _ hz, hv⟩
              · exact ⟨u, List.mem_append_right _ (List.mem_singleton.mpr rfl), by rw [← hrs]; exact hv⟩
          rw [split] at hin
          have hdR : ∀ j r, R[j]? = some r → j + (r.sub σ).depth ≤ 10000 := fun j r hj => hdp j r (by
            rw [List.getElem?_append_left (List.getElem?_eq_some_iff.mp hj).1]
            exact hj)
          have hAR : ∀ r ∈ R, Ar (r.sub σ) := fun r hr => hAr r (List.mem_append_left _ hr)
          have szu := (u.sub σ).size_pos
          have less : fsz σ R < fsz σ (R ++ [u]) := by
            rw [fsz_app, fsz_cons]
            omega
          cases r with
          | num i =>
            refine s_if (rdT_and (b := false) (rdT_test (rd_eqS (rd_tag (rd_var rfl) hy') rd_c)) (fun z => ?_)) (fun z => ?_) fun _ => ?_
            · rw [dec_num] at z; cases z
            · rw [Bool.and_false] at z; cases z
            refine s_if (rdT_test (rd_eqS (rd_tag (rd_var rfl) hy') rd_c)) (fun z => ?_) fun _ => ?_
            · rw [dea_num] at z; cases z
            refine ⟨_, less, R, us, y', rfl, rfl, hS2, hq2, hR2, ?_, hdR, hAR⟩
            rw [← hin, Tm.sub_num, Tm.vars_num]
            simp
          | any x' =>
            have ex' : σ x' = .any x' := G.free x' (walked_free hw)
            rw [Tm.sub_any, ex', Tm.vars_any] at hin
            refine s_if (rdT_and (rdT_test (rd_eqS (rd_tag (rd_var rfl) hy') rd_c)) (fun _ => rdT_test (rd_eqS (rd_second (tm := .any x') (rd_var rfl) hy') (rd_var rfl)))) (fun z => ?_) fun z => ?_
            · rw [dec_any, Bool.true_and] at z
              have e := of_decide_eq_true z
              cases e
              exact s_ret rd_c (k true H2 ⟨fun _ => hin.mp (.inr (List.mem_singleton.mpr rfl)), fun _ => rfl⟩ hS2)
            · rw [dec_any, Bool.true_and] at z
              have ne : ¬ x = x' := fun z2 => of_decide_eq_false z (by rw [z2])
              refine s_if (rdT_test (rd_eqS (rd_tag (rd_var rfl) hy') rd_c)) (fun z => ?_) fun _ => ?_
              · rw [dea_any] at z; cases z
              refine ⟨_, less, R, us, y', rfl, rfl, hS2, hq2, hR2, ?_, hdR, hAR⟩
              rw [← hin]
              constructor
              · exact .inl
              · rintro (z | z)
                · exact z
                · exact absurd (List.mem_singleton.mp z) ne
          | app f ks =>
            refine s_if (rdT_and (b := false) (rdT_test (rd_eqS (rd_tag (rd_var rfl) hy') rd_c)) (fun z => ?_)) (fun z => ?_) fun _ => ?_
            · rw [dec_app] at z; cases z
            · rw [Bool.and_false] at z; cases z
            refine s_if (rdT_test (rd_eqS (rd_tag (rd_var rfl) hy') rd_c)) (fun _ => ?_) fun z => ?_
            · obtain ⟨ta, tk, kv, rfl, ht3, hk3, hks⟩ := hy'.kids
              have hkl := hks.length
              rw [Tm.sub_app] at hAu hin hdu
              have two : ks.length ≤ 2 := by
                have := hAu.two
                rw [List.length_map] at this
                exact this
              have hul := hR2.length
              have hszu : (u.sub σ).size = 1 + fsz σ ks := by
                rw [← hrs, Tm.sub_app, sizes_app1]
                unfold fsz
                omega
              refine ⟨.ref q, rfl, .inl ⟨rfl, _, SqL.of hq2⟩, ?_⟩
              refine rd_ixT (n := 2) (rd_var rfl) rd_c ht3 rfl _ ?_
              refine ⟨q, tk, us, kv, rfl, rfl, hq2, hk3, sz (by omega), ?_⟩
              have ex4 : TupEx H2 (upd H2 q (.lst (us ++ kv))) := tupex_ls hq2
              refine ⟨_, ?_, R ++ ks, us ++ kv, .ref ta, rfl, rfl, same_mut hS2 hqn, upd_same, (hR2.ex ex4).append (hks.ex ex4), ?_, fun j r hj => ?_, fun r hr => ?_⟩
              · rw [fsz_app, fsz_app, fsz_cons]; omega
              · rw [← hin, Tm.vars_app]
                constructor
                · rintro ⟨r, hr, hv⟩
                  rcases List.mem_append.mp hr with hr | hr
                  · exact .inl ⟨r, hr, hv⟩
                  · exact .inr (List.mem_flatMap.mpr ⟨r.sub σ, List.mem_map.mpr ⟨r, hr, rfl⟩, hv⟩)
                · rintro (⟨r, hr, hv⟩ | hv)
                  · exact ⟨r, List.mem_append_left _ hr, hv⟩
                  · obtain ⟨z, hz, hv⟩ := List.mem_flatMap.mp hv
                    obtain ⟨r, hr, e⟩ := List.mem_map.mp hz
                    exact ⟨r, List.mem_append_right _ hr, by rw [e]; exact hv⟩
              · by_cases hj2 : j < R.length
                · rw [List.getElem?_append_left hj2] at hj
                  exact hdR j r hj
                · rw [List.getElem?_append_right (by omega)] at hj
                  have hm : r ∈ ks := List.mem_of_getElem? hj
                  have hjl := (List.getElem?_eq_some_iff.mp hj).1
                  have := Tm.depth_kid (f := f) (List.mem_map.mpr ⟨r, hm, rfl⟩ : r.sub σ ∈ ks.map (Tm.sub σ))
                  omega
              · rcases List.mem_append.mp hr with hr | hr
                · exact hAR r hr
                · exact hAu.kid (List.mem_map.mpr ⟨r, hr, rfl⟩)
            · rw [dea_app] at z; cases z
      · have e : R = [] := by
          have := of_decide_eq_false hz
          rw [hlen] at this
          exact List.length_eq_zero_iff.mp (by omega)
        subst e
        have fin := k false H' ⟨fun z => Bool.noConfusion z, fun z => by
          obtain ⟨r, hr, _⟩ := hin.mpr z
          cases hr⟩ hS
        exact fin
theorem sc_putin : FnScope ["term", "puts", "kid"] ["term", "puts"] d_put_in.scope := ⟨rfl, rfl, rfl, by decide +kernel, rfl, by decide +kernel, by decide +kernel⟩
theorem sc_written : FnScope ["term", "puts"] ["term", "puts"] d_written_out.scope := ⟨rfl, rfl, rfl, by decide +kernel, rfl, by decide +kernel, by decide +kernel⟩
theorem ok_putin (T : T35 K mg) : ∀ n : Nat, Cl P w K mg base CX0 (n + 2) "put_in" ["term", "puts"] (spPutIn n)
  | 0 => by
    refine cl_of (d := d_put_in) T 10 rfl rfl rfl rfl sc_putin (fun vs H Q E h => ?_) (fun _ _ _ _ _ _ us hl => match us, hl with | [_, _], _ => rfl) (fun cdv A outer s H vs Q E hr h => ?_)
    · obtain ⟨t, P, σ, rk, v, d, rfl, _⟩ := h
      rfl
    · obtain ⟨t, P, σ, rk, v, d, rfl, ht, hP, G, hn, _⟩ := h
      have := (t.sub σ).depth_pos
      omega
  | n + 1 => by
    have ih := ok_putin T n
    have cW := ok_walked (P := P) (w := w) (base := base) T
    have cA := (ok_app (P := P) (w := w) (base := base) T).cl
    refine cl_of (d := d_put_in) T 10 rfl rfl rfl rfl sc_putin (fun vs H Q E h => ?_) (fun _ _ _ _ _ _ us hl => match us, hl with | [_, _], _ => rfl) (fun cdv A outer s H vs Q E hr h => ?_)
    · obtain ⟨t, P, σ, rk, v, d, rfl, _⟩ := h
      rfl
    · obtain ⟨t, P', σ, rk, v, d, rfl, ht, hP, G, hn, hsz, k⟩ := h
      refine ⟨_, pss_cons (ps_set (i := 0) sc_putin.nd rfl (Or.inl rfl) (pe_cl cW hr (by omega) rfl (pa_cons (pv 0) (pa_cons (pv 1) pa_nil))))
        (pss_cons (ps_if (pt_cmpR op_ne (pe_ix ix_tup (pv 0) pe_int (fun _ _ => rfl)) pe_str (nomark _)) (pss_one (ps_ret (pv 0))) pss_nil)
        (pss_one (ps_ret (pe_cl cA hr (by omega) rfl (pa_cons (pe_ix ix_tup (pv 0) pe_int (fun _ _ => rfl)) (pa_cons
          (pe_lc (own := [("kid", 2)]) (g := gName 2) (tt := tYes) rfl sc_putin.nd (pi_tup (pe_ix ix_tup (pv 0) pe_int (fun _ _ => rfl))) (blkOk_by (N := ["term", "puts", "kid"]) (sc := d_put_in.scope) (by decide +kernel)) (fun _ _ _ _ _ => pg_name (i := 2) sc_putin.nd rfl (Or.inl rfl)) (fun _ _ _ _ _ => pts_nil)
            (fun s2 H2 C cl fp => pe_cl ih hr (by omega) rfl (pa_cons (pv 2) (pa_cons (pv 1) pa_nil)))) pa_nil)))))), ?_⟩
      obtain ⟨r, hw⟩ := G.walks t
      refine x_cl (sp := spWalked) (ra_cons (rd_var rfl) (ra_cons (rd_var rfl) ra_nil)) ⟨t, r, P', v, d, rfl, ht, hP, hw, fun v2 hr2 => ?_⟩
      have hrs := walked_sub G hw
      cases r with
      | num i =>
        refine s_if (rdT_test (rd_neS (rd_tag (rd_var rfl) hr2) rd_c)) (fun _ => ?_) fun z => ?_
        · exact s_ret (rd_var rfl) (k _ _ (Same.refl _) (by rw [← hrs, Tm.sub_num]; exact hr2))
        · rw [dea_num] at z; cases z
      | any x =>
        refine s_if (rdT_test (rd_neS (rd_tag (rd_var rfl) hr2) rd_c)) (fun _ => ?_) fun z => ?_
        · exact s_ret (rd_var rfl) (k _ _ (Same.refl _) (by rw [← hrs, Tm.sub_any, G.free x (walked_free hw)]; exact hr2))
        · rw [dea_any] at z; cases z
      | app f ks =>
        refine s_if (rdT_test (rd_neS (rd_tag (rd_var rfl) hr2) rd_c)) (fun z => ?_) fun _ => ?_
        · rw [dea_app] at z; cases z
        obtain ⟨ta, tk, kv, rfl, ht3, hk3, hks⟩ := hr2.kids
        have hkl := hks.length
        rw [← hrs, Tm.sub_app] at hsz hn
        rw [sizes_app1] at hsz
        have hkz := len_sizes (ks.map (Tm.sub σ))
        rw [List.length_map] at hkz
        refine rd_second (rd_var rfl) hr2 _ ?_
        refine rd_ixT (n := 2) (rd_var rfl) rd_c ht3 rfl _ ?_
        refine ⟨tk, rfl, ⟨_, SqT.of hk3⟩, fun D hD => ?_⟩
        refine lc_tup (xs := kv) (fun i H' => Same H H' ∧ ∃ acc, H' D = some (.lst acc) ∧ RepL H' ((ks.take i).map (Tm.sub σ)) acc) ⟨same_new hD, [], upd_same, RepL.nil⟩ (fun i H' _ p => SqT.of (p.1 _ _ hk3)) (fun i x H' hx p => ?_) (fun H' p => ?_)
        · obtain ⟨hS, acc, hacc, hL⟩ := p
          obtain ⟨t', hti, hrt⟩ := hks.got hx
          have hm : t'.sub σ ∈ ks.map (Tm.sub σ) := List.mem_map.mpr ⟨t', List.mem_of_getElem? hti, rfl⟩
          have k1 := Tm.size_kid (f := f) hm
          have k2 := Tm.depth_kid (f := f) hm
          rw [sizes_app1] at k1
          refine ⟨rfl, ?_⟩
          refine x_cl (sp := spPutIn n) (ra_cons (rd_var rfl) (ra_cons (rd_var rfl) ra_nil)) ⟨t', P', σ, rk, x, d, rfl, hrt.ex (.of hS), hP.same hS, G, by omega, by omega, fun v' H2 e r => ?_⟩
          have hal := hL.length
          rw [List.length_map, List.length_take] at hal
          have ex : TupEx H2 (upd H2 D (.lst (acc ++ [v']))) := tupex_ls (e _ _ hacc)
          refine ⟨acc, e _ _ hacc, szl (by omega), same_mut (hS.trans e) hD, _, upd_same, ?_⟩
          rw [take_snoc hti, List.map_append]
          exact (hL.ex ((TupEx.of e).trans ex)).snoc (r.ex ex)
        · obtain ⟨hS, acc, hacc, hL⟩ := p
          rw [hkl, List.take_length] at hL
          refine ⟨f, _, D, acc, rfl, .inl hacc, hL, fun v' H2 e r => k v' H2 (hS.trans e) ?_⟩
          rw [← hrs, Tm.sub_app]
          exact r
theorem ok_written (T : T36 K mg) : Cl P w K mg base CX0 50 "written_out" ["term", "puts"] spWritten := by
  have cP := ok_parts (P := P) (w := w) (base := base) T.t
  have cI := ok_putin (P := P) (w := w) (base := base) T.t 40
  obtain ⟨tk, hm1⟩ := T.m1
  refine cl_of (d := d_written_out) T.t 11 rfl rfl rfl rfl sc_written (fun vs H Q E h => ?_) (fun _ _ _ _ _ _ us hl => match us, hl with | [_, _], _ => rfl) (fun cdv A outer s H vs Q E hr h => ?_)
  · obtain ⟨t, P, σ, rk, v, d, rfl, _⟩ := h
    rfl
  · obtain ⟨t, P', σ, rk, v, d, rfl, ht, hP, G, hA, hsz, k⟩ := h
    refine ⟨_, pss_cons (ps_if (pt_cmpR op_gt (pe_cl cP hr (by omega) rfl (pa_cons (pv 0) (pa_cons (pv 1) (pa_cons (pe_glob (v := .int 40) rfl hm1 ⟨_, rfl⟩) pa_nil)))) (pe_glob (v := .int 40) rfl hm1 ⟨_, rfl⟩) (nomark _)) pss_never pss_nil)
      (pss_one (ps_ret (pe_cl cI hr (by omega) rfl (pa_cons (pv 0) (pa_cons (pv 1) pa_nil))))), ?_⟩
    refine x_cl (sp := spParts) (ra_cons (rd_var rfl) (ra_cons (rd_var rfl) (ra_cons rd_c ra_nil))) ⟨t, P', σ, rk, v, d, 40, rfl, by omega, ht, hP, G, hA, fun H1 hS => ?_⟩
    have e : upTo (t.sub σ).size 40 = (t.sub σ).size := by
      unfold upTo
      rw [if_pos hsz]
    rw [e]
    refine ⟨_, 40, rfl, rfl, _, rfl, ?_⟩
    have e2 : decide ((40 : Int) < ((t.sub σ).size : Int)) = false := decide_eq_false (by omega)
    rw [e2]
    refine iteF ?_
    have hd := (t.sub σ).depth_le_size
    exact x_cl (sp := spPutIn 40) (ra_cons (rd_var rfl) (ra_cons (rd_var rfl) ra_nil)) ⟨t, P', σ, rk, v, d, rfl, ht.ex (.of hS), hP.same hS, G, by omega, by omega, fun v' H' e r => k v' H' (hS.trans e) r⟩
end
end G35

/-! GHot6 -/
set_option Elab.async false
set_option linter.all false
set_option maxRecDepth 100000
set_option maxHeartbeats 4000000
/-! Tuples compared that differ early; a dict's copy. -/
namespace G35
open PySem PySem.Spec PyProof.Rows L2
/-- a text or a number -/
def flatSI : V → Bool
  | .int _ => true
  | .str _ => true
  | _ => false
theorem eqAt_flat {A : Around} {s : Shared} {x y : V} {v u : Value} (rx : RelV x v) (ry : RelV y u) (hx : flatSI x = true) (hy : flatSI y = true) : SeqAt.EqAt A s v u (decide (x = y)) := by
  cases x with
  | int i =>
    obtain ⟨t, rfl⟩ := rx
    cases y with
    | int j =>
      obtain ⟨t', rfl⟩ := ry
      rw [dec_int]
      exact SeqAt.EqAt.int_int i t j t'
    | str j =>
      obtain ⟨t', rfl⟩ := ry
      rw [decide_eq_false (fun z => nomatch z)]
      exact SeqAt.EqAt.int_str i t j t'
    | _ => cases hy
  | str i =>
    obtain ⟨t, rfl⟩ := rx
    cases y with
    | int j =>
      obtain ⟨t', rfl⟩ := ry
      rw [decide_eq_false (fun z => nomatch z)]
      exact SeqAt.EqAt.str_int i t j t'
    | str j =>
      obtain ⟨t', rfl⟩ := ry
      rw [dec_str]
      exact SeqAt.EqAt.str_str i t j t'
    | _ => cases hy
  | _ => cases hx
/-- alike as far as both go, flat there -/
def FlatTo (xs ys : List V) : Prop := ∀ (j : Nat) (u v : V), xs[j]? = some u → ys[j]? = some v → flatSI u = true ∧ flatSI v = true
theorem all_dec {xs ys : List V} {n m : Nat} (hn : n = xs.length) (hm : m = ys.length) : (((List.range (min n m)).all fun j => decide (xs.getD j .non = ys.getD j .non)) && n == m) = decide (xs = ys) := by
  subst hn hm
  rw [Bool.eq_iff_iff, decide_eq_true_iff, Bool.and_eq_true]
  constructor
  · rintro ⟨h1, h2⟩
    have hl : xs.length = ys.length := by simpa using h2
    apply List.ext_getElem hl
    intro j a b
    have := List.all_eq_true.mp h1 j (List.mem_range.mpr (by omega))
    have := of_decide_eq_true this
    simpa [a, b] using this
  · intro e
    subst e
    simp
def rEqF (K : PySem.W.Frag) : R2 := fun x y H Q => ∃ a b xs ys, x = .ref a ∧ y = .ref b ∧ SqT K H a xs ∧ SqT K H b ys ∧ FlatTo xs ys ∧ Q (.bl (decide (xs = ys))) H
def rNeF (K : PySem.W.Frag) : R2 := fun x y H Q => ∃ a b xs ys, x = .ref a ∧ y = .ref b ∧ SqT K H a xs ∧ SqT K H b ys ∧ FlatTo xs ys ∧ Q (.bl (!decide (xs = ys))) H
section
variable {X : Cx}
theorem flat_items {A : Around} {s : Shared} {xs ys : List V} {us ws : List Value} (r1 : Vals xs us) (r2 : Vals ys ws) (hf : FlatTo xs ys) (j : Nat) (h1 : j < us.toArray.size) (h2 : j < ws.toArray.size) :
    SeqAt.EqAt A s us.toArray[j] ws.toArray[j] (decide (xs.getD j .non = ys.getD j .non)) := by
  have l1 := r1.length
  have l2 := r2.length
  simp only [List.size_toArray] at h1 h2
  have e1 : xs[j]? = some xs[j] := List.getElem?_eq_getElem (by omega)
  have e2 : ys[j]? = some ys[j] := List.getElem?_eq_getElem (by omega)
  obtain ⟨f1, f2⟩ := hf j _ _ e1 e2
  obtain ⟨u, hu, ru⟩ := r1.get e1
  obtain ⟨v, hv, rv⟩ := r2.get e2
  have k := eqAt_flat (A := A) (s := s) ru rv f1 f2
  obtain ⟨_, e3⟩ := List.getElem?_eq_some_iff.mp hu
  obtain ⟨_, e4⟩ := List.getElem?_eq_some_iff.mp hv
  have e5 : xs.getD j .non = xs[j] := by rw [List.getD_eq_getElem?_getD, e1]; rfl
  have e6 : ys.getD j .non = ys[j] := by rw [List.getD_eq_getElem?_getD, e2]; rfl
  rw [e5, e6]
  simp only [List.getElem_toArray]
  rw [e3, e4]
  exact k
theorem op_eqF (hu : X.A.units + 1 < cLine) : OpR X (compareOp .Eq) (rEqF X.K) := by
  intro pins s σ H x y v u Q I rx ry h
  obtain ⟨a, b, xs, ys, rfl, rfl, ha, hb, hf, q⟩ := h
  cases rx
  cases ry
  obtain ⟨us, r1, p1, _⟩ := I.tuple ha
  obtain ⟨ws, r2, p2, _⟩ := I.tuple hb
  have k := SeqAt.RcAt.tuples (A := X.A) (s := s) (e := fun j => decide (xs.getD j .non = ys.getD j .non)) (show s.heap.IsTuple a us.toArray from p1) (show s.heap.IsTuple b ws.toArray from p2) (by omega) (fun j h1 h2 => flat_items r1 r2 hf j h1 h2)
  rw [all_dec (xs := xs) (ys := ys) (by rw [List.size_toArray, r1.length]) (by rw [List.size_toArray, r2.length])] at k
  exact k X.prog X.w _ _ ⟨.bl _, H, I, rfl, q⟩
theorem op_neF (hu : X.A.units + 1 < cLine) : OpR X (compareOp .NotEq) (rNeF X.K) := by
  intro pins s σ H x y v u Q I rx ry h
  obtain ⟨a, b, xs, ys, rfl, rfl, ha, hb, hf, q⟩ := h
  cases rx
  cases ry
  obtain ⟨us, r1, p1, _⟩ := I.tuple ha
  obtain ⟨ws, r2, p2, _⟩ := I.tuple hb
  have k := SeqAt.RcNeAt.tuples (A := X.A) (s := s) (e := fun j => decide (xs.getD j .non = ys.getD j .non)) (show s.heap.IsTuple a us.toArray from p1) (show s.heap.IsTuple b ws.toArray from p2) (by omega) (fun j h1 h2 => flat_items r1 r2 hf j h1 h2)
  rw [all_dec (xs := xs) (ys := ys) (by rw [List.size_toArray, r1.length]) (by rw [List.size_toArray, r2.length])] at k
  exact k X.prog X.w _ _ ⟨.bl _, H, I, rfl, q⟩
def rDictC : List V → Hp → VK → Prop := fun xs H Q => ∃ a kvs, xs = [.ref a] ∧ H a = some (.dK kvs) ∧ ∀ p, H p = none → Q (.ref p) (upd H p (.dK kvs))
theorem call_dictC : CallR X (.type "dict") rDictC := by
  intro pins s σ H xs us Q I r h
  obtain ⟨a, kvs, rfl, ha, q⟩ := h
  obtain ⟨u, rfl, ru⟩ := vals1 r
  cases ru
  exact d_copyOf I (Rd.of ha) fun p s' hp I' => ⟨.ref p, _, I', rfl, q p hp⟩
end
end G35

/-! GW7 -/
set_option Elab.async false
set_option linter.all false
set_option maxRecDepth 100000
set_option maxHeartbeats 4000000
namespace G35
open PySem PySem.Spec PyProof.Rows L2
/-! ### head_of, kids_of -/
/-- a term's head as items -/
def hdV : PT → List V
  | .num n => [.str "num", .int n]
  | .any x => [.str "any", .str x]
  | .app f ks => [.str "app", .str f, .int (ks.length : Int)]
def spHead : Sp := fun vs H Q _ => ∃ (t : PT) (v : V), vs = [v] ∧ RepT H t v ∧ (∀ x, t ≠ .any x) ∧ ∀ a H', Same H H' → H' a = some (.tup (hdV t)) → Q (.ref a) H'
def RepI (H : Hp) (i : Item) (v : V) : Prop := ∃ e p pth va vb, v = .ref e ∧ H e = some (.tup [.ref p, va, vb]) ∧ H p = some (.tup pth) ∧ pth.length = i.1 ∧ RepT H i.2.1 va ∧ RepT H i.2.2 vb
theorem RepI.ex {H H' : Hp} (s : TupEx H H') {i : Item} {v : V} (h : RepI H i v) : RepI H' i v := by
  obtain ⟨e, p, pth, va, vb, h1, h2, h3, h4, h5, h6⟩ := h
  exact ⟨e, p, pth, va, vb, h1, s _ _ h2, s _ _ h3, h4, h5.ex s, h6.ex s⟩
def RepIs (H : Hp) : List Item → List V → Prop
  | [], vs => vs = []
  | i :: is, vs => ∃ v r, vs = v :: r ∧ RepI H i v ∧ RepIs H is r
theorem RepIs.ex {H H' : Hp} (s : TupEx H H') : ∀ {is : List Item} {vs : List V}, RepIs H is vs → RepIs H' is vs
  | [], _, h => h
  | _ :: _, _, h => by
    obtain ⟨v, r, e, h1, h2⟩ := h
    exact ⟨v, r, e, h1.ex s, RepIs.ex s h2⟩
theorem RepIs.length {H : Hp} : ∀ {is : List Item} {vs : List V}, RepIs H is vs → vs.length = is.length
  | [], vs, h => by
    have e : vs = [] := h
    rw [e]
    rfl
  | _ :: _, vs, h => by
    obtain ⟨v, r, e, h1, h2⟩ := h
    rw [e, List.length_cons, List.length_cons, RepIs.length h2]
theorem RepIs.append {H : Hp} : ∀ {is js : List Item} {vs ws : List V}, RepIs H is vs → RepIs H js ws → RepIs H (is ++ js) (vs ++ ws)
  | [], _, vs, ws, h, h' => by
    have e : vs = [] := h
    rw [e]
    exact h'
  | _ :: _, _, vs, ws, h, h' => by
    obtain ⟨v, r, e, h1, h2⟩ := h
    rw [e]
    exact ⟨v, r ++ ws, rfl, h1, RepIs.append h2 h'⟩
theorem RepIs.one {H : Hp} {i : Item} {v : V} (h : RepI H i v) : RepIs H [i] [v] := ⟨v, [], rfl, h, rfl⟩
theorem RepIs.split {H : Hp} : ∀ {is js : List Item} {vs : List V}, RepIs H (is ++ js) vs → ∃ a b, vs = a ++ b ∧ RepIs H is a ∧ RepIs H js b
  | [], _, vs, h => ⟨[], vs, rfl, rfl, h⟩
  | _ :: _, _, vs, h => by
    obtain ⟨v, r, e, h1, h2⟩ := h
    obtain ⟨a, b, e2, h3, h4⟩ := RepIs.split h2
    exact ⟨v :: a, b, by rw [e, e2]; rfl, ⟨v, a, rfl, h1, h3⟩, h4⟩
theorem RepIs.last {H : Hp} {is : List Item} {i : Item} {vs : List V} (h : RepIs H (is ++ [i]) vs) : ∃ a v, vs = a ++ [v] ∧ RepIs H is a ∧ RepI H i v := by
  obtain ⟨a, b, e, h1, h2⟩ := h.split
  obtain ⟨v, r, e2, h3, h4⟩ := h2
  have e3 : r = [] := h4
  exact ⟨a, v, by rw [e, e2, e3], h1, h3⟩
def spKids : Sp := fun vs H Q _ => ∃ (p : Addr) (pth : List V) (f g : Str) (ks ls : List PT) (va vb : V), vs = [.ref p, va, vb] ∧ H p = some (.tup pth) ∧ pth.length ≤ 20000 ∧ RepT H (.app f ks) va ∧ RepT H (.app g ls) vb ∧ ks.length = ls.length ∧ ks.length ≤ 2 ∧
  ∀ q us H', Same H H' → H q = none → H' q = some (.lst us) → RepIs H' ((ks.zip ls).map fun u => (pth.length + 1, u.1, u.2)).reverse us → Q (.ref q) H'
section
variable {P : Program} {w : World} {K : PySem.W.Frag} {mg : Str → Option Value} {base : Heap}
theorem sc_head : FnScope ["term"] ["term"] d_head_of.scope := ⟨rfl, rfl, rfl, by decide +kernel, rfl, by decide +kernel, by decide +kernel⟩
theorem sc_kids : FnScope ["path", "one", "other", "rows", "at"] ["path", "one", "other"] d_kids_of.scope := ⟨rfl, rfl, rfl, by decide +kernel, rfl, by decide +kernel, by decide +kernel⟩
theorem ok_head (T : T35 K mg) : Cl P w K mg base CX0 1 "head_of" ["term"] spHead := by
  refine cl_of (d := d_head_of) T 12 rfl rfl rfl rfl sc_head (fun vs H Q E h => ?_) (fun _ _ _ _ _ _ us hl => match us, hl with | [_], _ => rfl) (fun cdv A outer s H vs Q E hr h => ?_)
  · obtain ⟨t, v, rfl, _⟩ := h
    rfl
  · obtain ⟨t, v, rfl, ht, hn, k⟩ := h
    refine ⟨_, pss_cons (ps_if (pt_cmpR op_eq (pe_ix ix_tup (pv 0) pe_int (fun _ _ => rfl)) pe_str (nomark _)) (pss_one (ps_ret (pv 0))) pss_nil)
      (pss_one (ps_ret (pe_tup (pa_cons pe_str (pa_cons (pe_ix ix_tup (pv 0) pe_int (fun _ _ => rfl)) (pa_cons (pe_callB call_len_seq rfl (T.free 0 _ rfl) PySem.boot_len (pa_cons (pe_ix ix_tup (pv 0) pe_int (fun _ _ => rfl)) pa_nil)) pa_nil)))))), ?_⟩
    cases t with
    | any x => exact absurd rfl (hn x)
    | num i =>
      refine s_if (rdT_test (rd_eqS (rd_tag (rd_var rfl) ht) rd_c)) (fun _ => ?_) fun z => ?_
      · obtain ⟨a, rfl, ha⟩ := ht
        exact s_ret (rd_var rfl) (k a H (Same.refl _) ha)
      · rw [den_num] at z; cases z
    | app f ks =>
      refine s_if (rdT_test (rd_eqS (rd_tag (rd_var rfl) ht) rd_c)) (fun z => ?_) fun _ => ?_
      · rw [den_app] at z; cases z
      obtain ⟨ta, tk, kv, rfl, ht3, hk3, hks⟩ := ht.kids
      refine x_tup (ra_cons rd_c (ra_cons (rd_second (rd_var rfl) ht) (ra_cons (rd_lenT (rd_ixT (n := 2) (rd_var rfl) rd_c ht3 rfl) hk3) ra_nil))) (sz (by simp)) fun p hp => k p _ (same_new hp) ?_
      rw [upd_same, hks.length]
      rfl
theorem ok_kids (T : T35 K mg) : Cl P w K mg base CX0 1 "kids_of" ["path", "one", "other"] spKids := by
  refine cl_of (d := d_kids_of) T 14 rfl rfl rfl rfl sc_kids (fun vs H Q E h => ?_) (fun _ _ _ _ _ _ us hl => match us, hl with | [_, _, _], _ => rfl) (fun cdv A outer s H vs Q E hr h => ?_)
  · obtain ⟨p, pth, f, g, ks, ls, va, vb, rfl, _⟩ := h
    rfl
  · obtain ⟨p, pth, f, g, ks, ls, va, vb, rfl, hp, hpl, ha, hb, hl, h2, k⟩ := h
    refine ⟨_, pss_cons (ps_set (i := 3) sc_kids.nd rfl (Or.inl rfl) (pe_lst pa_nil)) (pss_cons (ps_set (i := 4) sc_kids.nd rfl (Or.inl rfl) (pe_callB call_len_seq rfl (T.free 0 _ rfl) PySem.boot_len (pa_cons (pe_ix ix_tup (pv 1) pe_int (fun _ _ => rfl)) pa_nil)))
      (pss_cons (ps_while PassesOwn.never (pt_cmpR op_gt (pv 4) pe_int (nomark _))
        (pss_cons (ps_set (i := 4) sc_kids.nd rfl (Or.inl rfl) (pe_op op_sub (pv 4) pe_int))
        (pss_one (ps_expr (pe_bm PySem.F.plainAttrs_list PySem.F.slot_list_append PySem.F.type_list_append mt_append (pv 3)
          (pa_cons (pe_tup (pa_cons (pe_op op_catA (pv 0) (pe_tup (pa_cons (pv 4) pa_nil))) (pa_cons (pe_ix ix_tup (pe_ix ix_tup (pv 1) pe_int (fun _ _ => rfl)) (pv 4) (fun _ _ => rfl)) (pa_cons (pe_ix ix_tup (pe_ix ix_tup (pv 2) pe_int (fun _ _ => rfl)) (pv 4) (fun _ _ => rfl)) pa_nil)))) pa_nil))))))
      (pss_one (ps_ret (pv 3))))), ?_⟩
    obtain ⟨aa, ak, av, rfl, ha3, hak, hks⟩ := ha.kids
    obtain ⟨ba, bk, bv, rfl, hb3, hbk, hls⟩ := hb.kids
    have l1 := hks.length
    have l2 := hls.length
    refine ⟨sz (by simp), fun q hq => ?_⟩
    have sN := same_new (o := HO.lst []) hq
    refine s_set (rd_lenT (rd_ixT (n := 2) (rd_var rfl) rd_c (sN _ _ ha3) rfl) (sN _ _ hak)) ?_
    refine s_while (fun m σ' H' => ∃ us, m ≤ ks.length ∧ σ' = [some (.ref p), some (.ref aa), some (.ref ba), some (.ref q), some (.int (m : Int))] ∧ Same H H' ∧ H' q = some (.lst us) ∧ us.length = ks.length - m ∧ RepIs H' (((ks.zip ls).map fun u => (pth.length + 1, u.1, u.2)).drop m).reverse us) ks.length
      ⟨[], Nat.le_refl _, by rw [← l1]; rfl, sN, upd_same, by simp, ?_⟩ ?_
    · rw [List.drop_eq_nil_of_le (by simp; omega)]
      exact rfl
    · rintro m σ' H' ⟨us, hm, rfl, hS, hq', hul, hR⟩
      refine ⟨decide (0 < m), rdT_test (rd_gt0 (rd_var rfl)), fun hpos => ?_, fun hz => ?_⟩
      · have hpos := of_decide_eq_true hpos
        obtain ⟨m, rfl⟩ : ∃ j, m = j + 1 := ⟨m - 1, by omega⟩
        refine s_set (v := .int (m : Int)) (fun Q q => ⟨_, rfl, ((m + 1 : Nat) : Int), 1, rfl, rfl, by show Q (V.int (((m + 1 : Nat) : Int) - 1)) H'; rw [show ((m + 1 : Nat) : Int) - 1 = (m : Int) from by omega]; exact q⟩) ?_
        have hqn : H q = none := hq
        have i1 : ks[m]? = some ks[m] := List.getElem?_eq_getElem (by omega)
        have i2 : ls[m]? = some ls[m] := List.getElem?_eq_getElem (by omega)
        obtain ⟨x1, hx1, hr1⟩ := hks.get m _ i1
        obtain ⟨x2, hx2, hr2⟩ := hls.get m _ i2
        -- rows.append((path + (at,), one[2][at], other[2][at]))
        refine ⟨.ref q, rfl, .inl ⟨rfl, _, SqL.of hq'⟩, ?_⟩
        refine ⟨.ref p, rfl, ⟨.int (m : Int), rfl, sz (by simp), fun e he => ?_⟩⟩
        have main : ∀ (c : Addr) (H2 : Hp), Same H' H2 → H2 c = some (.tup (pth ++ [.int (m : Int)])) →
            (tCons (tOp (rIxT K) (tOp (rIxT K) (tVar 1) (tC (.int 2))) (tVar 4)) (tCons (tOp (rIxT K) (tOp (rIxT K) (tVar 2) (tC (.int 2))) (tVar 4)) tNil)) [some (.ref p), some (.ref aa), some (.ref ba), some (.ref q), some (.int (m : Int))] H2 fun xs H3 =>
              (V.ref c :: xs).length ≤ sizeLine ∧ ∀ r, H3 r = none → rAppend (.ref q) [.ref r] (upd H3 r (.tup (V.ref c :: xs))) fun _ H4 => ∃ m', m' < m + 1 ∧ ∃ us, m' ≤ ks.length ∧ [some (V.ref p), some (.ref aa), some (.ref ba), some (.ref q), some (.int (m : Int))] = [some (.ref p), some (.ref aa), some (.ref ba), some (.ref q), some (.int (m' : Int))] ∧ Same H H4 ∧ H4 q = some (.lst us) ∧ us.length = ks.length - m' ∧ RepIs H4 (((ks.zip ls).map fun u => (pth.length + 1, u.1, u.2)).drop m').reverse us := by
          intro c H2 hS2 hc
          have hS3 := hS.trans hS2
          refine ra_cons (rd_ixT (rd_ixT (n := 2) (rd_var rfl) rd_c (hS3 _ _ ha3) rfl) (rd_var rfl) (hS3 _ _ hak) hx1) (ra_cons (rd_ixT (rd_ixT (n := 2) (rd_var rfl) rd_c (hS3 _ _ hb3) rfl) (rd_var rfl) (hS3 _ _ hbk) hx2) ra_nil) _ ⟨sz (by simp), fun r hr' => ?_⟩
          have hq2 : H2 q = some (.lst us) := hS2 _ _ hq'
          have qr : q ≠ r := fun z => by rw [z, hr'] at hq2; cases hq2
          have sN2 := same_new (o := HO.tup [.ref c, x1, x2]) hr'
          have hq3 := sN2 _ _ hq2
          refine ⟨q, us, .ref r, rfl, rfl, hq3, szl (by omega), m, Nat.lt_succ_self _, us ++ [.ref r], by omega, rfl, same_mut (hS3.trans sN2) hqn, upd_same, by rw [List.length_append, hul]; show _ + 1 = _; omega, ?_⟩
          have ex : TupEx (upd H2 r (.tup [.ref c, x1, x2])) (upd (upd H2 r (.tup [.ref c, x1, x2])) q (.lst (us ++ [.ref r]))) := tupex_ls hq3
          have exA : TupEx H' (upd (upd H2 r (.tup [.ref c, x1, x2])) q (.lst (us ++ [.ref r]))) := ((TupEx.of hS2).trans (.of sN2)).trans ex
          have e3 : ((ks.zip ls).map fun u => (pth.length + 1, u.1, u.2)).drop m = (pth.length + 1, ks[m], ls[m]) :: ((ks.zip ls).map fun u => (pth.length + 1, u.1, u.2)).drop (m + 1) := by
            rw [List.drop_eq_getElem_cons (by simp; omega)]
            simp
          rw [e3, List.reverse_cons]
          refine (hR.ex exA).append (RepIs.one ⟨r, c, pth ++ [.int (m : Int)], x1, x2, rfl, ex _ _ upd_same, ex _ _ (sN2 _ _ hc), by simp, hr1.ex ((TupEx.of hS).trans exA), hr2.ex ((TupEx.of hS).trans exA)⟩)
        have sE := same_new (o := HO.tup [.int (m : Int)]) he
        refine ⟨p, e, pth, [.int (m : Int)], rfl, rfl, SqT.of (sE _ _ (hS _ _ hp)), SqT.of upd_same, sz (by simp; omega), fun hz => ?_, fun _ hz => (nomatch hz), fun _ _ c hc => ?_⟩
        · refine main e _ sE ?_
          rw [upd_same, hz]
          rfl
        · exact main c _ (sE.trans (same_new hc)) upd_same
      · have hz := of_decide_eq_false hz
        have e : m = 0 := by omega
        subst e
        exact s_ret (rd_var rfl) (k q us H' hS hq hq' hR)
end
end G35

/-! GW8 -/
set_option Elab.async false
set_option linter.all false
set_option maxRecDepth 100000
set_option maxHeartbeats 4000000
namespace G35
open PySem PySem.Spec PyProof.Rows L2
/-! ### made_one -/
/-- what made_one gives: ("one", puts), or some other tuple -/
def RepM (H : Hp) (r : Option Puts) (m : Addr) : Prop := match r with
  | some P => ∃ e, H m = some (.tup [.str "one", .ref e]) ∧ PutsAt H e P
  | none => ∃ tg rest, H m = some (.tup (.str tg :: rest)) ∧ tg ≠ "one"
def spMade : Sp := fun vs H Q _ => ∃ (a b : PT) (P : Puts) (r : Option Puts) (va vb : V) (d : Addr), vs = [va, vb, .ref d] ∧ RepT H a va ∧ RepT H b vb ∧ PutsAt H d P ∧ Uni [(0, a, b)] P r ∧
  ∀ m H', Same H H' → RepM H' r m → Q (.ref m) H'
theorem uniF_step {n d : Nat} {a b : PT} {rest : List Item} {P : Puts} {r : Option Puts} (h : uniF n ((d, a, b) :: rest) P = some r) :
    ∃ k σ rk a' b', n = k + 1 ∧ UG ((d, a, b) :: rest) P σ rk ∧ Walked P a a' ∧ Walked P b b' ∧ (match uniS d a' b' rest P with
      | .done q => q = r
      | .more st' P' => uniF k st' P' = some r) := by
  cases n with
  | zero => cases h
  | succ k =>
    unfold uniF at h
    by_cases hg : ∃ σ rk, UG ((d, a, b) :: rest) P σ rk
    · rw [if_pos hg] at h
      obtain ⟨σ, rk, G⟩ := hg
      cases ha : walkO P a with
      | none => simp only [ha] at h; cases h
      | some a' =>
        cases hb : walkO P b with
        | none => simp only [ha, hb] at h; cases h
        | some b' =>
          simp only [ha, hb] at h
          refine ⟨k, σ, rk, a', b', rfl, G, of_walkO ha, of_walkO hb, ?_⟩
          cases hu : uniS d a' b' rest P with
          | done q => simp only [hu] at h ⊢; exact Option.some.inj h
          | more st' P' => simp only [hu] at h ⊢; exact h
    · rw [if_neg hg] at h
      cases h
theorem uniF_nil {n : Nat} {P : Puts} {r : Option Puts} (h : uniF n [] P = some r) : r = some P := by
  cases n with
  | zero => cases h
  | succ k =>
    unfold uniF at h
    by_cases hg : ∃ σ rk, UG [] P σ rk
    · rw [if_pos hg] at h
      exact (Option.some.inj h).symm
    · rw [if_neg hg] at h
      cases h
theorem PutsAt.look_none {H : Hp} {d : Addr} {P : Puts} (h : PutsAt H d P) : ∃ kvs, H d = some (.dK kvs) ∧ kvs.length = P.length ∧ RepP H P kvs := by
  obtain ⟨kvs, h1, h2⟩ := h
  exact ⟨kvs, h1, h2.length, h2⟩
theorem hdV_flat (a b : PT) : FlatTo (hdV a) (hdV b) := by
  have key : ∀ (t : PT) (j : Nat) (u : V), (hdV t)[j]? = some u → flatSI u = true := fun t j u h => by
    have hm := List.mem_of_getElem? h
    cases t with
    | num n => rcases List.mem_cons.mp hm with e | hm
               · rw [e]; rfl
               · rw [List.mem_singleton.mp hm]; rfl
    | any x => rcases List.mem_cons.mp hm with e | hm
               · rw [e]; rfl
               · rw [List.mem_singleton.mp hm]; rfl
    | app f ks => rcases List.mem_cons.mp hm with e | hm
                  · rw [e]; rfl
                  · rcases List.mem_cons.mp hm with e | hm
                    · rw [e]; rfl
                    · rw [List.mem_singleton.mp hm]; rfl
  exact fun j u v h1 h2 => ⟨key a j u h1, key b j v h2⟩
theorem cmp_any {H : Hp} {x : Str} {t : PT} {w1 w2 : V} (h1 : RepT H (.any x) w1) (h2 : RepT H t w2) : ∃ a b xs ys, w1 = .ref a ∧ w2 = .ref b ∧ H a = some (.tup xs) ∧ H b = some (.tup ys) ∧ FlatTo xs ys ∧ (decide (xs = ys) = true ↔ t = .any x) := by
  obtain ⟨a, rfl, ha⟩ := h1
  cases t with
  | num n =>
    obtain ⟨b, rfl, hb⟩ := h2
    refine ⟨a, b, _, _, rfl, rfl, ha, hb, fun j u v hu hv => ?_, ?_⟩
    · match j, hu, hv with
      | 0, hu, hv => cases hu; cases hv; exact ⟨rfl, rfl⟩
      | 1, hu, hv => cases hu; cases hv; exact ⟨rfl, rfl⟩
      | _ + 2, hu, _ => cases hu
    · rw [decide_eq_true_iff]
      constructor
      · intro z
        injection z with z _
        injection z with z
        exact absurd z (by decide +kernel)
      · intro z
        cases z
  | any y =>
    obtain ⟨b, rfl, hb⟩ := h2
    refine ⟨a, b, _, _, rfl, rfl, ha, hb, fun j u v hu hv => ?_, ?_⟩
    · match j, hu, hv with
      | 0, hu, hv => cases hu; cases hv; exact ⟨rfl, rfl⟩
      | 1, hu, hv => cases hu; cases hv; exact ⟨rfl, rfl⟩
      | _ + 2, hu, _ => cases hu
    · rw [decide_eq_true_iff]
      constructor
      · intro z
        injection z with _ z
        injection z with z _
        injection z with z
        rw [z]
      · intro z
        injection z with z
        rw [z]
  | app f ks =>
    obtain ⟨b, c, vs, rfl, hb, _⟩ := h2
    refine ⟨a, b, _, _, rfl, rfl, ha, hb, fun j u v hu hv => ?_, ?_⟩
    · match j, hu, hv with
      | 0, hu, hv => cases hu; cases hv; exact ⟨rfl, rfl⟩
      | 1, hu, hv => cases hu; cases hv; exact ⟨rfl, rfl⟩
      | _ + 2, hu, _ => cases hu
    · rw [decide_eq_true_iff]
      constructor
      · intro z
        injection z with z _
        injection z with z
        exact absurd z (by decide +kernel)
      · intro z
        cases z
theorem rd_neF {K : PySem.W.Frag} {σ : L2.St} {H : Hp} {ta tb : TE} {a b : Addr} {xs ys : List V} (ha : Rds ta σ H (.ref a)) (hb : Rds tb σ H (.ref b)) (h1 : H a = some (.tup xs)) (h2 : H b = some (.tup ys)) (hf : FlatTo xs ys) : Rds (tOp (rNeF K) ta tb) σ H (.bl (!decide (xs = ys))) :=
  rd_op ha hb fun _ q => ⟨a, b, xs, ys, rfl, rfl, SqT.of h1, SqT.of h2, hf, q⟩
section
variable {P : Program} {w : World} {K : PySem.W.Frag} {mg : Str → Option Value} {base : Heap}
theorem sc_made : FnScope ["one", "other", "puts", "found", "left", "path"] ["one", "other", "puts"] d_made_one.scope := ⟨rfl, rfl, rfl, by decide +kernel, rfl, by decide +kernel, by decide +kernel⟩
theorem ok_made (T : T35 K mg) : Cl P w K mg base CX0 3 "made_one" ["one", "other", "puts"] spMade := by
  have cW := ok_walked (P := P) (w := w) (base := base) T
  have cS := ok_stands (P := P) (w := w) (base := base) T
  have cH := ok_head (P := P) (w := w) (base := base) T
  have cK := ok_kids (P := P) (w := w) (base := base) T
  refine cl_of (d := d_made_one) T 15 rfl rfl rfl rfl sc_made (fun vs H Q E h => ?_) (fun _ _ _ _ _ _ us hl => match us, hl with | [_, _, _], _ => rfl) (fun cdv A outer s H vs Q E hr h => ?_)
  · obtain ⟨a, b, P, r, va, vb, d, rfl, _⟩ := h
    rfl
  · obtain ⟨a, b, P', r, va, vb, d, rfl, ha, hb, hP, hU, k⟩ := h
    have hu := hu_of hr
    refine ⟨_, (pss_cons (ps_set (i := 3) sc_made.nd rfl (Or.inl rfl) (pe_callTy call_dictC rfl (T.free 5 _ rfl) PyProof.Rows.boot_dict (pa_cons (pv 2) pa_nil))) (pss_cons (ps_set (i := 4) sc_made.nd rfl (Or.inl rfl) (pe_lst (pa_cons (pe_tup (pa_cons (pe_tup pa_nil) (pa_cons (pv 0) (pa_cons (pv 1) pa_nil)))) pa_nil))) (pss_cons (ps_while PassesOwn.never (pt_cmpR op_gt (pe_callB call_len_seq rfl (T.free 0 _ rfl) PySem.boot_len (pa_cons (pv 4) pa_nil)) pe_int (nomark _)) (pss_cons (ps_asg (pe_bm0 PySem.F.plainAttrs_list PySem.F.slot_list_pop PySem.F.type_list_pop mt_pop (pv 4)) (pg_tup (n := 3) rfl (pgs_cons (pg_name (i := 5) sc_made.nd rfl (Or.inl rfl)) (pgs_cons (pg_name (i := 0) sc_made.nd rfl (Or.inl rfl)) (pgs_cons (pg_name (i := 1) sc_made.nd rfl (Or.inl rfl)) pgs_nil))))) (pss_cons (ps_set (i := 0) sc_made.nd rfl (Or.inl rfl) (pe_cl cW hr (by omega) rfl (pa_cons (pv 0) (pa_cons (pv 3) pa_nil)))) (pss_cons (ps_set (i := 1) sc_made.nd rfl (Or.inl rfl) (pe_cl cW hr (by omega) rfl (pa_cons (pv 1) (pa_cons (pv 3) pa_nil)))) (pss_cons (ps_if (PW.pt (pw_and (pt_cmpR op_ne (pe_ix ix_tup (pv 0) pe_int (fun _ _ => rfl)) pe_str (nomark _)) (pw_and1 (pt_cmpR op_eq (pe_ix ix_tup (pv 1) pe_int (fun _ _ => rfl)) pe_str (nomark _))))) (pss_one (ps_par (i := 0) (j := 1) rfl sc_made.nd rfl rfl (by decide) rfl rfl (pa_cons (pv 1) (pa_cons (pv 0) pa_nil)) rfl)) pss_nil) (pss_one (ps_if (pt_cmpR op_eq (pe_ix ix_tup (pv 0) pe_int (fun _ _ => rfl)) pe_str (nomark _)) (pss_cons (ps_if (PW.pt (pw_and (pt_cmpR (op_neF hu) (pv 0) (pv 1) (nomark _)) (pw_and1 (pt_truth (pe_cl cS hr (by omega) rfl (pa_cons (pe_ix ix_tup (pv 0) pe_int (fun _ _ => rfl)) (pa_cons (pv 1) (pa_cons (pv 3) pa_nil)))) (fun _ => rfl))))) (pss_one (ps_ret (pe_tup (pa_cons pe_str (pa_cons (pv 5) (pa_cons (pe_ix ix_tup (pv 0) pe_int (fun _ _ => rfl)) pa_nil)))))) pss_nil) (pss_one (ps_if (pt_cmpR (op_neF hu) (pv 0) (pv 1) (nomark _)) (pss_one (ps_dput hu (pv 3) (pe_ix ix_tup (pv 0) pe_int (fun _ _ => rfl)) (pv 1) rfl)) pss_nil))) (pss_one (ps_if (pt_cmpR (op_neF hu) (pe_cl cH hr (by omega) rfl (pa_cons (pv 0) pa_nil)) (pe_cl cH hr (by omega) rfl (pa_cons (pv 1) pa_nil)) (nomark _)) (pss_one (ps_ret (pe_tup (pa_cons pe_str (pa_cons (pv 5) (pa_cons (pe_cl cH hr (by omega) rfl (pa_cons (pv 0) pa_nil)) (pa_cons (pe_cl cH hr (by omega) rfl (pa_cons (pv 1) pa_nil)) pa_nil))))))) (pss_one (ps_if (pt_cmpR op_eq (pe_ix ix_tup (pv 0) pe_int (fun _ _ => rfl)) pe_str (nomark _)) (pss_one (ps_expr (pe_bm PySem.F.plainAttrs_list PySem.F.slot_list_extend PySem.F.type_list_extend mt_extend (pv 4) (pa_cons (pe_cl cK hr (by omega) rfl (pa_cons (pv 5) (pa_cons (pv 0) (pa_cons (pv 1) pa_nil)))) pa_nil)))) pss_nil))))))))))) (pss_one (ps_ret (pe_tup (pa_cons pe_str (pa_cons (pv 3) pa_nil)))))))), ?_⟩
    obtain ⟨kvs, hkv, hkr⟩ := hP
    refine ⟨.ref d, rfl, d, kvs, rfl, hkv, fun f hf => ?_⟩
    have s1 := same_new (o := HO.dK kvs) hf
    refine ⟨sz (by simp), fun e he => ?_⟩
    have s2 := same_new (o := HO.tup []) he
    refine ⟨va, rfl, vb, rfl, sz (by simp), fun g hg => ?_⟩
    have s3 := same_new (o := HO.tup [.ref e, va, vb]) hg
    refine ⟨sz (by simp), fun q hq => ?_⟩
    have s4 := same_new (o := HO.lst [.ref g]) hq
    have s14 := ((s1.trans s2).trans s3).trans s4
    have hqn : H q = none := ((s1.trans s2).trans s3).free hq
    have hfd : (upd (upd (upd (upd H f (.dK kvs)) e (.tup [])) g (.tup [.ref e, va, vb])) q (.lst [.ref g])) f = some (.dK kvs) := s4 _ _ (s3 _ _ (s2 _ _ upd_same))
    have fq : f ≠ q := fun z => by
      rw [z, upd_same] at hfd
      cases hfd
    obtain ⟨n0, hn0⟩ := hU
    refine s_while (fun n σ' H' => ∃ (st : List Item) (P : Puts) (us : List V) (x y : V) (z : Option V), σ' = [some x, some y, some (.ref d), some (.ref f), some (.ref q), z] ∧ uniF n st P = some r ∧ Same H H' ∧ PutsAt H' f P ∧ H' q = some (.lst us) ∧ RepIs H' st.reverse us) n0
      ⟨[(0, a, b)], P', [.ref g], va, vb, none, rfl, hn0, s14, ⟨kvs, hfd, hkr.ex (.of s14)⟩, upd_same, RepIs.one ⟨g, e, [], va, vb, rfl, s4 _ _ upd_same, s4 _ _ (s3 _ _ upd_same), rfl, ha.ex (.of s14), hb.ex (.of s14)⟩⟩ ?_
    rintro n σ' H' ⟨st, P, us, x, y, z, rfl, hun, hS, hP, hq', hR⟩
    have hlen := hR.length
    rw [List.length_reverse] at hlen
    refine ⟨decide (0 < us.length), rdT_test (rd_gt0 (rd_lenL (rd_var rfl) hq')), fun hpos => ?_, fun hz => ?_⟩
    · cases st with
      | nil =>
        rw [hlen] at hpos
        cases hpos
      | cons i rest =>
        obtain ⟨dp, ta, tb⟩ := i
        rw [List.reverse_cons] at hR
        obtain ⟨us, v, rfl, hR, hi⟩ := hR.last
        obtain ⟨n, σm, rk, a', b', rfl, U, wa, wb, hstep⟩ := uniF_step hun
        refine ⟨.ref q, rfl, .inl ⟨rfl, _, SqL.of hq'⟩, q, _, v, rfl, rfl, hq', rd_popped.1, ?_⟩
        rw [rd_popped.2]
        have ex2 : TupEx H' (upd H' q (.lst us)) := tupex_ls hq'
        have hS2 : Same H (upd H' q (.lst us)) := same_mut hS hqn
        have hR2 := hR.ex ex2
        have hi2 := hi.ex ex2
        have hq2 : upd H' q (.lst us) q = some (.lst us) := upd_same
        have hP2 : PutsAt (upd H' q (.lst us)) f P := by
          obtain ⟨k1, k2, k3⟩ := hP
          exact ⟨k1, by rw [upd_ne fq]; exact k2, k3.ex ex2⟩
        generalize upd H' q (.lst us) = H2 at ex2 hS2 hR2 hi2 hq2 hP2
        obtain ⟨e2, p, pth, v1, v2, rfl, he2, hp2, hpl, h1, h2⟩ := hi2
        dsimp only at hpl h1 h2
        refine ⟨e2, _, rfl, SqT.of he2, rfl, _, _, rfl, _, _, rfl, _, _, rfl, rfl, ?_⟩
        refine x_cl (sp := spWalked) (ra_cons (rd_var rfl) (ra_cons (rd_var rfl) ra_nil)) ⟨ta, a', P, v1, f, rfl, h1, hP2, wa, fun w1 hw1 => ?_⟩
        refine x_cl (sp := spWalked) (ra_cons (rd_var rfl) (ra_cons (rd_var rfl) ra_nil)) ⟨tb, b', P, v2, f, rfl, h2, hP2, wb, fun w2 hw2 => ?_⟩
        have hrl := hR2.length
        rw [List.length_reverse] at hrl
        have ulen := U.stk
        rw [List.length_cons] at ulen
        have upl := U.len
        obtain ⟨u1, u2, u3, u4, u5⟩ := U.its (dp, ta, tb) (List.mem_cons_self ..)
        dsimp only at u1 u2 u3 u4 u5
        have ra' := walked_sub U.good wa
        have rb' := walked_sub U.good wb
        have fu : full P = σm := full_eq U.good
        -- one bound to other
        have bind : ∀ (D : Ends) (x : Str) (t : PT) (wx wt : V), (∀ σ2 H3, (∃ m', m' < n + 1 ∧ ∃ (st : List Item) (P : Puts) (us : List V) (x y : V) (z : Option V), σ2 = [some x, some y, some (.ref d), some (.ref f), some (.ref q), z] ∧ uniF m' st P = some r ∧ Same H H3 ∧ PutsAt H3 f P ∧ H3 q = some (.lst us) ∧ RepIs H3 st.reverse us) → D.nx σ2 H3) → (∀ v H3, Q v H3 → D.rt v H3) →
            RepT H2 (.any x) wx → RepT H2 t wt → look P x = none → Ar (t.sub σm) → (t.sub σm).depth ≤ 5000 →
            (t = .any x → uniF n rest P = some r) → (t ≠ .any x → x ∈ (t.sub σm).vars → r = none) → (t ≠ .any x → x ∉ (t.sub σm).vars → uniF n rest (P ++ [(x, t)]) = some r) →
            (tSeq (tIfS (tAnd (tTest (tOp (rNeF K) (tVar 0) (tVar 1))) (fun σ H Q => tCall spStands [] E0 (tCons (tOp (rIxT K) (tVar 0) (tC (.int 1))) (tCons (tVar 1) (tCons (tVar 3) tNil))) σ H fun x H' => ∃ k, TruV K x H' k ∧ Q k H'))
              (tRet (tTup (tCons (tC (.str "ring")) (tCons (tVar 5) (tCons (tOp (rIxT K) (tVar 0) (tC (.int 1))) tNil))))) tNext)
              (tIfS (tTest (tOp (rNeF K) (tVar 0) (tVar 1))) (sDPut (tVar 3) (tOp (rIxT K) (tVar 0) (tC (.int 1))) (tVar 1)) tNext)) D [some wx, some wt, some (.ref d), some (.ref f), some (.ref q), some (.ref p)] H2 := by
          intro D x t wx wt hnx hrt hx ht hlx hAt hdt hst1 hst2 hst3
          obtain ⟨a1, a2, xs, ys, rfl, rfl, e1, e2, hfl, hiff⟩ := cmp_any hx ht
          by_cases ht2 : t = .any x
          · have hst := hst1 ht2
            have hb : decide (xs = ys) = true := hiff.mpr ht2
            refine s_if (rdT_and (b := false) (rdT_test (rd_neF (rd_var rfl) (rd_var rfl) e1 e2 hfl)) (fun z => ?_)) (fun z => ?_) fun _ => ?_
            · rw [hb] at z; cases z
            · rw [Bool.and_false] at z; cases z
            refine s_if (rdT_test (rd_neF (rd_var rfl) (rd_var rfl) e1 e2 hfl)) (fun z => ?_) fun _ => ?_
            · rw [hb] at z; cases z
            exact hnx _ _ ⟨n, Nat.lt_succ_self _, rest, P, us, .ref a1, .ref a2, some (.ref p), rfl, hst, hS2, hP2, hq2, hR2⟩
          · have hb : decide (xs = ys) = false := by
              cases hd : decide (xs = ys) with
              | false => rfl
              | true => exact absurd (hiff.mp hd) ht2
            refine rdT_test (rd_neF (rd_var rfl) (rd_var rfl) e1 e2 hfl) _ ?_
            rw [hb]
            refine x_cl (sp := spStands) (ra_cons (rd_second (tm := .any x) (rd_var rfl) hx) (ra_cons (rd_var rfl) (ra_cons (rd_var rfl) ra_nil))) ⟨x, t, P, σm, rk, .ref a2, f, rfl, ht, hP2, U.good, hAt, by omega, hlx, fun b H3 hb3 hS3 => ?_⟩
            refine ⟨b, rfl, ?_⟩
            cases b with
            | true =>
              have hst := hst2 ht2 (hb3.mp rfl)
              subst hst
              refine x_tup (ra_cons rd_c (ra_cons (rd_var rfl) (ra_cons (rd_second (tm := .any x) (rd_var rfl) (hx.ex (.of hS3))) ra_nil))) (sz (by simp)) fun m hm => hrt _ _ (k m _ ((hS2.trans hS3).trans (same_new hm)) ⟨"ring", _, upd_same, by decide +kernel⟩)
            | false =>
              have hnv : x ∉ (t.sub σm).vars := fun z => by
                have := hb3.mpr z
                cases this
              have hst := hst3 ht2 hnv
              refine s_if (rdT_test (rd_neF (rd_var rfl) (rd_var rfl) (hS3 _ _ e1) (hS3 _ _ e2) hfl)) (fun _ => ?_) fun z => ?_
              · obtain ⟨k1, k2, k3⟩ := hP2
                have k4 := hS3 _ _ k2
                have fn : H f = none := hf
                refine s_dput (rd_var rfl) (rd_var rfl) (rd_second (tm := .any x) (rd_var rfl) (hx.ex (.of hS3))) k4 (by rw [k3.length]; exact szl (by omega)) ?_
                rw [putK_new _ (k3.none hlx)]
                have ex5 : TupEx H3 (upd H3 f (.dK (k1 ++ [(Sum.inr x, .ref a2)]))) := tupex_dk k4
                have exT := (TupEx.of hS3).trans ex5
                refine hnx _ _ ⟨n, Nat.lt_succ_self _, rest, P ++ [(x, t)], us, .ref a1, .ref a2, some (.ref p), rfl, hst, same_mut (hS2.trans hS3) fn, ⟨_, upd_same, (k3.ex exT).snoc (ht.ex exT)⟩, ?_, hR2.ex exT⟩
                rw [upd_ne fq.symm]
                exact hS3 _ _ hq2
              · rw [hb] at z; cases z
        have bindE : ∀ (x : Str) (t : PT), (match bindR x t rest P with
              | .done q => q = r
              | .more st' P' => uniF n st' P' = some r) → (x ∈ (t.sub σm).vars → r = none) ∧ (x ∉ (t.sub σm).vars → uniF n rest (P ++ [(x, t)]) = some r) := fun x t h => by
          unfold bindR at h
          rw [fu] at h
          constructor
          · intro hx
            rw [if_pos hx] at h
            exact (show (none : Option Puts) = r from h).symm
          · intro hx
            rw [if_neg hx] at h
            exact h
        -- two heads
        have heads : ∀ (D : Ends) (t2 : TS), (∀ v H3, Q v H3 → D.rt v H3) → (∀ x, a' ≠ .any x) → (∀ x, b' ≠ .any x) → (hdV a' ≠ hdV b' → r = none) → (hdV a' = hdV b' → ∀ H3, Same H2 H3 → t2 D [some w1, some w2, some (.ref d), some (.ref f), some (.ref q), some (.ref p)] H3) →
            (tIfS (tTest (tOp (rNeF K) (tCall spHead [] E0 (tCons (tVar 0) tNil)) (tCall spHead [] E0 (tCons (tVar 1) tNil)))) (tRet (tTup (tCons (tC (.str "part")) (tCons (tVar 5) (tCons (tCall spHead [] E0 (tCons (tVar 0) tNil)) (tCons (tCall spHead [] E0 (tCons (tVar 1) tNil)) tNil)))))) t2)
              D [some w1, some w2, some (.ref d), some (.ref f), some (.ref q), some (.ref p)] H2 := by
          intro D t2 hrt hna hnb hne heq
          refine x_cl (sp := spHead) (ra_cons (rd_var rfl) ra_nil) ⟨a', w1, rfl, hw1, hna, fun p1 H3 hS3 e1 => ?_⟩
          refine x_cl (sp := spHead) (ra_cons (rd_var rfl) ra_nil) ⟨b', w2, rfl, hw2.ex (.of hS3), hnb, fun p2 H4 hS4 e2 => ?_⟩
          refine ⟨p1, p2, _, _, rfl, rfl, SqT.of (hS4 _ _ e1), SqT.of e2, hdV_flat _ _, _, rfl, ?_⟩
          have hS5 := hS3.trans hS4
          refine ite2 (fun hc => ?_) fun hc => ?_
          · have hn : hdV a' ≠ hdV b' := fun z => by
              rw [decide_eq_true z] at hc
              cases hc
            have hst := hne hn
            subst hst
            refine ⟨.ref p, rfl, ?_⟩
            refine x_cl (sp := spHead) (ra_cons (rd_var rfl) ra_nil) ⟨a', w1, rfl, hw1.ex (.of hS5), hna, fun p3 H5 hS6 e3 => ?_⟩
            refine x_cl (sp := spHead) (ra_cons (rd_var rfl) ra_nil) ⟨b', w2, rfl, hw2.ex (.of (hS5.trans hS6)), hnb, fun p4 H6 hS7 e4 => ?_⟩
            exact ⟨sz (by simp), fun m hm => hrt _ _ (k m _ ((((hS2.trans hS5).trans hS6).trans hS7).trans (same_new hm)) ⟨"part", _, upd_same, by decide +kernel⟩)⟩
          · have he : hdV a' = hdV b' := by
              by_cases z : hdV a' = hdV b'
              · exact z
              · rw [decide_eq_false z] at hc
                exact absurd rfl hc
            exact heq he _ hS5
        cases a' with
        | any x =>
          have hlx := walked_free wa
          refine s_if (rdT_and (b := false) (rdT_test (rd_neS (rd_tag (rd_var rfl) hw1) rd_c)) (fun z => ?_)) (fun z => ?_) fun _ => ?_
          · rw [dec_any] at z; cases z
          · rw [Bool.and_false] at z; cases z
          refine s_if (rdT_test (rd_eqS (rd_tag (rd_var rfl) hw1) rd_c)) (fun _ => ?_) fun z => ?_
          · refine bind _ x b' w1 w2 (fun _ _ h => h) (fun _ _ h => h) hw1 hw2 hlx (by rw [rb']; exact u5) (by rw [rb']; exact u3) (fun e => ?_) (fun ne hv => ?_) fun ne hv => ?_
            · simp only [uniS, if_pos e] at hstep
              exact hstep
            · simp only [uniS, if_neg ne] at hstep
              exact (bindE x b' hstep).1 hv
            · simp only [uniS, if_neg ne] at hstep
              exact (bindE x b' hstep).2 hv
          · rw [dec_any] at z; cases z
        | num i =>
          cases b' with
          | any y =>
            refine s_if (rdT_and (rdT_test (rd_neS (rd_tag (rd_var rfl) hw1) rd_c)) (fun _ => rdT_test (rd_eqS (rd_tag (rd_var rfl) hw2) rd_c))) (fun _ => ?_) fun z => ?_
            · refine ⟨w2, rfl, w1, rfl, w2, w1, rfl, ?_⟩
              refine s_if (rdT_test (rd_eqS (rd_tag (rd_var rfl) hw2) rd_c)) (fun _ => ?_) fun z => ?_
              · exact bind _ y (.num i) w2 w1 (fun _ _ h => h) (fun _ _ h => h) hw2 hw1 (walked_free wb) (by rw [ra']; exact u4) (by rw [ra']; exact u2) (fun e => nomatch e) (fun _ => (bindE y _ hstep).1) (fun _ => (bindE y _ hstep).2)
              · rw [dec_any] at z; cases z
            · rw [dec_num, dec_any] at z; cases z
          | num j =>
            refine s_if (rdT_and (rdT_test (rd_neS (rd_tag (rd_var rfl) hw1) rd_c)) (fun _ => rdT_test (rd_eqS (rd_tag (rd_var rfl) hw2) rd_c))) (fun z => ?_) fun _ => ?_
            · rw [dec_num, dec_num] at z; cases z
            refine s_if (rdT_test (rd_eqS (rd_tag (rd_var rfl) hw1) rd_c)) (fun z => ?_) fun _ => ?_
            · rw [dec_num] at z; cases z
            refine heads _ _ (fun _ _ h => h) (fun _ z => nomatch z) (fun _ z => nomatch z) (fun hn => ?_) fun he H3 hS3 => ?_
            · have hij : i ≠ j := fun z => hn (by rw [z])
              simp only [uniS, if_neg hij] at hstep
              exact hstep.symm
            · have hij : i = j := by
                injection he with _ he
                injection he with he _
                injection he with he
              simp only [uniS, if_pos hij] at hstep
              refine s_if (rdT_test (rd_eqS (rd_tag (rd_var rfl) (hw1.ex (.of hS3))) rd_c)) (fun z => ?_) fun _ => ?_
              · rw [dea_num] at z; cases z
              exact ⟨n, Nat.lt_succ_self _, rest, P, us, w1, w2, some (.ref p), rfl, hstep, hS2.trans hS3, hP2.same hS3, hS3 _ _ hq2, hR2.ex (.of hS3)⟩
          | app g ls =>
            refine s_if (rdT_and (rdT_test (rd_neS (rd_tag (rd_var rfl) hw1) rd_c)) (fun _ => rdT_test (rd_eqS (rd_tag (rd_var rfl) hw2) rd_c))) (fun z => ?_) fun _ => ?_
            · rw [dec_num, dec_app] at z; cases z
            refine s_if (rdT_test (rd_eqS (rd_tag (rd_var rfl) hw1) rd_c)) (fun z => ?_) fun _ => ?_
            · rw [dec_num] at z; cases z
            refine heads _ _ (fun _ _ h => h) (fun _ z => nomatch z) (fun _ z => nomatch z) (fun hn => hstep.symm) fun he H3 hS3 => ?_
            injection he with he _
            injection he with he
            exact absurd he (by decide +kernel)
        | app g ks =>
          cases b' with
          | any y =>
            refine s_if (rdT_and (rdT_test (rd_neS (rd_tag (rd_var rfl) hw1) rd_c)) (fun _ => rdT_test (rd_eqS (rd_tag (rd_var rfl) hw2) rd_c))) (fun _ => ?_) fun z => ?_
            · refine ⟨w2, rfl, w1, rfl, w2, w1, rfl, ?_⟩
              refine s_if (rdT_test (rd_eqS (rd_tag (rd_var rfl) hw2) rd_c)) (fun _ => ?_) fun z => ?_
              · exact bind _ y (.app g ks) w2 w1 (fun _ _ h => h) (fun _ _ h => h) hw2 hw1 (walked_free wb) (by rw [ra']; exact u4) (by rw [ra']; exact u2) (fun e => nomatch e) (fun _ => (bindE y _ hstep).1) (fun _ => (bindE y _ hstep).2)
              · rw [dec_any] at z; cases z
            · rw [dec_app, dec_any] at z; cases z
          | num j =>
            refine s_if (rdT_and (rdT_test (rd_neS (rd_tag (rd_var rfl) hw1) rd_c)) (fun _ => rdT_test (rd_eqS (rd_tag (rd_var rfl) hw2) rd_c))) (fun z => ?_) fun _ => ?_
            · rw [dec_app, dec_num] at z; cases z
            refine s_if (rdT_test (rd_eqS (rd_tag (rd_var rfl) hw1) rd_c)) (fun z => ?_) fun _ => ?_
            · rw [dec_app] at z; cases z
            refine heads _ _ (fun _ _ h => h) (fun _ z => nomatch z) (fun _ z => nomatch z) (fun hn => hstep.symm) fun he H3 hS3 => ?_
            injection he with he _
            injection he with he
            exact absurd he (by decide +kernel)
          | app g2 ls =>
            refine s_if (rdT_and (rdT_test (rd_neS (rd_tag (rd_var rfl) hw1) rd_c)) (fun _ => rdT_test (rd_eqS (rd_tag (rd_var rfl) hw2) rd_c))) (fun z => ?_) fun _ => ?_
            · rw [dec_app, dec_app] at z; cases z
            refine s_if (rdT_test (rd_eqS (rd_tag (rd_var rfl) hw1) rd_c)) (fun z => ?_) fun _ => ?_
            · rw [dec_app] at z; cases z
            refine heads _ _ (fun _ _ h => h) (fun _ z => nomatch z) (fun _ z => nomatch z) (fun hn => ?_) fun he H3 hS3 => ?_
            · have hij : ¬ (g = g2 ∧ ks.length = ls.length) := fun z => hn (by
                show [V.str "app", .str g, .int (ks.length : Int)] = [V.str "app", .str g2, .int (ls.length : Int)]
                rw [z.1, z.2])
              simp only [uniS, if_neg hij] at hstep
              exact hstep.symm
            · have hij : g = g2 ∧ ks.length = ls.length := by
                injection he with _ he
                injection he with he1 he2
                injection he1 with he1
                injection he2 with he2 _
                injection he2 with he2
                exact ⟨he1, Int.ofNat.inj he2⟩
              simp only [uniS, if_pos hij] at hstep
              have hw1' := hw1.ex (.of hS3)
              have hw2' := hw2.ex (.of hS3)
              refine s_if (rdT_test (rd_eqS (rd_tag (rd_var rfl) hw1') rd_c)) (fun _ => ?_) fun z => ?_
              · have two : ks.length ≤ 2 := by
                  rw [← ra', Tm.sub_app] at u4
                  have := u4.two
                  rw [List.length_map] at this
                  exact this
                refine ⟨.ref q, rfl, .inl ⟨rfl, _, SqL.of (hS3 _ _ hq2)⟩, ?_⟩
                refine x_cl (sp := spKids) (ra_cons (rd_var rfl) (ra_cons (rd_var rfl) (ra_cons (rd_var rfl) ra_nil))) ⟨p, pth, g, g2, ks, ls, w1, w2, rfl, hS3 _ _ hp2, by omega, hw1', hw2', hij.2, two, fun e3 us3 H4 hS4 he3 hus3 hrows => ?_⟩
                have hq4 := hS4 _ _ (hS3 _ _ hq2)
                have hl3 := hrows.length
                rw [List.length_reverse, List.length_map, List.length_zip] at hl3
                refine ⟨q, e3, us, us3, rfl, rfl, hq4, hus3, sz (by omega), ?_⟩
                have hS5 := (hS2.trans hS3).trans hS4
                have ex5 : TupEx H4 (upd H4 q (.lst (us ++ us3))) := tupex_ls hq4
                have ex6 := ((TupEx.of hS3).trans (.of hS4)).trans ex5
                refine ⟨n, Nat.lt_succ_self _, (ks.zip ls).map (fun u => (dp + 1, u.1, u.2)) ++ rest, P, us ++ us3, w1, w2, some (.ref p), rfl, hstep, same_mut hS5 hqn, ?_, upd_same, ?_⟩
                · obtain ⟨k1, k2, k3⟩ := hP2
                  exact ⟨k1, by rw [upd_ne fq]; exact hS4 _ _ (hS3 _ _ k2), k3.ex ex6⟩
                · rw [List.reverse_append]
                  rw [hpl] at hrows
                  exact (hR2.ex ex6).append (hrows.ex ex5)
              · rw [dea_app] at z; cases z
    · cases st with
      | nil =>
        have e := uniF_nil hun
        subst e
        refine x_tup (ra_cons rd_c (ra_cons (rd_var rfl) ra_nil)) (sz (by simp)) fun m hm => k m _ (hS.trans (same_new hm)) ⟨f, upd_same, hP.same (same_new hm)⟩
      | cons i rest =>
        rw [hlen] at hz
        cases hz
end
end G35

/-! GExc1 -/
set_option Elab.async false
set_option linter.all false
set_option maxRecDepth 100000
set_option maxHeartbeats 4000000
/-! try .. except C as n .. else; an own exception made by walked __init__s. -/
namespace G35
open PySem PySem.Spec PyProof.Rows L2
section
variable {X : Cx} {x n : Str} {c : Value} {i : Nat} {body suite els : List Stmt} {b0 : Stmt} {np pos pos' : Pos} {tb : WX → TS} {ts : Addr → Value → Option Addr → TS} {te : TS} {Wo : WX}
theorem try_asE (ho : PSs X els te) (hs : X.stack = X.env :: X.outer) (hf : X.env.frame = some X.env.locals) (hN : X.N.Nodup) (hi : X.N[i]? = some n) (hln : X.env.kindOf n = some .local) (hc : Names X x c) (tk : L2N.Takes X Wo)
    (hb : ∀ (W : WX) (pn : List (Addr × Obj)) (xe : Value → Shared → Prop), L2N.Takes (X.tr pn xe) W → PassesOwn (model X.prog X.w) X.A X.env xe → PSs (X.tr pn xe) body (tb W))
    (hsu : ∀ (a : Addr) (oe : Obj) (cls : Value) (d : Option Addr) (pn : List (Addr × Obj)), L2N.Zn cls d oe → (∃ vs, oe.data = .fields vs) → PSs (X.suite a ((a, oe) :: pn)) (b0 :: suite) (ts a cls d)) :
    PS X (.Try body [.ExceptHandler (some (.Name x np)) (some n) (b0 :: suite) pos'] els [] pos) (fun D σ H => tb (wAs X.K c i ts Wo D) { D with nx := te D } σ H) := by
  refine ⟨fun pins s σ H D I h => ?_⟩
  have ok := I.ok
  have frm : X.A.frames = some (X.env :: X.outer) := by rw [ok.frames, hs]
  refine wpAny_Try_except (wpAny_mono ((hb (wAs X.K c i ts Wo D) (X.pn ++ pins) (fun e s1 => wpAny (model X.prog X.w) X.A (noteFrame e X.env) (fun _ s2 => wpAny (model X.prog X.w) X.A (setFlight e none) (fun _ s3 =>
    wpAny (model X.prog X.w) X.A (handleBy e X.env [.ExceptHandler (some (.Name x np)) (some n) (b0 :: suite) pos']) (SP X pins D) X.xe s3) X.xe s2) X.xe s1) (fun u s' air => ?_) PassesOwn.looking).run [] s σ H { D with nx := te D } (I.toTry _) h) (fun fl s1 out => ?_) (fun _ _ z => z))
  · obtain ⟨a, B, sI, pins2, σ2, H2, cls, d, rfl, Jt, grd, ups, sky, na, eo, bare, b, exq, yes, no⟩ := air
    have J : Inv X pins σ2 H2 sI := Jt.ofTry ok
    rw [show X.stack = X.env :: X.outer from hs] at sky
    refine L2N.Sky.land L2N.Zn.steady frm hf sky fun g1 fly1 up1 => ?_
    have J1 : Inv X pins σ2 H2 { s' with heap := g1 } := J.landed grd fly1.1 (ups.trans up1) eo bare
    obtain ⟨o1, v1, ho1, hz1, hd1⟩ := fly1.there
    have notIn : a ∉ frs (X.env :: X.outer) := fun hm => by
      obtain ⟨_, o', e', nf⟩ := fly1.2.2.1.mem hm
      rw [ho1] at e'
      cases e'
      exact nf _ hd1
    have nL : a ≠ X.env.locals := fun z => notIn (List.mem_filterMap.mpr ⟨X.env, List.mem_cons_self, by rw [hf, z]⟩)
    have nF : a ∉ X.fs := fun hm => by
      obtain ⟨e, he, q⟩ := List.mem_filterMap.mp hm
      exact notIn (List.mem_filterMap.mpr ⟨e, List.mem_cons_of_mem _ he, q⟩)
    have S1 := J1.suite ho1 hd1 na nL nF
    refine wpAny_handleBy_cons (codeAny_handlers_test ?_) (by intro q; cases q)
    have ofCls : PySem.W.Looks (model X.prog X.w) g1 (typeOf (.ref a)) cls := fun A Q E s k q => wpAny_typeOf_ref (k _ _ ho1) (by rw [hz1.1]; exact q)
    have hit := PySem.W.exm_one (M := model X.prog X.w) (J1.kIn) ofCls exq
    have named : ∀ {Q : Value → Shared → Prop} {E : Value → Shared → Prop}, Q c { s' with heap := g1 } → wpAny (model X.prog X.w) (X.A.mark (some (.ref a))) (eval (.Name x np) X.env) Q E { s' with heap := g1 } := fun {Q E} q => by
      obtain ⟨hg, hdbg, hm | ⟨hm, hv, hnn⟩⟩ := hc
      · exact ld_glob (X := X.suite a ((a, o1) :: (X.pn ++ pins))) S1 hg hm q hdbg
      · exact ld_blt (X := X.suite a ((a, o1) :: (X.pn ++ pins))) S1 hg hm hv q hnn hdbg
    refine named (hit.here ?_)
    cases b with
    | true =>
      refine codeAny_handlers_suite_as (HandSPX.lands_againZ fly1 fun g2 fly2 up2 => ?_)
      have J2 : Inv X pins σ2 H2 { s' with heap := g2 } := J.landed grd fly2.1 ((ups.trans up1).trans up2) eo bare
      obtain ⟨o2, v2, ho2, hz2, hd2⟩ := fly2.there
      refine store_ok (X := X.suite a ((a, o2) :: (X.pn ++ pins))) (v := .ref a) (J2.suite ho2 hd2 na nL nF) hN hi (.inl hln) rfl (fun s5 S5 => ?_) (.inr hln)
      refine wpAny_mono ((hsu a o2 cls d (X.pn ++ pins) hz2 ⟨_, hd2⟩).run [] s5 _ H2 _ S5 (yes rfl a na)) (fun fl s6 out => ?_) (fun _ _ z => False.elim z)
      have gone : ∀ {σ6 : L2.St} {H6 : Hp} {Q : Shared → Prop}, Inv (X.suite a ((a, o2) :: (X.pn ++ pins))) [] σ6 H6 s6 → (∀ s7, Inv X pins (σ6.set i none) H6 s7 → Q s7) →
          wpAny (model X.prog X.w) X.A (do bindName X.env n .none; unbindBehindTheSuite X.env n pos') (fun _ s7 => Q s7) X.xe s6 := fun {σ6 H6 Q} S6 hq => gone_ok (S6.unsuite ok) hN hi hln hq
      cases fl with
      | next => obtain ⟨σ6, H6, S6, q6⟩ := out; exact gone S6 fun s7 J7 => ⟨_, _, J7, q6⟩
      | brk => obtain ⟨σ6, H6, S6, q6⟩ := out; exact gone S6 fun s7 J7 => ⟨_, _, J7, q6⟩
      | cont => obtain ⟨σ6, H6, S6, q6⟩ := out; exact gone S6 fun s7 J7 => ⟨_, _, J7, q6⟩
      | ret u => obtain ⟨v6, σ6, H6, S6, r6, q6⟩ := out; exact gone S6 fun s7 J7 => ⟨_, _, _, J7, r6, q6⟩
    | false =>
      show wpAny _ X.A (handleBy (.ref a) X.env []) _ _ _
      refine wpAny_handleBy_nil ?_
      obtain ⟨_, _, _, oe, vs, T, oT, tsv, he, hz, hd, h1, hr⟩ := id fly1
      unfold PySem.passOn
      refine wpAny_bind (wpAny_field he hd h1 ?_)
      rw [if_neg (show ¬ ((Value.ref T == Value.none) = true) from by simp)]
      have up : wpAny (model X.prog X.w) X.A (setFlight (.ref a) X.env.frame) (fun _ s4 => wpAny (model X.prog X.w) X.A (throw (.ref a) : Sem Flow) (SP X pins D) X.xe s4) X.xe { s' with heap := g1 } := by
        rw [hf]
        refine HandSPX.setFlight_upZ fly1 fun g3 held up3 => wpAny_throw (tk _ _ ⟨a, B, sI, pins, σ2, H2, cls, d, rfl, J, grd, (ups.trans up1).trans up3, .inr (.inr (by rw [hs]; exact held)), na, eo, bare, no rfl⟩)
      first
        | exact wpAny_bind (wpAny_pure (wpAny_bind up))
        | exact wpAny_bind up
  · cases fl with
    | next =>
      obtain ⟨σ2, H2, J, q⟩ := out
      exact ho.run pins s1 σ2 H2 D (J.ofTry ok) q
    | brk => obtain ⟨σ2, H2, J, q⟩ := out; exact ⟨σ2, H2, J.ofTry ok, q⟩
    | cont => obtain ⟨σ2, H2, J, q⟩ := out; exact ⟨σ2, H2, J.ofTry ok, q⟩
    | ret u => obtain ⟨v, σ2, H2, J, r, q⟩ := out; exact ⟨v, σ2, H2, J.ofTry ok, r, q⟩
end
section
variable {X : Cx} {e : Expr} {es : List Expr} {ta : TA} {p p1 p2 pos : Pos}
/-- C(e, ..), C's own __init__ walked; the new exception's context is None -/
theorem pmkN {CX : CXT} {x : Str} {C fI : Addr} {k : Nat} {fd : FuncData} {ps : List Str} {sp : Sp} {ds : List Value} {dvs : List V} (T : OexC X.K C) (iC : PySem.W.findIn X.K (.ref C) "__init__" = some (some (.ref fI))) (tI : PySem.W.typeIn X.K (.ref fI) = some (.type "function"))
    (F1 : FnOk X.prog X.w X.K X.mg X.base CX k fI fd ps sp) (hr : Room (k + 1) X.A) (hb : Binds X.K fd ps ds) (hd : Vals dvs ds) (hx : Passes CX X (fun _ _ _ => False)) (hg : Gl X x) (hm : X.mg x = some (.ref C)) (ha : PA X (e :: es) ta)
    (hdb : (x == ("__debug__" : Str)) = false := by decide) (he : starEach (e :: es) X.env = (false, eval e X.env) :: starEach es X.env := by rfl) (hpl : (backTo pos (starEach es X.env)).any (·.1) = false := by rfl) :
    L2N.PMk X (.Call (.Name x p) (e :: es) [] pos) (tMkO C sp dvs ta) := by
  intro pins s σ H Q I h
  obtain ⟨nm, q, N, bs, bm, sn, sub, ab, col, dd, k0, k1, k2, k3, k5, hC, hbm⟩ := T.cls
  refine wpAny_Call_Name_kw (ld_glob I hg hm (PySem.W.callWith_K (h₀ := X.base) I.ok.mod.kin T.kC (thn (ha.run pos pins s σ H _ I h) fun us s1 ⟨vs, H1, I1, r1, hz, q1⟩ => ⟨I1.kIn, ?_⟩) he hpl) hdb)
  show wpAny _ _ (call (.ref C) us) _ _ _
  obtain ⟨hp, g, dr, tk, os⟩ := s1
  have up1 : hp.objs.size ≤ hp.objs.size + 1 := Nat.le_succ _
  have spq := q1 (hp.objs.size + 1) (I1.hok.fresh up1)
  have stay : ∀ b o, hp.get? b = some o → ((hp.push (PySem.W.kdv_tup us)).push (PySem.HandSPX.excO C hp.objs.size)).get? b = some o := fun b o e => Heap.get?_push_of_some _ (Heap.get?_push_of_some _ e)
  have mine : ((hp.push (PySem.W.kdv_tup us)).push (PySem.HandSPX.excO C hp.objs.size)).get? (hp.objs.size + 1) = some (PySem.HandSPX.excO C hp.objs.size) := by heap_get
  have I2 : Inv X pins σ (upd H1 (hp.objs.size + 1) (exo (hp.objs.size + 1) C none)) ⟨(hp.push (PySem.W.kdv_tup us)).push (PySem.HandSPX.excO C hp.objs.size), g, dr, tk, os⟩ := I1.laid (t' := tk) stay up1 (exo_ok mine)
  have rels : Vals (V.ref (hp.objs.size + 1) :: (vs ++ dvs)) (Value.ref (hp.objs.size + 1) :: (us ++ ds)) := .cons rfl (r1.append hd)
  have len1 : (Value.ref (hp.objs.size + 1) :: us ++ ds).length = ps.length := by
    have e := rels.length
    rw [F1.len _ _ _ _ spq] at e
    exact e.symm
  have len2 : us.length ≤ sizeLine := by
    rw [← Paired.length r1, sizeLine_eq]
    omega
  refine wpAny_call (PySem.HandSPX.call_own F.excBase_ValueError (fun Y => PySem.HandSPX.refsVE_contains Y bm hbm) (I1.kIn _ _ hC) (PySem.W.looks_findIn I1.kIn iC) (fun self => PySem.W.bind_fn I1.kIn self tI) len2
    (codeAny_mono (F1.run _ X.stack _ _ ⟨Value.ref (hp.objs.size + 1) :: us, []⟩ (Value.ref (hp.objs.size + 1) :: (us ++ ds)) _ _ (fun _ _ _ => False) (hr.make C us []) (I2.env0.make C us []) (hb _ (Value.ref (hp.objs.size + 1) :: us) I2.kIn len1) rels spq) fun r s' out => ?_))
  cases r with
  | error er => exact hx pins σ _ _ er s' I2 out
  | ok fl =>
    cases fl with
    | ret u =>
      obtain ⟨v, H2, os2, bare2, un2, hok2, rv, ev, d, fs, ea, ed, hd1, q2⟩ := out
      subst ev
      obtain ⟨h2, g2, d2, t2, os'⟩ := s'
      obtain ⟨t0, G, J, kG, ge, hoe, na⟩ := mk_end0 (d2 := d2) (t2 := t2) I1 up1 stay un2 hok2 os2 bare2 ea ed hd1
      exact ⟨rv, _, _, _, ⟨G, g2, d2, t2, os'⟩, _, .ref C, some d, rfl, J, kG, ge, hoe, ⟨rfl, rfl, fun vs e => by cases e; rfl⟩, rfl, rfl, na, rfl, bare2, raises_own T.exC T.tyC, q2⟩
    | next => exact False.elim out
    | brk => exact False.elim out
    | cont => exact False.elim out
/-- C.__init__(e, ..), C a class of the text -/
theorem pe_cinit {CX : CXT} {x m : Str} {C f : Addr} {k : Nat} {fd : FuncData} {ps : List Str} {sp : Sp} {ds : List Value} {dvs : List V} {E : XK} {pl : Sem Bool} (hg : Gl X x) (hm : X.mg x = some (.ref C)) (rd : PySem.W.readsIn X.K C (.type "type") = true)
    (ga : PySem.W.specialIn X.K (.ref C) "__getattribute__" = some (some (.builtin "type.__getattribute__"))) (at_ : PySem.W.findCls X.K (.ref C) (.type "type") m = some (.val (.ref f))) (kp : PySem.W.keepIn X.K (.ref f) = true)
    (F : FnOk X.prog X.w X.K X.mg X.base CX k f fd ps sp) (hr : Room k X.A) (hb : Binds X.K fd ps ds) (hd : Vals dvs ds) (hx : Passes CX X E) (ha : PA X (e :: es) ta) (hdb : (x == ("__debug__" : Str)) = false := by decide)
    (hc : eval (.Call (.Attribute (.Name x p1) m p2) (e :: es) [] pos) X.env = (do
      let ov ← eval (.Name x p1) X.env
      standAt p2.atName
      let (f, first) ← holding [ov] (getMethod ov m pl)
      callWith pos f first (backTo pos (starEach (e :: es) X.env)) (backToKw pos (keywordEach [] X.env))) := by rfl)
    (he : starEach (e :: es) X.env = (false, eval e X.env) :: starEach es X.env := by rfl) (hpl : (backTo pos (starEach es X.env)).any (·.1) = false := by rfl) :
    PE X (.Call (.Attribute (.Name x p1) m p2) (e :: es) [] pos) (tCall sp dvs E ta) := by
  refine ⟨fun pins s σ H Q I h => ?_⟩
  refine PySem.W.methodCall_KW (pl := pl) (ld_glob I hg hm ?_ hdb) hc
  refine PySem.W.method_cls I.kIn ga (PySem.W.cls_value I.kIn rd at_ (by rfl) ?_)
  refine PySem.W.callWith_K (first := []) (h₀ := X.base) I.ok.mod.kin kp (thn (ha.run pos pins _ σ H _ (I.tok _) h) fun us s1 ⟨vs, H1, I1, r, q⟩ => ⟨I1.kIn, ?_⟩) he hpl
  exact run_fn F hr hb hd hx I1 r q
end
end G35

/-! GExc2 -/
set_option Elab.async false
set_option linter.all false
set_option maxRecDepth 100000
set_option maxHeartbeats 4000000
namespace G35
open PySem PySem.Spec PyProof.Rows L2
/-- what the top says of the errors -/
structure E36 (K : PySem.W.Frag) (mg : Str → Option Value) : Prop where
  oF : OexC K (He.ga K "Fault")
  iF : PySem.W.findIn K (.ref (He.ga K "Fault")) "__init__" = some (some (.ref (He.ma K (He.ga K "Fault") "__init__")))
  tF : PySem.W.typeIn K (.ref (He.ma K (He.ga K "Fault") "__init__")) = some (.type "function")
  rdT : PySem.W.readsIn K (He.ga K "TrailError") (.type "type") = true
  gaT : PySem.W.specialIn K (.ref (He.ga K "TrailError")) "__getattribute__" = some (some (.builtin "type.__getattribute__"))
  atT : PySem.W.findCls K (.ref (He.ga K "TrailError")) (.type "type") "__init__" = some (.val (.ref (He.ma K (He.ga K "TrailError") "__init__")))
  vV : PySem.W.findCls K (.type "ValueError") (.type "type") "__init__" = some (.val (.builtin "ValueError.__init__"))
  rowF : PySem.W.findIn K (.ref (He.ga K "Fault")) "row" = some none
  wordF : PySem.W.findIn K (.ref (He.ga K "Fault")) "word" = some none
  exF : PySem.W.exmOne K (.ref (He.ga K "Fault")) (.ref (He.ga K "Fault")) = some true
  xf : XfC K (He.ga K "Fault")
/-- TrailError.__init__(self, words, row) of an error that is being made -/
def spTE (K : PySem.W.Frag) : Sp := fun vs H Q _ => ∃ (a C : Addr) (y r : V), vs = [.ref a, y, r] ∧ OexC K C ∧ H a = some (exo a C none) ∧ PySem.W.findIn K (.ref C) "row" = some none ∧
  ∀ dx, H dx = none → dx ≠ a → Q .non (upd (upd H dx (exd dx [("row", r)])) a (exo a C (some dx)))
def spFa (K : PySem.W.Frag) : Sp := fun vs H Q _ => ∃ (a C : Addr) (w : V), vs = [.ref a, w] ∧ OexC K C ∧ H a = some (exo a C none) ∧ PySem.W.findIn K (.ref C) "row" = some none ∧ PySem.W.findIn K (.ref C) "word" = some none ∧
  ∀ dx, H dx = none → dx ≠ a → Q .non (upd (upd (upd H dx (exd dx [("row", .int 0)])) a (exo a C (some dx))) dx (exd dx [("word", w), ("row", .int 0)]))
section
variable {P : Program} {w : World} {K : PySem.W.Frag} {mg : Str → Option Value} {base : Heap}
theorem sc_te : FnScope ["self", "words", "row"] ["self", "words", "row"] d_TrailError_init.scope := ⟨rfl, rfl, rfl, by decide +kernel, rfl, by decide +kernel, by decide +kernel⟩
theorem sc_fa : FnScope ["self", "word"] ["self", "word"] d_Fault_init.scope := ⟨rfl, rfl, rfl, by decide +kernel, rfl, by decide +kernel, by decide +kernel⟩
theorem ok_te (T : T35 K mg) (E6 : E36 K mg) : ∃ (fd : FuncData) (ds : List Value), FnOk P w K mg base CX0 1 (He.ma K (He.ga K "TrailError") "__init__") fd ["self", "words", "row"] (spTE K) ∧ Binds K fd ["self", "words", "row"] ds ∧ Vals [V.int 0] ds ∧ PySem.W.keepIn K (.ref (He.ma K (He.ga K "TrailError") "__init__")) = true := by
  obtain ⟨⟨fd, F⟩, _⟩ := T.def_ 0 d_TrailError_init rfl
  have e1 : d_TrailError_init.dvs K = [V.int 0] := rfl
  rw [e1] at F
  have b := FunD.binds1 (ps := ["self", "words", "row"]) F 2 0 (by simp) rfl (fun T' kV doc pm an cdv ct us its h1 h2 => ?_)
  · obtain ⟨ds, v, b⟩ := b
    refine ⟨fd, ds, F.ok sc_te (fun vs H Q E h => ?_) fun cdv A outer s H vs Q E hr h => ?_, b, v, F.kp⟩
    · obtain ⟨a, C, y, r, rfl, _⟩ := h
      rfl
    · obtain ⟨a, C, y, r, rfl, o, ha, hn, k⟩ := h
      refine ⟨_, PSs.nox (pss_cons (ps_expr (pe_veinit rfl (T.free 15 _ rfl) E6.vV (pa_cons (pv 0) (pa_cons (pv 1) pa_nil)))) (pss_one (ps_ost (pv 0) (pv 2)))), ?_⟩
      refine ⟨.ref a, rfl, y, rfl, a, C, [y], rfl, by simp, o, ha, ?_⟩
      exact ⟨r, rfl, .ref a, rfl, a, C, rfl, o, hn, .inl ⟨ha, fun dx h1 h2 => k dx h1 h2⟩⟩
  · match us, h1, its, h2 with
    | [_, _], _, [_], _ => exact ⟨_, rfl, rfl⟩
theorem ok_fa (T : T35 K mg) (E6 : E36 K mg) : ∃ fd : FuncData, FnOk P w K mg base CX0 2 (He.ma K (He.ga K "Fault") "__init__") fd ["self", "word"] (spFa K) ∧ Binds K fd ["self", "word"] [] := by
  obtain ⟨fd0, ds0, F0, b0, v0, k0⟩ := ok_te (P := P) (w := w) (base := base) T E6
  obtain ⟨⟨fd, F⟩, _⟩ := T.def_ 1 d_Fault_init rfl
  have e1 : d_Fault_init.dvs K = [] := rfl
  rw [e1] at F
  refine ⟨fd, F.ok sc_fa (fun vs H Q E h => ?_) fun cdv A outer s H vs Q E hr h => ?_, F.bindsN fun _ _ _ _ _ _ us hl => match us, hl with | [_, _], _ => rfl⟩
  · obtain ⟨a, C, w, rfl, _⟩ := h
    rfl
  · obtain ⟨a, C, w', rfl, o, ha, hn, hn2, k⟩ := h
    refine ⟨_, PSs.nox (pss_cons (ps_expr (pe_cinit (E := E0) rfl (T.glo 0 _ rfl) E6.rdT E6.gaT E6.atT k0 F0 hr b0 v0 pass0 (pa_cons (pv 0) (pa_cons pe_str pa_nil)))) (pss_one (ps_ost (pv 0) (pv 1)))), ?_⟩
    refine ⟨.ref a, rfl, a, C, _, .int 0, rfl, o, ha, hn, fun dx h1 h2 => ?_⟩
    refine ⟨w', rfl, .ref a, rfl, a, C, rfl, o, hn2, .inr ⟨dx, [("row", .int 0)], upd_same, ?_, by simp, k dx h1 h2⟩⟩
    rw [upd_ne h2]
    exact upd_same
end
/-- what is wished where a Fault with the word w leaves -/
def EFa (K : PySem.W.Frag) (w : Str) (H : Hp) (E : XK) : Prop := ∀ (d : Addr) (H' : Hp), Same H H' → H d = none → H' d = some (.xd [("word", .str w), ("row", .int 0)]) → E (.ref (He.ga K "Fault")) (some d) H'
theorem EFa.ex {K : PySem.W.Frag} {w : Str} {H H1 : Hp} {E : XK} (h : EFa K w H E) (s : Same H H1) : EFa K w H1 E := fun d H' s' n e => h d H' (s.trans s') (s.free n) e
def tFault (K : PySem.W.Frag) (wd : Str) (W : WX) : TS := fun _ σ H => EFa K wd H fun cls d H' => W cls d σ H'
/-- raise Fault(w) -/
theorem ps_fault {X : Cx} {W : WX} {wd : Str} {j : Nat} {p p2 pos pos' : Pos} (T : T35 X.K X.mg) (E6 : E36 X.K X.mg) {k : Nat} (hc : X.calm = true) (hr : Room k X.A) (hk : 3 ≤ k) (tk : L2N.Takes X W) (hg : Gl X "Fault") :
    PS X (.Raise (some (.Call (.Name "Fault" p) [.Constant (.str wd) j p2] [] pos)) none pos') (tFault X.K wd W) := by
  obtain ⟨fd, F, b⟩ := ok_fa (P := X.prog) (w := X.w) (base := X.base) T E6
  have base := L2N.ps_raise (pos := pos') hc tk (pmkN (p := p) (pos := pos) E6.oF E6.iF E6.tF F (hr.mono hk) b .nil (fun _ _ _ _ _ _ _ h => h.elim) hg (T.glo 2 _ rfl) (pa_cons (pe_str (x := wd) (j := j) (pos := p2)) pa_nil))
  refine ⟨fun pins s σ H D I h => base.run pins s σ H D I ?_⟩
  have h : EFa X.K wd H fun cls d H' => W cls d σ H' := h
  refine ⟨by simp, fun a ha => ?_⟩
  refine ⟨a, He.ga X.K "Fault", .str wd, rfl, E6.oF, upd_same, E6.rowF, E6.wordF, fun dx hdx hne => ⟨rfl, dx, [("word", .str wd), ("row", .int 0)], ?_, upd_same, ?_, ?_⟩⟩
  · rw [upd_ne hne.symm]
    exact upd_same
  · rw [upd_ne hne] at hdx
    exact hdx
  · rw [upd_ne hne] at hdx
    refine h dx _ (fun q u hq => ?_) hdx upd_same
    have n1 : q ≠ dx := ne_of_none hq hdx
    have n2 : q ≠ a := ne_of_none hq ha
    rw [upd_ne n1, del_ne n2, upd_ne n1, upd_ne n2, upd_ne n1, upd_ne n2]
    exact hq
end G35

/-! GW9 -/
set_option Elab.async false
set_option linter.all false
set_option maxRecDepth 100000
set_option maxHeartbeats 4000000
namespace G35
open PySem PySem.Spec PyProof.Rows L2
/-! ### defs that may raise -/
abbrev ClE (P : Program) (w : World) (K : PySem.W.Frag) (mg : Str → Option Value) (base : Heap) (k : Nat) (x : Str) (ps : List Str) (sp : Sp) : Prop := Cl P w K mg base (L2N.CX P w) k x ps sp
theorem pe_clE {X : Cx} {W : WX} {k j : Nat} {x : Str} {ps : List Str} {sp : Sp} {p pos : Pos} {e : Expr} {es : List Expr} {t : TA} (c : ClE X.prog X.w X.K X.mg X.base k x ps sp) (tk : L2N.Takes X W) (hr : Room j X.A) (hk : k ≤ j) (hg : Gl X x) (ha : PA X (e :: es) t)
    (hdb : (x == ("__debug__" : Str)) = false := by decide) (he : starEach (e :: es) X.env = (false, eval e X.env) :: starEach es X.env := by rfl) (hpl : (backTo pos (starEach es X.env)).any (·.1) = false := by rfl) :
    PE X (.Call (.Name x p) (e :: es) [] pos) (tCallS sp (WE W) t) := by
  obtain ⟨fd, F, b⟩ := c.ex
  exact pe_callS F (hr.mono hk) hg c.mgx c.kp b (fun σ => L2N.passAt tk σ) ha hdb he hpl
theorem clE_of {P : Program} {w : World} {K : PySem.W.Frag} {mg : Str → Option Value} {base : Heap} {d : He.DefD} {x : Str} {k : Nat} {N ps : List Str} {sp : Sp} (T : T35 K mg) (i : Nat) (hi : fn[i]? = some d) (hx : d.at_ = (x, none)) (hd : d.dfl = []) (hk : d.kwd = [])
    (S : FnScope N ps d.scope) (len : ∀ vs H Q E, sp vs H Q E → vs.length = ps.length)
    (hb : ∀ (kV doc pm : Value) (an : Option Addr) (cdv ct : Value) (us : List Value), us.length = ps.length → bindArgs (PySem.W.fnOf d.name d.qual d.params d.body d.scope .none kV doc pm an cdv ct) ⟨us, []⟩ = pure (ps.zip us))
    (hbody : ∀ (cdv : Value) (A : Around) (outer : List Env) (s : Shared) (H : Hp) (vs : List V) (Q : VK) (E : XK), Room k (A.deeper (envOfC d.qual d.scope s.heap.objs.size (He.ga K x) cdv)) → L2N.Takes (cxOf (L2N.CX P w) P w K mg base N d.qual d.scope (He.ga K x) cdv A outer s H E) (fun cls d _ H => E cls d H) → sp vs H Q E →
      ∃ t, PSs (cxOf (L2N.CX P w) P w K mg base N d.qual d.scope (He.ga K x) cdv A outer s H E) d.body t ∧ t { nx := fun _ H' => Q .non H', rt := Q } (L2.start N vs) H) : ClE P w K mg base (k + 1) x ps sp := by
  obtain ⟨⟨fd, F⟩, g⟩ := T.def_ i d hi
  have e : He.fAd K d.at_ = He.ga K x := by rw [hx]; rfl
  rw [e] at F
  have g2 : mg x = some (.ref (He.ga K x)) := by
    have := g (by rw [hx])
    rw [hx] at this
    exact this
  have e1 : d.dvs K = [] := by unfold He.DefD.dvs; rw [hd]; rfl
  rw [e1] at F
  exact ⟨⟨fd, F.ok S len fun cdv A outer s H vs Q E hr hsp => hbody cdv A outer s H vs Q E hr (L2N.takes_of rfl rfl rfl rfl) hsp, F.bindsN hb⟩, g2, F.kp⟩
theorem x_clE {σ : L2.St} {H : Hp} {tr : TA} {vs : List V} {Q : VK} {sp : Sp} {W : WX} (h : RdA tr σ H vs) (k : sp vs H Q fun cls d H' => W cls d σ H') : tCallS sp (WE W) tr σ H Q := h _ k
/-! ### done, reckoned -/
def Ans1 (K : PySem.W.Frag) (r : Int ⊕ Str) (H : Hp) (Q : VK) (E : XK) : Prop := match r with
  | .inl n => ∀ H', Same H H' → Q (.int n) H'
  | .inr w => EFa K w H E
def spDone (K : PySem.W.Frag) : Sp := fun vs H Q E => ∃ (f : Str) (a b : Int), vs = [.str f, .int a, .int b] ∧ f ∈ sumW ∧ (0 ≤ a ∧ a ≤ 2) ∧ (0 ≤ b ∧ b ≤ 1) ∧ Ans1 K (doneM f a b) H Q E
def spNum : Sp := fun vs H Q _ => ∃ (i : Int) (v : V), vs = [v] ∧ RepT H (.num i) v ∧ Q (.int i) H
def spReck (K : PySem.W.Frag) : Sp := fun vs H Q E => ∃ (t : PT) (v : V), vs = [v] ∧ RepT H t v ∧ (∀ f ks, t = .app f ks → f ∈ sumW → ∃ a b : Int, ks = [.num a, .num b] ∧ (0 ≤ a ∧ a ≤ 2) ∧ 0 ≤ b ∧ b ≤ 1) ∧ Ans1 K (reck t) H Q E
theorem reck_sum {f : Str} {a b : Int} (hf : f ∈ sumW) : reck (Tm.app f [.num a, .num b] : PT) = doneM f a b := by
  simp only [reck, if_pos hf]
theorem reck_kind {f : Str} {ks : List PT} (hf : f ∉ sumW) : reck (Tm.app f ks : PT) = .inr (Str.ofString "kind") := by
  unfold reck
  split
  next h => cases h
  next h => cases h
  next h =>
    injection h with h1 h2
    rw [← h1, if_neg hf]
  next => rfl
theorem rd_notIn {K : PySem.W.Frag} {σ : L2.St} {H : Hp} {ta tb : TE} {x : V} {a : Addr} {xs : List V} (ha : Rds ta σ H x) (hb : Rds tb σ H (.ref a)) (h : SqT K H a xs) (fx : flatV x = true) (fs : xs.all flatV = true) : Rds (tOp (rIn K true) ta tb) σ H (.bl (!inV x xs)) :=
  rd_op ha hb fun _ q => ⟨a, xs, rfl, .inr h, fx, fs, q⟩
theorem rd_isIn {K : PySem.W.Frag} {σ : L2.St} {H : Hp} {ta tb : TE} {x : V} {a : Addr} {xs : List V} (ha : Rds ta σ H x) (hb : Rds tb σ H (.ref a)) (h : SqT K H a xs) (fx : flatV x = true) (fs : xs.all flatV = true) : Rds (tOp (rIn K false) ta tb) σ H (.bl (inV x xs)) :=
  rd_op ha hb fun _ q => ⟨a, xs, rfl, .inr h, fx, fs, q⟩
theorem inV_strs (f : Str) : ∀ l : List Str, inV (.str f) (l.map V.str) = decide (f ∈ l)
  | [] => rfl
  | g :: l => by
    have ih := inV_strs f l
    unfold inV at ih ⊢
    rw [List.map_cons, List.any_cons, ih]
    show ((g == f) || decide (f ∈ l)) = _
    rw [Bool.eq_iff_iff, Bool.or_eq_true, decide_eq_true_iff, decide_eq_true_iff, List.mem_cons, beq_iff_eq]
    exact ⟨fun z => z.elim (fun e => .inl e.symm) .inr, fun z => z.elim (fun e => .inl e.symm) .inr⟩
theorem decS {a b : Str} : decide (V.str a = V.str b) = decide (a = b) := by
  rw [decide_eq_decide]
  exact ⟨fun z => by injection z, fun z => by rw [z]⟩
section
variable {P : Program} {w : World} {K : PySem.W.Frag} {mg : Str → Option Value} {base : Heap}
theorem sc_done : FnScope ["mark", "left", "right", "often", "over"] ["mark", "left", "right"] d_done.scope := ⟨rfl, rfl, rfl, by decide +kernel, rfl, by decide +kernel, by decide +kernel⟩
theorem sc_reck : FnScope ["term", "left", "right", "found"] ["term"] d_reckoned.scope := ⟨rfl, rfl, rfl, by decide +kernel, rfl, by decide +kernel, by decide +kernel⟩
theorem ok_done (T : T36 K mg) (E6 : E36 K mg) : ClE P w K mg base 4 "done" ["mark", "left", "right"] (spDone K) := by
  refine clE_of (d := d_done) T.t 16 rfl rfl rfl rfl sc_done (fun vs H Q E h => ?_) (fun _ _ _ _ _ _ us hl => match us, hl with | [_, _, _], _ => rfl) (fun cdv A outer s H vs Q E hr tk h => ?_)
  · obtain ⟨f, a, b, rfl, _⟩ := h
    rfl
  · obtain ⟨f, a, b, rfl, hf, ha, hb, k⟩ := h
    refine ⟨_, (pss_cons (ps_if (pt_cmpR op_eq (pv 0) pe_str (nomark _)) (pss_one (ps_ret (pe_op op_add (pv 1) (pv 2)))) pss_nil) (pss_cons (ps_if (pt_cmpR op_eq (pv 0) pe_str (nomark _)) (pss_one (ps_ret (pe_op op_sub (pv 1) (pv 2)))) pss_nil) (pss_cons (ps_if (pt_cmpR op_eq (pv 0) pe_str (nomark _)) (pss_one (ps_ret (pe_op op_mul (pv 1) (pv 2)))) pss_nil) (pss_cons (ps_if (pt_cmpR op_eq (pv 2) pe_int (nomark _)) (pss_one (ps_fault T.t E6 rfl hr (by omega) tk rfl)) pss_nil) (pss_cons (ps_asg (pe_callB call_divmod rfl (T.t.free 6 _ rfl) PyProof.Rows.boot_divmod (pa_cons (pv 1) (pa_cons (pv 2) pa_nil))) (pg_tup (n := 2) rfl (pgs_cons (pg_name (i := 3) sc_done.nd rfl (Or.inl rfl)) (pgs_cons (pg_name (i := 4) sc_done.nd rfl (Or.inl rfl)) pgs_nil)))) (pss_cons (ps_if (pt_cmpR op_eq (pv 0) pe_str (nomark _)) (pss_one (ps_ret (pv 3))) pss_nil) (pss_one (ps_ret (pv 4))))))))), ?_⟩
    refine s_if (rdT_test (rd_eqS (rd_var rfl) rd_c)) (fun z => ?_) fun z1 => ?_
    · rw [decS, decide_eq_true_iff] at z
      have e : doneM f a b = .inl (a + b) := if_pos z
      rw [e] at k
      refine s_ret (rd_I0 (g := fun i j => .int (i + j)) (rd_var rfl) (rd_var rfl)) ?_; exact k H (Same.refl _)
    rw [decS, decide_eq_false_iff_not] at z1
    refine s_if (rdT_test (rd_eqS (rd_var rfl) rd_c)) (fun z => ?_) fun z2 => ?_
    · rw [decS, decide_eq_true_iff] at z
      have e : doneM f a b = .inl (a - b) := (if_neg z1).trans (if_pos z)
      rw [e] at k
      refine s_ret (rd_I0 (g := fun i j => .int (i - j)) (rd_var rfl) (rd_var rfl)) ?_; exact k H (Same.refl _)
    rw [decS, decide_eq_false_iff_not] at z2
    refine s_if (rdT_test (rd_eqS (rd_var rfl) rd_c)) (fun z => ?_) fun z3 => ?_
    · rw [decS, decide_eq_true_iff] at z
      have e : doneM f a b = .inl (a * b) := (if_neg z1).trans ((if_neg z2).trans (if_pos z))
      rw [e] at k
      exact ⟨_, rfl, _, rfl, a, b, rfl, rfl, .inl ⟨by omega, by omega⟩, k H (Same.refl _)⟩
    rw [decS, decide_eq_false_iff_not] at z3
    refine s_if (rdT_test (rd_eqI (rd_var rfl) rd_c)) (fun z => ?_) fun z4 => ?_
    · have z := of_decide_eq_true z
      injection z with z
      have e : doneM f a b = .inr (Str.ofString "nought") := (if_neg z1).trans ((if_neg z2).trans ((if_neg z3).trans (if_pos z)))
      rw [e] at k
      exact k
    have z4 : b ≠ 0 := fun e => of_decide_eq_false z4 (by rw [e])
    have hb1 : b = 1 := by omega
    subst hb1
    refine ⟨_, rfl, _, rfl, a, 1, rfl, ⟨by omega, by omega⟩, fun p hp => ?_⟩
    refine ⟨p, _, rfl, SqT.of upd_same, rfl, _, _, rfl, _, _, rfl, rfl, ?_⟩
    have hS := same_new (o := HO.tup [.int (a / 1), .int (a % 1)]) hp
    refine s_if (rdT_test (rd_eqS (rd_var rfl) rd_c)) (fun z => ?_) fun z5 => ?_
    · rw [decS, decide_eq_true_iff] at z
      have e : doneM f a 1 = .inl a := (if_neg z1).trans ((if_neg z2).trans ((if_neg z3).trans ((if_neg z4).trans (if_pos z))))
      rw [e] at k
      refine s_ret (v := .int (a / 1)) (rd_var rfl) ?_
      have e3 : a / 1 = a := Int.ediv_one a
      have := k _ hS
      rw [e3] at this ⊢
      exact this
    · rw [decS, decide_eq_false_iff_not] at z5
      have e : doneM f a 1 = .inl 0 := (if_neg z1).trans ((if_neg z2).trans ((if_neg z3).trans ((if_neg z4).trans (if_neg z5))))
      rw [e] at k
      refine s_ret (v := .int (a % 1)) (rd_var rfl) ?_
      have e3 : a % 1 = 0 := Int.emod_one a
      have := k _ hS
      rw [e3] at this ⊢
      exact this
theorem ok_reckN (T : T36 K mg) : ClE P w K mg base 1 "reckoned" ["term"] spNum := by
  refine clE_of (d := d_reckoned) T.t 17 rfl rfl rfl rfl sc_reck (fun vs H Q E h => ?_) (fun _ _ _ _ _ _ us hl => match us, hl with | [_], _ => rfl) (fun cdv A outer s H vs Q E hr tk h => ?_)
  · obtain ⟨i, v, rfl, _⟩ := h
    rfl
  · obtain ⟨i, v, rfl, ht, k⟩ := h
    refine ⟨_, pss_cons (ps_if (pt_cmpR op_eq (pe_ix ix_tup (pv 0) pe_int (fun _ _ => rfl)) pe_str (nomark _)) (pss_one (ps_ret (pe_ix ix_tup (pv 0) pe_int (fun _ _ => rfl)))) pss_nil) pss_never, ?_⟩
    refine s_if (rdT_test (rd_eqS (rd_tag (rd_var rfl) ht) rd_c)) (fun _ => ?_) fun z => ?_
    · refine s_ret (rd_second (tm := .num i) (rd_var rfl) ht) ?_; exact k
    · rw [den_num] at z; cases z
theorem ok_reck (T : T36 K mg) (E6 : E36 K mg) : ClE P w K mg base 5 "reckoned" ["term"] (spReck K) := by
  have cR := ok_reckN (P := P) (w := w) (base := base) T
  have cD := ok_done (P := P) (w := w) (base := base) T E6
  obtain ⟨sa, hsm, hsq⟩ := T.sums
  obtain ⟨_, hfar⟩ := T.far
  refine clE_of (d := d_reckoned) T.t 17 rfl rfl rfl rfl sc_reck (fun vs H Q E h => ?_) (fun _ _ _ _ _ _ us hl => match us, hl with | [_], _ => rfl) (fun cdv A outer s H vs Q E hr tk h => ?_)
  · obtain ⟨t, v, rfl, _⟩ := h
    rfl
  · obtain ⟨t, v, rfl, ht, hsum, k⟩ := h
    refine ⟨_, (pss_cons (ps_if (pt_cmpR op_eq (pe_ix ix_tup (pv 0) pe_int (fun _ _ => rfl)) pe_str (nomark _)) (pss_one (ps_ret (pe_ix ix_tup (pv 0) pe_int (fun _ _ => rfl)))) pss_nil) (pss_cons (ps_if (pt_cmpR op_eq (pe_ix ix_tup (pv 0) pe_int (fun _ _ => rfl)) pe_str (nomark _)) (pss_one (ps_fault T.t E6 rfl hr (by omega) tk rfl)) pss_nil) (pss_cons (ps_if (pt_cmpR op_notIn_seq (pe_ix ix_tup (pv 0) pe_int (fun _ _ => rfl)) (pe_glob (v := .ref sa) rfl hsm rfl) rfl) (pss_one (ps_fault T.t E6 rfl hr (by omega) tk rfl)) pss_nil) (pss_cons (ps_set (i := 1) sc_reck.nd rfl (Or.inl rfl) (pe_clE cR tk hr (by omega) rfl (pa_cons (pe_ix ix_tup (pe_ix ix_tup (pv 0) pe_int (fun _ _ => rfl)) pe_int (fun _ _ => rfl)) pa_nil))) (pss_cons (ps_set (i := 2) sc_reck.nd rfl (Or.inl rfl) (pe_clE cR tk hr (by omega) rfl (pa_cons (pe_ix ix_tup (pe_ix ix_tup (pv 0) pe_int (fun _ _ => rfl)) pe_int (fun _ _ => rfl)) pa_nil))) (pss_cons (ps_set (i := 3) sc_reck.nd rfl (Or.inl rfl) (pe_clE cD tk hr (by omega) rfl (pa_cons (pe_ix ix_tup (pv 0) pe_int (fun _ _ => rfl)) (pa_cons (pv 1) (pa_cons (pv 2) pa_nil))))) (pss_cons (ps_if (pt_cmpR op_ge (pe_callB call_abs rfl (T.t.free 7 _ rfl) PyProof.Rows.boot_abs (pa_cons (pv 3) pa_nil)) (pe_glob (v := .int (10 ^ 30)) rfl hfar ⟨_, rfl⟩) (nomark _)) (pss_one ps_never) pss_nil) (pss_one (ps_ret (pv 3)))))))))), ?_⟩
    cases t with
    | num i =>
      refine s_if (rdT_test (rd_eqS (rd_tag (rd_var rfl) ht) rd_c)) (fun _ => ?_) fun z => ?_
      · refine s_ret (rd_second (tm := .num i) (rd_var rfl) ht) ?_; exact k H (Same.refl _)
      · rw [den_num] at z; cases z
    | any x =>
      refine s_if (rdT_test (rd_eqS (rd_tag (rd_var rfl) ht) rd_c)) (fun z => ?_) fun _ => ?_
      · rw [den_any] at z; cases z
      refine s_if (rdT_test (rd_eqS (rd_tag (rd_var rfl) ht) rd_c)) (fun _ => ?_) fun z => ?_
      · exact k
      · rw [dec_any] at z; cases z
    | app f ks =>
      refine s_if (rdT_test (rd_eqS (rd_tag (rd_var rfl) ht) rd_c)) (fun z => ?_) fun _ => ?_
      · rw [den_app] at z; cases z
      refine s_if (rdT_test (rd_eqS (rd_tag (rd_var rfl) ht) rd_c)) (fun z => ?_) fun _ => ?_
      · rw [dec_app] at z; cases z
      have hin : inV (.str f) [.str "+", .str "-", .str "*", .str "/", .str "/:"] = decide (f ∈ sumW) := inV_strs f ["+", "-", "*", "/", "/:"]
      refine s_if (rdT_test (rd_notIn (rd_second (tm := .app f ks) (rd_var rfl) ht) rd_c (hsq H) rfl rfl)) (fun z => ?_) fun z => ?_
      · have z : (!inV (.str f) [.str "+", .str "-", .str "*", .str "/", .str "/:"]) = true := z
        rw [hin] at z
        have hf : f ∉ sumW := by
          intro hm
          rw [decide_eq_true hm] at z
          cases z
        have e : reck (Tm.app f ks : PT) = .inr (Str.ofString "kind") := reck_kind hf
        rw [e] at k
        exact k
      · have z : (!inV (.str f) [.str "+", .str "-", .str "*", .str "/", .str "/:"]) = false := z
        rw [hin] at z
        have hf : f ∈ sumW := by
          by_cases hm : f ∈ sumW
          · exact hm
          · rw [decide_eq_false hm] at z
            cases z
        obtain ⟨a, b, rfl, ha, hb⟩ := hsum f ks rfl hf
        obtain ⟨ta, tk', kv, rfl, ht3, hk3, v1, r1, rfl, h1, v2, r2, rfl, h2, e3⟩ := ht.kids
        refine x_clE (sp := spNum) (ra_cons (rd_ixT (n := 0) (rd_ixT (n := 2) (rd_var rfl) rd_c ht3 rfl) rd_c hk3 rfl) ra_nil) ⟨a, v1, rfl, h1, ?_⟩
        refine x_clE (sp := spNum) (ra_cons (rd_ixT (n := 1) (rd_ixT (n := 2) (rd_var rfl) rd_c ht3 rfl) rd_c hk3 rfl) ra_nil) ⟨b, v2, rfl, h2, ?_⟩
        have er : reck (Tm.app f [.num a, .num b] : PT) = doneM f a b := reck_sum hf
        rw [er] at k
        refine x_clE (sp := spDone K) (ra_cons (rd_second (tm := .app f [.num a, .num b]) (rd_var rfl) ht) (ra_cons (rd_var rfl) (ra_cons (rd_var rfl) ra_nil))) ⟨f, a, b, rfl, hf, ha, ⟨hb.1, hb.2⟩, ?_⟩
        have small : ∀ n, doneM f a b = .inl n → n < 1000 ∧ -1000 < n := by
          intro n hn
          have hab : a * b ≤ 2 ∧ 0 ≤ a * b := by
            have : b = 0 ∨ b = 1 := by omega
            rcases this with e | e
            · rw [e, Int.mul_zero]; omega
            · rw [e, Int.mul_one]; omega
          unfold doneM at hn
          split at hn
          · injection hn with hn; omega
          · split at hn
            · injection hn with hn; omega
            · split at hn
              · injection hn with hn; omega
              · split at hn
                · cases hn
                · split at hn
                  · injection hn with hn; omega
                  · injection hn with hn; omega
        cases hd : doneM f a b with
        | inr wd =>
          rw [hd] at k
          exact k
        | inl n =>
          rw [hd] at k
          obtain ⟨s1, s2⟩ := small n hd
          intro H' hS
          refine ⟨_, rfl, n, rfl, _, _, rfl, rfl, _, rfl, ?_⟩
          have e : decide ((10 : Int) ^ 30 ≤ if n < 0 then -n else n) = false := decide_eq_false (by split <;> omega)
          rw [e]
          exact iteF (s_ret (rd_var rfl) (k H' hS))
end
end G35

/-! GW10 -/
set_option Elab.async false
set_option linter.all false
set_option maxRecDepth 100000
set_option maxHeartbeats 4000000
namespace G35
open PySem PySem.Spec PyProof.Rows L2
/-! ### deed, same_word -/
def spDeed (K : PySem.W.Frag) : Sp := fun vs H Q E => ∃ (f : Str) (l r : PT) (P : Puts) (v : V) (d : Addr) (res : Option Puts ⊕ Str), vs = [v, .ref d] ∧ RepT H (.app f [l, r]) v ∧ f ∈ deedW ∧ PutsAt H d P ∧ Shp l ∧ Shp r ∧ deedF f l r P = some res ∧
  (match res with
    | .inl (some P') => ∀ e H', Same H H' → PutsAt H' e P' → Q (.ref e) H'
    | .inl none => ∀ H', Same H H' → Q .non H'
    | .inr w => EFa K w H E)
def spSame : Sp := fun vs H Q _ => ∃ (f g : Str) (ks ls : List PT) (va vb : V), vs = [va, vb] ∧ RepT H (.app f ks) va ∧ RepT H (.app g ls) vb ∧ Q (.bl (decide (f = g ∧ ks.length = ls.length))) H
theorem Shp.here {l : PT} (h : Shp l) : ∀ f ks, l = .app f ks → f ∈ sumW → ∃ a b : Int, ks = [.num a, .num b] ∧ (0 ≤ a ∧ a ≤ 2) ∧ 0 ≤ b ∧ b ≤ 1 := fun f ks e hf => h.sums f ks (by rw [e, Tm.apps_app]; exact List.mem_cons_self ..) hf
section
variable {P : Program} {w : World} {K : PySem.W.Frag} {mg : Str → Option Value} {base : Heap}
theorem sc_deed : FnScope ["goal", "puts", "left", "right", "made", "less", "more"] ["goal", "puts"] d_deed.scope := ⟨rfl, rfl, rfl, by decide +kernel, rfl, by decide +kernel, by decide +kernel⟩
theorem sc_same : FnScope ["head", "goal"] ["head", "goal"] d_same_word.scope := ⟨rfl, rfl, rfl, by decide +kernel, rfl, by decide +kernel, by decide +kernel⟩
theorem ok_same (T : T35 K mg) : Cl P w K mg base CX0 1 "same_word" ["head", "goal"] spSame := by
  refine cl_of (d := d_same_word) T 19 rfl rfl rfl rfl sc_same (fun vs H Q E h => ?_) (fun _ _ _ _ _ _ us hl => match us, hl with | [_, _], _ => rfl) (fun cdv A outer s H vs Q E hr h => ?_)
  · obtain ⟨f, g, ks, ls, va, vb, rfl, _⟩ := h
    rfl
  · obtain ⟨f, g, ks, ls, va, vb, rfl, ha, hb, k⟩ := h
    refine ⟨_, (pss_one (ps_ret (pe_and (pe_cmpR op_eq (pe_ix ix_tup (pv 0) pe_int (fun _ _ => rfl)) (pe_ix ix_tup (pv 1) pe_int (fun _ _ => rfl)) (nomark _)) (pe_one (pe_cmpR op_eq (pe_callB call_len_seq rfl (T.free 0 _ rfl) PySem.boot_len (pa_cons (pe_ix ix_tup (pv 0) pe_int (fun _ _ => rfl)) pa_nil)) (pe_callB call_len_seq rfl (T.free 0 _ rfl) PySem.boot_len (pa_cons (pe_ix ix_tup (pv 1) pe_int (fun _ _ => rfl)) pa_nil)) (nomark _)))))), ?_⟩
    obtain ⟨aa, ak, av, rfl, ha3, hak, hks⟩ := ha.kids
    obtain ⟨ba, bk, bv, rfl, hb3, hbk, hls⟩ := hb.kids
    refine rd_eqS (rd_second (tm := .app f ks) (rd_var rfl) ha) (rd_second (tm := .app g ls) (rd_var rfl) hb) _ ?_
    refine ⟨_, rfl, ?_⟩
    rw [decS]
    by_cases h : f = g
    · rw [decide_eq_true h]
      refine iteT ?_
      refine rd_eqI (rd_lenT (rd_ixT (n := 2) (rd_var rfl) rd_c ha3 rfl) hak) (rd_lenT (rd_ixT (n := 2) (rd_var rfl) rd_c hb3 rfl) hbk) _ ?_
      rw [hks.length, hls.length]
      have e : decide (V.int (ks.length : Int) = V.int (ls.length : Int)) = decide (f = g ∧ ks.length = ls.length) := by
        rw [decide_eq_decide]
        constructor
        · intro z
          injection z with z
          exact ⟨h, by omega⟩
        · intro z
          rw [z.2]
      rw [e]
      exact k
    · rw [decide_eq_false h]
      refine iteF ?_
      have e : decide (f = g ∧ ks.length = ls.length) = false := decide_eq_false fun z => h z.1
      rw [e] at k
      exact k
theorem ok_deed (T : T36 K mg) (E6 : E36 K mg) : ClE P w K mg base 6 "deed" ["goal", "puts"] (spDeed K) := by
  have cR := ok_reck (P := P) (w := w) (base := base) T E6
  have cM := ok_made (P := P) (w := w) (base := base) T.t
  refine clE_of (d := d_deed) T.t 18 rfl rfl rfl rfl sc_deed (fun vs H Q E h => ?_) (fun _ _ _ _ _ _ us hl => match us, hl with | [_, _], _ => rfl) (fun cdv A outer s H vs Q E hr tk h => ?_)
  · obtain ⟨f, l, r, P, v, d, res, rfl, _⟩ := h
    rfl
  · obtain ⟨f, l, r, P', v, d, res, rfl, ht, hf, hP, hl, hrr, hd, k⟩ := h
    refine ⟨_, (pss_cons (ps_set (i := 2) sc_deed.nd rfl (Or.inl rfl) (pe_ix ix_tup (pe_ix ix_tup (pv 0) pe_int (fun _ _ => rfl)) pe_int (fun _ _ => rfl))) (pss_cons (ps_set (i := 3) sc_deed.nd rfl (Or.inl rfl) (pe_ix ix_tup (pe_ix ix_tup (pv 0) pe_int (fun _ _ => rfl)) pe_int (fun _ _ => rfl))) (pss_cons (ps_if (pt_cmpR op_eq (pe_ix ix_tup (pv 0) pe_int (fun _ _ => rfl)) pe_str (nomark _)) (pss_one (ps_set (i := 4) sc_deed.nd rfl (Or.inl rfl) (pe_cl cM hr (by omega) rfl (pa_cons (pv 2) (pa_cons (pv 3) (pa_cons (pv 1) pa_nil)))))) (pss_one (ps_if (pt_cmpR op_eq (pe_ix ix_tup (pv 0) pe_int (fun _ _ => rfl)) pe_str (nomark _)) (pss_one (ps_set (i := 4) sc_deed.nd rfl (Or.inl rfl) (pe_cl cM hr (by omega) rfl (pa_cons (pv 2) (pa_cons (pe_tup (pa_cons pe_str (pa_cons (pe_clE cR tk hr (by omega) rfl (pa_cons (pv 3) pa_nil)) pa_nil))) (pa_cons (pv 1) pa_nil)))))) (pss_cons (ps_set (i := 5) sc_deed.nd rfl (Or.inl rfl) (pe_clE cR tk hr (by omega) rfl (pa_cons (pv 2) pa_nil))) (pss_cons (ps_set (i := 6) sc_deed.nd rfl (Or.inl rfl) (pe_clE cR tk hr (by omega) rfl (pa_cons (pv 3) pa_nil))) (pss_cons (ps_if (PW.pt (pw_or (pt_cmpR op_lt (pv 5) (pv 6) (nomark _)) (pw_or1 (PW.pt (pw_and (pt_cmpR op_eq (pe_ix ix_tup (pv 0) pe_int (fun _ _ => rfl)) pe_str (nomark _)) (pw_and1 (pt_cmpR op_eq (pv 5) (pv 6) (nomark _)))))))) (pss_one (ps_ret (pv 1))) pss_nil) (pss_one (ps_ret pe_non)))))))) (pss_cons (ps_if (pt_cmpR op_eq (pe_ix ix_tup (pv 4) pe_int (fun _ _ => rfl)) pe_str (nomark _)) (pss_one (ps_ret (pe_ix ix_tup (pv 4) pe_int (fun _ _ => rfl)))) pss_nil) (pss_one (ps_ret pe_non)))))), ?_⟩
    obtain ⟨ta, tk', kv, rfl, ht3, hk3, v1, r1, rfl, h1, v2, r2, rfl, h2, e3⟩ := ht.kids
    refine s_set (rd_ixT (n := 0) (rd_ixT (n := 2) (rd_var rfl) rd_c ht3 rfl) rd_c hk3 rfl) ?_
    refine s_set (rd_ixT (n := 1) (rd_ixT (n := 2) (rd_var rfl) rd_c ht3 rfl) rd_c hk3 rfl) ?_
    have fin : ∀ (D : Ends) (ro : Option Puts) (m : Addr) (H1 : Hp) (x5 x6 : Option V), (∀ v H', Q v H' → D.rt v H') → Same H H1 → RepM H1 ro m → (match (.inl ro : Option Puts ⊕ Str) with
          | .inl (some P') => ∀ e H', Same H H' → PutsAt H' e P' → Q (.ref e) H'
          | .inl none => ∀ H', Same H H' → Q .non H'
          | .inr w => EFa K w H E) →
        (tSeq (tIfS (tTest (tOp rEq (tOp (rIxT K) (tVar 4) (tC (.int 0))) (tC (.str "one")))) (tRet (tOp (rIxT K) (tVar 4) (tC (.int 1)))) tNext) (tRet (tC .non))) D [some (.ref ta), some (.ref d), some v1, some v2, some (.ref m), x5, x6] H1 := by
      intro D ro m H1 x5 x6 hrt hS hM k
      cases ro with
      | none =>
        obtain ⟨tg, rest, e1, e2⟩ := hM
        refine s_if (rdT_test (rd_eqS (rd_ixT (n := 0) (rd_var rfl) rd_c e1 rfl) rd_c)) (fun z => ?_) fun _ => ?_
        · rw [decS, decide_eq_true_iff] at z
          exact absurd z e2
        · exact hrt _ _ (k H1 hS)
      | some P2 =>
        obtain ⟨e, e1, e2⟩ := hM
        refine s_if (rdT_test (rd_eqS (rd_ixT (n := 0) (rd_var rfl) rd_c e1 rfl) rd_c)) (fun _ => ?_) fun z => ?_
        · refine s_ret (rd_ixT (n := 1) (rd_var rfl) rd_c e1 rfl) ?_
          exact hrt _ _ (k e H1 hS e2)
        · rw [decS, decide_eq_false_iff_not] at z
          exact absurd rfl z
    refine s_if (rdT_test (rd_eqS (rd_second (tm := .app f [l, r]) (rd_var rfl) ht) rd_c)) (fun z => ?_) fun z1 => ?_
    · rw [decS, decide_eq_true_iff] at z
      have z : f = wEq := z
      unfold deedF at hd
      rw [if_pos z] at hd
      cases hu : uniO [(0, l, r)] P' with
      | none => rw [hu] at hd; cases hd
      | some ro =>
        rw [hu] at hd
        cases hd
        exact x_cl (sp := spMade) (ra_cons (rd_var rfl) (ra_cons (rd_var rfl) (ra_cons (rd_var rfl) ra_nil))) ⟨l, r, P', ro, v1, v2, d, rfl, h1, h2, hP, of_uniO hu, fun m H1 hS hM => fin _ ro m H1 none none (fun _ _ h => h) hS hM k⟩
    rw [decS, decide_eq_false_iff_not] at z1
    have z1 : ¬ f = wEq := z1
    refine s_if (rdT_test (rd_eqS (rd_second (tm := .app f [l, r]) (rd_var rfl) ht) rd_c)) (fun z => ?_) fun z2 => ?_
    · rw [decS, decide_eq_true_iff] at z
      have z : f = wAsg := z
      unfold deedF at hd
      rw [if_neg z1, if_pos z] at hd
      refine ⟨v1, rfl, ?_⟩
      refine x_clE (sp := spReck K) (ra_cons (rd_var rfl) ra_nil) ⟨r, v2, rfl, h2, hrr.here, ?_⟩
      cases hr2 : reck r with
      | inr wd =>
        rw [hr2] at hd
        cases hd
        exact k
      | inl n =>
        rw [hr2] at hd
        intro H1 hS1
        refine ⟨sz (by simp), fun p hp => ?_⟩
        have hS2 := hS1.trans (same_new (o := HO.tup [.str "num", .int n]) hp)
        cases hu : uniO [(0, l, .num n)] P' with
        | none => simp only [hu] at hd; cases hd
        | some ro =>
          simp only [hu] at hd
          cases hd
          refine ⟨.ref d, rfl, l, .num n, P', ro, v1, .ref p, d, rfl, h1.ex (.of hS2), ⟨p, rfl, upd_same⟩, hP.same hS2, of_uniO hu, fun m H3 hS hM => fin _ ro m H3 none none (fun _ _ h => h) (hS2.trans hS) hM k⟩
    rw [decS, decide_eq_false_iff_not] at z2
    have z2 : ¬ f = wAsg := z2
    unfold deedF at hd
    rw [if_neg z1, if_neg z2] at hd
    refine x_clE (sp := spReck K) (ra_cons (rd_var rfl) ra_nil) ⟨l, v1, rfl, h1, hl.here, ?_⟩
    cases hl2 : reck l with
    | inr wd =>
      rw [hl2] at hd
      cases hd
      exact k
    | inl a =>
      rw [hl2] at hd
      intro H1 hS1
      refine x_clE (sp := spReck K) (ra_cons (rd_var rfl) ra_nil) ⟨r, v2, rfl, h2.ex (.of hS1), hrr.here, ?_⟩
      cases hr2 : reck r with
      | inr wd =>
        rw [hr2] at hd
        cases hd
        exact EFa.ex k hS1
      | inl b =>
        rw [hr2] at hd
        intro H2 hS2
        have hS := hS1.trans hS2
        have hle : f = wLe ↔ ¬ f = "<" := by
          constructor
          · intro e z
            rw [e] at z
            exact absurd z (by decide +kernel)
          · intro z
            have hf : f ∈ [wEq, wAsg, wLt, wLe] := hf
            simp only [List.mem_cons, List.not_mem_nil, or_false] at hf
            rcases hf with e | e | e | e
            · exact absurd e z1
            · exact absurd e z2
            · exact absurd e z
            · exact e
        have cond : RdT (tOr (tTest (tOp (rI0 fun i j => .bl (decide (i < j))) (tVar 5) (tVar 6))) (tAnd (tTest (tOp rEq (tOp (rIxT K) (tVar 0) (tC (.int 1))) (tC (.str "<=")))) (tTest (tOp rEq (tVar 5) (tVar 6))))) [some (.ref ta), some (.ref d), some v1, some v2, none, some (.int a), some (.int b)] H2 (decide (a < b) || (decide (f = wLe) && decide (a = b))) := by
          have e1 : decide (V.str f = V.str wLe) = decide (f = wLe) := decS
          have e2 : decide (V.int a = V.int b) = decide (a = b) := by
            rw [decide_eq_decide]
            exact ⟨fun z => by injection z, fun z => by rw [z]⟩
          rw [← e1, ← e2]
          exact rdT_or (rdT_test (rd_I0 (g := fun i j => .bl (decide (i < j))) (rd_var rfl) (rd_var rfl))) fun _ => rdT_and (rdT_test (rd_eqS (rd_second (tm := .app f [l, r]) (rd_var rfl) (ht.ex (.of hS))) rd_c)) fun _ => rdT_test (rd_eqI (rd_var rfl) (rd_var rfl))
        refine s_if cond (fun z => ?_) fun z => ?_
        · have hc : a < b ∨ f = wLe ∧ a = b := by
            simpa using z
          simp only [if_pos hc] at hd
          cases hd
          exact s_ret (rd_var rfl) (k d H2 hS (hP.same hS))
        · have hc : ¬ (a < b ∨ f = wLe ∧ a = b) := by
            intro y
            have y2 : (decide (a < b) || (decide (f = wLe) && decide (a = b))) = true := by simpa using y
            rw [z] at y2
            cases y2
          simp only [if_neg hc] at hd
          cases hd
          exact k H2 hS
end
end G35

/-! GZip1 -/
set_option Elab.async false
set_option linter.all false
set_option maxRecDepth 100000
set_option maxHeartbeats 4000000
/-! list(zip(a, b)): a a list, b a list or a tuple. -/
namespace G35
open PySem PySem.Spec PyProof.Rows L2
/-- an iterator of a list or a tuple at k -/
def ItAt (h : Heap) (it l : Addr) (k : Nat) (items : Array Value) : Prop := (h.IsListIter it l k ∧ h.IsList l items) ∨ (h.IsTupleIter it l k ∧ h.IsTuple l items)
theorem ItAt.at {h h' : Heap} {it l : Addr} {k : Nat} {items : Array Value} (x : ItAt h it l k items) (h1 : ∀ o, h.get? it = some o → h'.get? it = some o) (h2 : ∀ o, h.get? l = some o → h'.get? l = some o) : ItAt h' it l k items := by
  rcases x with ⟨a, b⟩ | ⟨a, b⟩
  · exact .inl ⟨a.at h1, b.at h2⟩
  · exact .inr ⟨a.at h1, let ⟨o, ho, q⟩ := b; ⟨o, h2 o ho, q⟩⟩
theorem ItAt.lt {h : Heap} {it l : Addr} {k : Nat} {items : Array Value} (x : ItAt h it l k items) : it < h.objs.size ∧ l < h.objs.size := by
  rcases x with ⟨a, b⟩ | ⟨a, b⟩
  · obtain ⟨o, ho, _⟩ := a
    obtain ⟨o', ho', _⟩ := b
    exact ⟨Heap.lt_size ho, Heap.lt_size ho'⟩
  · obtain ⟨o, ho, _⟩ := a
    obtain ⟨o', ho', _⟩ := b
    exact ⟨Heap.lt_size ho, Heap.lt_size ho'⟩
theorem loadAlive {M : Model} {A : Around} {E : Value → Shared → Prop} {s : Shared} {a : Addr} {Q : Option Obj → Shared → Prop} (h : Q (s.heap.get? a) s) : wpAny M A (loadIfAlive a) Q E s := fun _ _ _ => h
section
variable {prog : Program} {w : World} {A : Around} {E : Value → Shared → Prop} {s : Shared}
theorem nextOf_it {it l : Addr} {k : Nat} {items : Array Value} {v : Value} {Q : Value → Shared → Prop} (x : ItAt s.heap it l k items) (hx : items[k]? = some v) (hne : l ≠ it)
    (hQ : ∀ h', ItAt h' it l (k + 1) items → Heap.SameBut it s.heap h' → Q v { s with heap := h' }) : wpAny (model prog w) A (Builtin.SmallTypes.nextOf (.ref it)) Q E s := by
  rcases x with ⟨a, b⟩ | ⟨a, b⟩
  · exact wpAny_nextOf_list_item a b hx fun h' a' hs => hQ h' (.inl ⟨a', b.at fun o e => (hs.2 l hne).trans e⟩) hs
  · exact RZ.nextOf_tuple_item a b hx fun h' a' hs => hQ h' (.inr ⟨a', let ⟨o, ho, q⟩ := b; ⟨o, (hs.2 l hne).trans ho, q⟩⟩) hs
theorem nextOf_itEnd {it l : Addr} {k : Nat} {items : Array Value} {Q : Value → Shared → Prop} (hh : A.handled = none) (x : ItAt s.heap it l k items) (hx : items[k]? = none)
    (hE : ∀ h' e, Heap.ExtBut it s.heap h' → (∃ o, h'.get? e = some o ∧ o.cls = .type "StopIteration") → E (.ref e) { s with heap := h' }) : wpAny (model prog w) A (Builtin.SmallTypes.nextOf (.ref it)) Q E s := by
  rcases x with ⟨a, b⟩ | ⟨a, b⟩
  · exact wpAny_nextOf_list_end hh a b hx hE
  · exact RZ.nextOf_tuple_end hh a b hx hE
def zipO (f0 : Value) (b1 : Bool) (TI TO : Addr) : Obj := { cls := .type "zip", dict := none, data := .fields #[f0, .bool b1, .bool false, .ref TI, .ref TO], slots := #[] }
/-- a zip object of two iterators, k turns done -/
structure Zp (h : Heap) (z TI TO i1 i2 l1 l2 : Addr) (xs ys : Array Value) (k : Nat) : Prop where
  z : ∃ f0 b1, h.get? z = some (zipO f0 b1 TI TO) ∧ (f0 = .none ∨ ∃ T o, f0 = rawInt (T : Nat) ∧ h.get? T = some o ∧ T ≠ z ∧ T ≠ TO ∧ T ≠ i1 ∧ T ≠ i2)
  ti : IsPair h TI (.ref i1) (.ref i2)
  to : ∃ a b, IsPair h TO a b
  a1 : ItAt h i1 l1 k xs
  a2 : ItAt h i2 l2 k ys
theorem zp_next {z TI TO i1 i2 l1 l2 : Addr} {k : Nat} {xs ys : Array Value} {x y : Value} {Q : Value → Shared → Prop} (D : ZipApart z TI TO i1 i2 l1 l2) (Z : Zp s.heap z TI TO i1 i2 l1 l2 xs ys k) (hx : xs[k]? = some x) (hy : ys[k]? = some y)
    (hQ : ∀ h' T, Zp h' z TI TO i1 i2 l1 l2 xs ys (k + 1) → IsPair h' T x y → s.heap.objs.size ≤ T → (∀ c o, c ≠ z → c ≠ TO → c ≠ i1 → c ≠ i2 → s.heap.get? c = some o → h'.get? c = some o) → Q (.ref T) { s with heap := h' }) :
    wpAny (model prog w) A (Builtin.«zip.__next__» ⟨[.ref z], []⟩) (fun fin s' => ∃ v, fin = .done (.ret v) ∧ Q v s') E s := by
  obtain ⟨f0, b1, hz, hf⟩ := Z.z
  show wpAny _ _ (field (.ref z) 2 >>= _) _ _ _
  refine wpAny_bind (wpAny_field hz rfl (x := .bool false) rfl ?_)
  show wpAny _ _ (field (.ref z) 3 >>= _) _ _ _
  refine wpAny_bind (wpAny_field hz rfl (x := .ref TI) rfl ?_)
  refine wpAny_bind (wpAny_seqItems Z.ti rfl ?_)
  show wpAny _ _ (Builtin.SmallTypes.ownedTupleIsFree (.ref z) >>= _) _ _ _
  rcases hf with rfl | ⟨T, oT, rfl, hT, t1, t2, t3, t4⟩
  · refine wpAny_bind ?_
    unfold Builtin.SmallTypes.ownedTupleIsFree
    refine wpAny_bind (wpAny_field hz rfl (x := .none) rfl (wpAny_pure ?_))
    simp only [if_true]
    refine wpAny_bind (wpAny_rule ?_)
    refine wpAny_bind (wpAny_field hz rfl (x := .ref TO) rfl ?_)
    obtain ⟨a, b, hTO⟩ := Z.to
    refine wpAny_bind (wpAny_setField_rec hz (by simp) fun g1 z1 b1' => ?_)
    replace z1 : g1.get? z = some (zipO .ellipsis b1 TI TO) := z1
    refine wpAny_bind ?_
    simp only [List.zipIdx_cons, List.zipIdx_nil, List.forIn_cons, List.forIn_nil]
    refine wpAny_bind (wpAny_bind (wpAny_onRaise ?_))
    show wpAny _ _ (Builtin.SmallTypes.nextOf (.ref i1) >>= _) _ _ _
    have k1 : ∀ c o, c ≠ z → s.heap.get? c = some o → g1.get? c = some o := fun c o hc e => b1'.extBut c o hc e
    refine wpAny_bind (nextOf_it (Z.a1.at (fun o e => k1 _ o D.i1z e) fun o e => k1 _ o D.l1z e) hx D.l1i1 fun g2 it2 b2 => wpAny_pure ?_)
    have k2 : ∀ c o, c ≠ i1 → g1.get? c = some o → g2.get? c = some o := fun c o hc e => b2.extBut c o hc e
    have TO2 : IsPair g2 TO a b := k2 _ _ D.TOi1 (k1 _ _ D.TOz hTO)
    refine wpAny_bind (wpAny_seqItems TO2 rfl ?_)
    refine wpAny_bind (wpAny_updateSeq_pair TO2 fun g3 TO3 b3 => ?_)
    replace TO3 : IsPair g3 TO x b := TO3
    have k3 : ∀ c o, c ≠ TO → g2.get? c = some o → g3.get? c = some o := fun c o hc e => b3.extBut c o hc e
    refine wpAny_bind (wpAny_letGo (wpAny_pure ?_))
    refine wpAny_bind (wpAny_bind (wpAny_onRaise ?_))
    show wpAny _ _ (Builtin.SmallTypes.nextOf (.ref i2) >>= _) _ _ _
    refine wpAny_bind (nextOf_it (Z.a2.at (fun o e => k3 _ o D.TOi2.symm (k2 _ o D.i12.symm (k1 _ o D.i2z e))) fun o e => k3 _ o D.l2TO (k2 _ o D.l2i1 (k1 _ o D.l2z e))) hy D.l2i2 fun g4 it4 b4 => wpAny_pure ?_)
    have k4 : ∀ c o, c ≠ i2 → g3.get? c = some o → g4.get? c = some o := fun c o hc e => b4.extBut c o hc e
    have TO4 : IsPair g4 TO x b := k4 _ _ D.TOi2 TO3
    refine wpAny_bind (wpAny_seqItems TO4 rfl ?_)
    refine wpAny_bind (wpAny_updateSeq_pair TO4 fun g5 TO5 b5 => ?_)
    replace TO5 : IsPair g5 TO x y := TO5
    have k5 : ∀ c o, c ≠ TO → g4.get? c = some o → g5.get? c = some o := fun c o hc e => b5.extBut c o hc e
    refine wpAny_bind (wpAny_letGo (wpAny_pure (wpAny_pure ?_)))
    refine wpAny_bind (wpAny_seqItems TO5 rfl ?_)
    refine wpAny_bind (wpAny_newTuple ?_)
    have z5 : g5.get? z = some (zipO .ellipsis b1 TI TO) := k5 _ _ D.TOz.symm (k4 _ _ D.i2z.symm (k3 _ _ D.TOz.symm (k2 _ _ D.i1z.symm z1)))
    have kk : ∀ c o, c ≠ z → c ≠ TO → c ≠ i1 → c ≠ i2 → s.heap.get? c = some o → g5.get? c = some o := fun c o c1 c2 c3 c4 e => k5 _ _ c2 (k4 _ _ c4 (k3 _ _ c2 (k2 _ _ c3 (k1 _ _ c1 e))))
    have sz5 : g5.objs.size = s.heap.objs.size := by rw [b5.1, b4.1, b3.1, b2.1, b1'.1]
    have it1 : ItAt g5 i1 l1 (k + 1) xs := it2.at (fun o e => k5 _ o D.TOi1.symm (k4 _ o D.i12 (k3 _ o D.TOi1.symm e))) fun o e => k5 _ o D.l1TO (k4 _ o D.l1i2 (k3 _ o D.l1TO e))
    have it2' : ItAt g5 i2 l2 (k + 1) ys := it4.at (fun o e => k5 _ o D.TOi2.symm e) fun o e => k5 _ o D.l2TO e
    show wpAny _ _ (Builtin.SmallTypes.ownedTupleHandOut (.ref z) (.ref g5.objs.size) >>= _) _ _ _
    refine wpAny_bind ?_
    unfold Builtin.SmallTypes.ownedTupleHandOut
    have z6 : (g5.push { cls := .type "tuple", data := .seq #[x, y] }).get? z = some (zipO .ellipsis b1 TI TO) := Heap.get?_push_of_some _ z5
    refine wpAny_bind (wpAny_setField_rec z6 (by simp) fun g7 z7 b7 => ?_)
    replace z7 : g7.get? z = some (zipO (rawInt g5.objs.size) b1 TI TO) := z7
    refine wpAny_setField_rec z7 (by simp) fun g8 z8 b8 => ?_
    replace z8 : g8.get? z = some (zipO (rawInt g5.objs.size) false TI TO) := z8
    have up : ∀ c o, c ≠ z → g5.get? c = some o → g8.get? c = some o := fun c o c1 e => b8.extBut _ _ c1 (b7.extBut _ _ c1 (Heap.get?_push_of_some _ e))
    have zlt : z < g5.objs.size := Heap.lt_size z5
    have T8 : IsPair g8 g5.objs.size x y := b8.extBut _ _ (Nat.ne_of_gt zlt) (b7.extBut _ _ (Nat.ne_of_gt zlt) (Heap.get?_push_size _ rfl))
    refine wpAny_pure ⟨_, rfl, hQ g8 g5.objs.size ⟨⟨_, _, z8, .inr ⟨_, _, rfl, T8, Nat.ne_of_gt zlt, Nat.ne_of_gt (Heap.lt_size TO5), Nat.ne_of_gt it1.lt.1, Nat.ne_of_gt it2'.lt.1⟩⟩, up _ _ D.TIz (kk _ _ D.TIz D.TITO D.TIi1 D.TIi2 Z.ti), ⟨_, _, up _ _ D.TOz TO5⟩,
      it1.at (fun o e => up _ o D.i1z e) (fun o e => up _ o D.l1z e), it2'.at (fun o e => up _ o D.i2z e) (fun o e => up _ o D.l2z e)⟩ T8 (by rw [sz5]; exact Nat.le_refl _) fun c o c1 c2 c3 c4 e => up _ _ c1 (kk _ _ c1 c2 c3 c4 e)⟩
  · refine wpAny_bind (wpAny_mono (Q := fun a s1 => a = false ∧ ∃ g1, s1 = { s with heap := g1 } ∧ g1.get? z = some (zipO (rawInt (T : Nat)) true TI TO) ∧ (∀ c o, c ≠ z → s.heap.get? c = some o → g1.get? c = some o) ∧ g1.objs.size = s.heap.objs.size) ?_ (fun a s1 hs => ?_) fun _ _ z => z)
    · unfold Builtin.SmallTypes.ownedTupleIsFree
      refine wpAny_bind (wpAny_field hz rfl (x := rawInt (T : Nat)) rfl ?_)
      refine wpAny_bind (loadAlive ?_)
      rw [show ((T : Nat) : Int).toNat = T from Int.toNat_natCast T, hT, if_neg (by simp)]
      refine wpAny_bind (wpAny_field hz rfl (x := .bool b1) rfl ?_)
      cases b1 with
      | true =>
        rw [if_neg (by simp)]
        exact wpAny_pure ⟨rfl, s.heap, rfl, hz, fun _ _ _ e => e, rfl⟩
      | false =>
        rw [if_pos (by simp)]
        refine wpAny_bind (wpAny_setField_rec hz (by simp) fun g1 z1 b1' => ?_)
        exact wpAny_pure ⟨rfl, g1, rfl, z1, fun c o hc e => b1'.extBut c o hc e, b1'.1⟩
    · obtain ⟨rfl, g1, rfl, z1, k1, sz1⟩ := hs
      rw [if_neg Bool.false_ne_true]
      dsimp only
      rw [← Array.forIn_toList]
      simp only [List.forIn_cons, List.forIn_nil]
      obtain ⟨a, b, hTO⟩ := Z.to
      refine wpAny_bind (wpAny_bind (wpAny_bind (wpAny_holding ?_)))
      show wpAny _ _ (Builtin.SmallTypes.nextOf (.ref i1) >>= _) _ _ _
      refine wpAny_bind (nextOf_it (s := { s with heap := g1 }) (Z.a1.at (fun o e => k1 _ o D.i1z e) fun o e => k1 _ o D.l1z e) hx D.l1i1 fun g2 it2 b2 => wpAny_pure ?_)
      have k2 : ∀ c o, c ≠ i1 → g1.get? c = some o → g2.get? c = some o := fun c o hc e => b2.extBut c o hc e
      refine wpAny_pure ?_
      dsimp only
      refine wpAny_bind (wpAny_bind (wpAny_holding ?_))
      show wpAny _ _ (Builtin.SmallTypes.nextOf (.ref i2) >>= _) _ _ _
      refine wpAny_bind (nextOf_it (s := { s with heap := g2 }) (Z.a2.at (fun o e => k2 _ o D.i12.symm (k1 _ o D.i2z e)) fun o e => k2 _ o D.l2i1 (k1 _ o D.l2z e)) hy D.l2i2 fun g4 it4 b4 => wpAny_pure ?_)
      have k4 : ∀ c o, c ≠ i2 → g2.get? c = some o → g4.get? c = some o := fun c o hc e => b4.extBut c o hc e
      refine wpAny_pure ?_
      dsimp only
      refine wpAny_pure ?_
      dsimp only
      have z5 : g4.get? z = some (zipO (rawInt (T : Nat)) true TI TO) := k4 _ _ D.i2z.symm (k2 _ _ D.i1z.symm z1)
      have kk : ∀ c o, c ≠ z → c ≠ i1 → c ≠ i2 → s.heap.get? c = some o → g4.get? c = some o := fun c o c1 c3 c4 e => k4 _ _ c4 (k2 _ _ c3 (k1 _ _ c1 e))
      have sz5 : g4.objs.size = s.heap.objs.size := by rw [b4.1, b2.1, sz1]
      have it1 : ItAt g4 i1 l1 (k + 1) xs := it2.at (fun o e => k4 _ o D.i12 e) fun o e => k4 _ o D.l1i2 e
      refine wpAny_bind (wpAny_newTuple (hsz := (by decide : 2 ≤ sizeLine)) ?_)
      have pu : ∀ c o, g4.get? c = some o → (g4.push { cls := .type "tuple", data := .seq #[x, y] }).get? c = some o := fun c o e => Heap.get?_push_of_some _ e
      refine wpAny_pure ⟨_, rfl, hQ _ g4.objs.size ⟨⟨_, _, pu _ _ z5, .inr ⟨T, oT, rfl, pu _ _ (kk _ _ t1 t3 t4 hT), t1, t2, t3, t4⟩⟩, pu _ _ (kk _ _ D.TIz D.TIi1 D.TIi2 Z.ti), ⟨_, _, pu _ _ (kk _ _ D.TOz D.TOi1 D.TOi2 hTO)⟩,
        it1.at (fun o e => pu _ o e) (fun o e => pu _ o e), it4.at (fun o e => pu _ o e) (fun o e => pu _ o e)⟩ (Heap.get?_push_size _ rfl) (by rw [sz5]; exact Nat.le_refl _) fun c o c1 c2 c3 c4 e => pu _ _ (kk _ _ c1 c3 c4 e)⟩
/-- both at their ends -/
theorem zp_end {z TI TO i1 i2 l1 l2 : Addr} {k : Nat} {xs ys : Array Value} {Q : PySem.Fin → Shared → Prop} (hh : A.handled = none) (D : ZipApart z TI TO i1 i2 l1 l2) (Z : Zp s.heap z TI TO i1 i2 l1 l2 xs ys k) (hx : xs[k]? = none)
    (hE : ∀ h' e, (∀ c o, c ≠ z → c ≠ TO → c ≠ i1 → c ≠ i2 → s.heap.get? c = some o → h'.get? c = some o) → (∃ o, h'.get? e = some o ∧ o.cls = .type "StopIteration") → E (.ref e) { s with heap := h' }) :
    wpAny (model prog w) A (Builtin.«zip.__next__» ⟨[.ref z], []⟩) Q E s := by
  obtain ⟨f0, b1, hz, hf⟩ := Z.z
  show wpAny _ _ (field (.ref z) 2 >>= _) _ _ _
  refine wpAny_bind (wpAny_field hz rfl (x := .bool false) rfl ?_)
  show wpAny _ _ (field (.ref z) 3 >>= _) _ _ _
  refine wpAny_bind (wpAny_field hz rfl (x := .ref TI) rfl ?_)
  refine wpAny_bind (wpAny_seqItems Z.ti rfl ?_)
  show wpAny _ _ (Builtin.SmallTypes.ownedTupleIsFree (.ref z) >>= _) _ _ _
  rcases hf with rfl | ⟨T, oT, rfl, hT, t1, t2, t3, t4⟩
  · refine wpAny_bind ?_
    unfold Builtin.SmallTypes.ownedTupleIsFree
    refine wpAny_bind (wpAny_field hz rfl (x := .none) rfl (wpAny_pure ?_))
    simp only [if_true]
    refine wpAny_bind (wpAny_rule ?_)
    refine wpAny_bind (wpAny_field hz rfl (x := .ref TO) rfl ?_)
    refine wpAny_bind (wpAny_setField_rec hz (by simp) fun g1 z1 b1' => ?_)
    replace z1 : g1.get? z = some (zipO .ellipsis b1 TI TO) := z1
    refine wpAny_bind ?_
    simp only [List.zipIdx_cons, List.zipIdx_nil, List.forIn_cons, List.forIn_nil]
    refine wpAny_bind (wpAny_bind (wpAny_onRaise ?_))
    show wpAny _ _ (Builtin.SmallTypes.nextOf (.ref i1) >>= _) _ _ _
    have k1 : ∀ c o, c ≠ z → s.heap.get? c = some o → g1.get? c = some o := fun c o hc e => b1'.extBut c o hc e
    refine wpAny_bind (nextOf_itEnd hh (Z.a1.at (fun o e => k1 _ o D.i1z e) fun o e => k1 _ o D.l1z e) hx fun g2 e b2 he => ?_)
    obtain ⟨oe, hoe, hce⟩ := he
    have z2 : g2.get? z = some (zipO .ellipsis b1 TI TO) := b2 _ _ D.i1z.symm z1
    have hez : e ≠ z := fun x => by
      subst x
      rw [z2] at hoe
      cases hoe
      simp [zipO] at hce
    refine wpAny_setField_rec z2 (by simp) fun g3 _ b3 => hE g3 e (fun c o c1 _ c3 _ x => b3.extBut _ _ c1 (b2 _ _ c3 (k1 _ _ c1 x))) ⟨oe, b3.extBut _ _ hez hoe, hce⟩
  · refine wpAny_bind (wpAny_mono (Q := fun a s1 => a = false ∧ ∃ g1, s1 = { s with heap := g1 } ∧ g1.get? z = some (zipO (rawInt (T : Nat)) true TI TO) ∧ (∀ c o, c ≠ z → s.heap.get? c = some o → g1.get? c = some o) ∧ g1.objs.size = s.heap.objs.size) ?_ (fun a s1 hs => ?_) fun _ _ z => z)
    · unfold Builtin.SmallTypes.ownedTupleIsFree
      refine wpAny_bind (wpAny_field hz rfl (x := rawInt (T : Nat)) rfl ?_)
      refine wpAny_bind (loadAlive ?_)
      rw [show ((T : Nat) : Int).toNat = T from Int.toNat_natCast T, hT, if_neg (by simp)]
      refine wpAny_bind (wpAny_field hz rfl (x := .bool b1) rfl ?_)
      cases b1 with
      | true =>
        rw [if_neg (by simp)]
        exact wpAny_pure ⟨rfl, s.heap, rfl, hz, fun _ _ _ e => e, rfl⟩
      | false =>
        rw [if_pos (by simp)]
        refine wpAny_bind (wpAny_setField_rec hz (by simp) fun g1 z1 b1' => ?_)
        exact wpAny_pure ⟨rfl, g1, rfl, z1, fun c o hc e => b1'.extBut c o hc e, b1'.1⟩
    · obtain ⟨rfl, g1, rfl, z1, k1, sz1⟩ := hs
      rw [if_neg Bool.false_ne_true]
      dsimp only
      rw [← Array.forIn_toList]
      simp only [List.forIn_cons, List.forIn_nil]
      refine wpAny_bind (wpAny_bind (wpAny_bind (wpAny_holding ?_)))
      show wpAny _ _ (Builtin.SmallTypes.nextOf (.ref i1) >>= _) _ _ _
      refine wpAny_bind (nextOf_itEnd (s := { s with heap := g1 }) hh (Z.a1.at (fun o e => k1 _ o D.i1z e) fun o e => k1 _ o D.l1z e) hx fun g2 e b2 he => ?_)
      exact hE g2 e (fun c o c1 _ c3 _ x => b2 _ _ c3 (k1 _ _ c1 x)) he
end
end G35

/-! GZip2 -/
set_option Elab.async false
set_option linter.all false
set_option maxRecDepth 100000
set_option maxHeartbeats 4000000
namespace G35
open PySem PySem.Spec PyProof.Rows L2
section
variable {prog : Program} {w : World} {A : Around} {E : Value → Shared → Prop} {s : Shared} {z TI TO i1 i2 l1 l2 : Addr} {xs ys : Array Value}
theorem Zp.typ {k : Nat} (Z : Zp s.heap z TI TO i1 i2 l1 l2 xs ys k) : s.TypeIs (.ref z) "zip" := by
  obtain ⟨f0, b1, hz, _⟩ := Z.z
  exact ⟨_, hz, rfl⟩
theorem Zp.keep {h h' : Heap} {k : Nat} (Z : Zp h z TI TO i1 i2 l1 l2 xs ys k) (e : ∀ c o, h.get? c = some o → h'.get? c = some o) : Zp h' z TI TO i1 i2 l1 l2 xs ys k := by
  obtain ⟨f0, b1, hz, hf⟩ := Z.z
  obtain ⟨a, b, hTO⟩ := Z.to
  refine ⟨⟨f0, b1, e _ _ hz, ?_⟩, e _ _ Z.ti, ⟨a, b, e _ _ hTO⟩, Z.a1.at (fun o x => e _ o x) (fun o x => e _ o x), Z.a2.at (fun o x => e _ o x) (fun o x => e _ o x)⟩
  rcases hf with h | ⟨T, o, h1, h2, h3⟩
  · exact .inl h
  · exact .inr ⟨T, o, h1, e _ _ h2, h3⟩
theorem Zp.upd {h : Heap} {k : Nat} {S : Addr} {f : Obj → Obj} (Z : Zp h z TI TO i1 i2 l1 l2 xs ys k) (hS : S ∉ [z, TI, TO, i1, i2, l1, l2]) (hn : ∀ c o, c ≠ S → h.get? c = some o → (h.update S f).get? c = some o) (hT : ∀ o, h.get? S = some o → ∃ o', (h.update S f).get? S = some o') : Zp (h.update S f) z TI TO i1 i2 l1 l2 xs ys k := by
  simp only [List.mem_cons, List.not_mem_nil, or_false, not_or] at hS
  obtain ⟨n1, n2, n3, n4, n5, n6, n7⟩ := hS
  obtain ⟨f0, b1, hz, hf⟩ := Z.z
  obtain ⟨a, b, hTO⟩ := Z.to
  refine ⟨⟨f0, b1, hn _ _ (Ne.symm n1) hz, ?_⟩, hn _ _ (Ne.symm n2) Z.ti, ⟨a, b, hn _ _ (Ne.symm n3) hTO⟩, Z.a1.at (fun o x => hn _ o (Ne.symm n4) x) (fun o x => hn _ o (Ne.symm n6) x), Z.a2.at (fun o x => hn _ o (Ne.symm n5) x) (fun o x => hn _ o (Ne.symm n7) x)⟩
  rcases hf with h | ⟨T, o, h1, h2, h3⟩
  · exact .inl h
  · refine .inr ⟨T, ?_⟩
    by_cases hTS : T = S
    · subst hTS
      obtain ⟨o', q⟩ := hT _ h2
      exact ⟨o', h1, q, h3⟩
    · exact ⟨o, h1, hn _ _ hTS h2, h3⟩
theorem py_zip_item {k : Nat} {x y : Value} {Q : Option Value → Shared → Prop} (D : ZipApart z TI TO i1 i2 l1 l2) (Z : Zp s.heap z TI TO i1 i2 l1 l2 xs ys k) (hx : xs[k]? = some x) (hy : ys[k]? = some y)
    (hQ : ∀ h' T, Zp h' z TI TO i1 i2 l1 l2 xs ys (k + 1) → IsPair h' T x y → s.heap.objs.size ≤ T → (∀ c o, c ≠ z → c ≠ TO → c ≠ i1 → c ≠ i2 → s.heap.get? c = some o → h'.get? c = some o) → Q (some (.ref T)) { s with heap := h' }) :
    wpAny (model prog w) A (pyNext (.ref z)) Q E s := by
  unfold pyNext
  exact wpAny_bind (wpAny_attempt (wpAny_callSpecial?_slot (name := Str.ofString "__next__") Z.typ F.slot_zip_next (wpAny_call_entry F.slot_zip_next Z.typ F.entry_zip_next
    (zp_next D Z hx hy fun h' T a1 a2 a3 a4 => wpAny_pure (hQ h' T a1 a2 a3 a4)) (F.args_zip_next_1 _))))
theorem py_zip_end {k : Nat} {Q : Option Value → Shared → Prop} (hh : A.handled = none) (D : ZipApart z TI TO i1 i2 l1 l2) (Z : Zp s.heap z TI TO i1 i2 l1 l2 xs ys k) (hx : xs[k]? = none)
    (hQ : ∀ h', (∀ c o, c ≠ z → c ≠ TO → c ≠ i1 → c ≠ i2 → s.heap.get? c = some o → h'.get? c = some o) → Q none { s with heap := h' }) : wpAny (model prog w) A (pyNext (.ref z)) Q E s := by
  unfold pyNext
  refine wpAny_bind (wpAny_attempt (wpAny_callSpecial?_slot (name := Str.ofString "__next__") Z.typ F.slot_zip_next (wpAny_call_entry F.slot_zip_next Z.typ F.entry_zip_next (zp_end hh D Z hx fun h' e hk he => ?_) (F.args_zip_next_1 _))))
  obtain ⟨o, ho, hc⟩ := he
  refine wpAny_bind (wpAny_isInstance (T := "StopIteration") (b := true) ⟨o, ho, hc⟩ isSubtype_stop ?_)
  exact wpAny_pure (hQ h' hk)
/-- the list's items so far: new pairs -/
def Prs (h : Heap) (lo : Nat) (xs ys acc : Array Value) (k : Nat) : Prop := acc.size = k ∧ ∀ (j : Nat) (v : Value), acc[j]? = some v → ∃ (T : Addr) (x y : Value), v = .ref T ∧ xs[j]? = some x ∧ ys[j]? = some y ∧ IsPair h T x y ∧ lo ≤ T
theorem zip_loop {R : Result → Shared → Prop} {S lo : Addr} (hh : A.handled = none) (D : ZipApart z TI TO i1 i2 l1 l2) (hS : S ∉ [z, TI, TO, i1, i2, l1, l2]) (hn : xs.size ≤ sizeLine) (hxy : xs.size = ys.size) (hlo : ∀ b ∈ [S, z, TI, TO, i1, i2], b < lo) (res : Value) :
    ∀ (m k : Nat) (s : Shared) (acc : Array Value) (c : Nat), xs.size - k = m → k ≤ xs.size → Zp s.heap z TI TO i1 i2 l1 l2 xs ys k → s.heap.get? S = some { cls := .type "list", dict := none, data := .seq acc c, slots := #[] } → Prs s.heap lo xs ys acc k → lo ≤ s.heap.objs.size →
    (∀ h' tk acc' c', (∀ b o, b ∉ [S, z, TO, i1, i2] → s.heap.get? b = some o → h'.get? b = some o) → h'.get? S = some { cls := .type "list", dict := none, data := .seq acc' c', slots := #[] } → Prs h' lo xs ys acc' xs.size → R (.ok (.ret res)) { s with heap := h', toks := tk }) →
    codeAny (model prog w) A (.builtin "list.extend.loop" ⟨[.ref S, .ref z, res], []⟩) R s := by
  have nS := hS
  simp only [List.mem_cons, List.not_mem_nil, or_false, not_or] at nS
  obtain ⟨n1, n2, n3, n4, n5, n6, n7⟩ := nS
  have prsK : ∀ {h h' : Heap} {acc : Array Value} {k : Nat}, (∀ b o, b ∉ [S, z, TO, i1, i2] → h.get? b = some o → h'.get? b = some o) → Prs h lo xs ys acc k → Prs h' lo xs ys acc k := fun {h h' acc k} e p => by
    refine ⟨p.1, fun j v hj => ?_⟩
    obtain ⟨T, x, y, q1, q2, q3, q4, q5⟩ := p.2 j v hj
    refine ⟨T, x, y, q1, q2, q3, e _ _ (fun hm => ?_) q4, q5⟩
    have : T < lo := hlo T (by
      simp only [List.mem_cons, List.not_mem_nil, or_false] at hm ⊢
      rcases hm with h | h | h | h | h
      · exact .inl h
      · exact .inr (.inl h)
      · exact .inr (.inr (.inr (.inl h)))
      · exact .inr (.inr (.inr (.inr (.inl h))))
      · exact .inr (.inr (.inr (.inr (.inr h)))))
    exact absurd this (Nat.not_lt.mpr q5)
  intro m
  induction m with
  | zero =>
    intro k s acc c hk hi Z hSl hP hsz hR
    have e : k = xs.size := by omega
    subst e
    refine codeAny_builtin F.entry_extend_loop ?_
    rw [Around.under_plainId F.plain_extend_loop _]
    show wpAny _ A.in1 (pyNext (.ref z) >>= _) _ _ s
    refine wpAny_bind (py_zip_end hh D Z (Array.getElem?_eq_none (Nat.le_refl _)) fun h' hk => ?_)
    have kk : ∀ b o, b ∉ [S, z, TO, i1, i2] → s.heap.get? b = some o → h'.get? b = some o := fun b o hb e => by
      simp only [List.mem_cons, List.not_mem_nil, or_false, not_or] at hb
      exact hk b o hb.2.1 hb.2.2.1 hb.2.2.2.1 hb.2.2.2.2 e
    exact wpAny_pure (hR h' s.toks acc c kk (hk S _ n1 n3 n4 n5 hSl) (prsK kk hP))
  | succ m ih =>
    intro k s acc c hk hi Z hSl hP hsz hR
    have hlt : k < xs.size := by omega
    have hx : xs[k]? = some xs[k] := Array.getElem?_eq_getElem hlt
    have hy : ys[k]? = some (ys[k]'(by omega)) := Array.getElem?_eq_getElem (by omega)
    refine codeAny_builtin F.entry_extend_loop ?_
    rw [Around.under_plainId F.plain_extend_loop _]
    show wpAny _ A.in1 (pyNext (.ref z) >>= _) _ _ s
    refine wpAny_bind (py_zip_item D Z hx hy fun h' T Z' hT hTl hk => ?_)
    have hS' := hk S _ n1 n3 n4 n5 hSl
    have kk : ∀ b o, b ∉ [S, z, TO, i1, i2] → s.heap.get? b = some o → h'.get? b = some o := fun b o hb e => by
      simp only [List.mem_cons, List.not_mem_nil, or_false, not_or] at hb
      exact hk b o hb.2.1 hb.2.2.1 hb.2.2.2.1 hb.2.2.2.2 e
    have hP' := prsK kk hP
    have TS : T ≠ S := fun e => by
      have := hlo S (List.mem_cons_self ..)
      rw [e] at hTl
      exact absurd (Nat.lt_of_lt_of_le this hsz) (Nat.not_lt.mpr hTl)
    have szh : s.heap.objs.size ≤ h'.objs.size := Nat.le_trans hTl (Nat.le_of_lt (Heap.lt_size hT))
    show wpAny _ A.in1 (updateSeq S (·.push (Value.ref T)) >>= _) _ _ _
    refine wpAny_bind ?_
    have oth : ∀ b o, b ≠ S → h'.get? b = some o → (h'.update S (Obj.mapSeq (·.push (Value.ref T)))).get? b = some o := fun b o hb e => (Heap.get?_update_other _ _ (Ne.symm hb)).trans e
    have Sn := Heap.get?_update_self (Obj.mapSeq (·.push (Value.ref T))) hS' rfl
    refine wpAny_updateSeq hS' rfl (wpAny_pure ⟨plainId_quiet F.plain_extend_loop _, ih (k + 1) { s with heap := h'.update S (Obj.mapSeq (·.push (Value.ref T))) } (acc.push (.ref T)) _ (by omega) hlt (Z'.upd hS oth fun o e => ⟨_, Sn⟩) Sn ?_ (by show lo ≤ (h'.update S _).objs.size; rw [Heap.size_update]; exact Nat.le_trans hsz szh) fun h2 tk2 acc2 c2 k2 S2 P2 => ?_⟩) (by rw [hP.1]; omega) (by show (acc.push _).size ≤ sizeLine + 1; rw [Array.size_push, hP.1]; omega)
    · refine ⟨by rw [Array.size_push, hP.1], fun j v hj => ?_⟩
      by_cases hjk : j < acc.size
      · rw [Array.getElem?_push_lt hjk] at hj
        obtain ⟨T', x, y, q1, q2, q3, q4, q5⟩ := hP'.2 j v (by rw [Array.getElem?_eq_getElem hjk]; exact hj)
        refine ⟨T', x, y, q1, q2, q3, oth _ _ (fun e => ?_) q4, q5⟩
        have := hlo S (List.mem_cons_self ..)
        rw [e] at q5
        exact absurd this (Nat.not_lt.mpr q5)
      · have e : j = acc.size := by
          have := (Array.getElem?_eq_some_iff.mp hj).1
          rw [Array.size_push] at this
          omega
        subst e
        rw [Array.getElem?_push_size] at hj
        cases hj
        rw [hP.1]
        exact ⟨T, _, _, rfl, hx, hy, oth _ _ TS hT, Nat.le_trans hsz hTl⟩
    · refine hR h2 tk2 acc2 c2 (fun b o hb e => k2 b o hb ?_) S2 P2
      have hb' := hb
      simp only [List.mem_cons, List.not_mem_nil, or_false, not_or] at hb'
      exact oth _ _ hb'.1 (kk b o hb e)
end
end G35

/-! GZip3 -/
set_option Elab.async false
set_option linter.all false
set_option maxRecDepth 100000
set_option maxHeartbeats 4000000
namespace G35
open PySem PySem.Spec PyProof.Rows L2
theorem zip_no_len : typeLookup (.type "zip") "__len__" = pure none := by rw [typeLookup_type, builtinLookup_eq_fast]; kernel_rfl
theorem zip_no_hint : typeLookup (.type "zip") "__length_hint__" = pure none := by rw [typeLookup_type, builtinLookup_eq_fast]; kernel_rfl
section
variable {prog : Program} {w : World} {A : Around} {E : Value → Shared → Prop} {s : Shared} {z TI TO i1 i2 l1 l2 : Addr} {xs ys : Array Value}
theorem list_zip {Q : Value → Shared → Prop} (hh : A.handled = none) (D : ZipApart z TI TO i1 i2 l1 l2) (Z : Zp s.heap z TI TO i1 i2 l1 l2 xs ys 0) (hn : xs.size ≤ sizeLine) (hxy : xs.size = ys.size)
    (hQ : ∀ (h' : Heap) (tk : Nat) (acc : Array Value) (c : Nat), (∀ b o, b ∉ [z, TO, i1, i2] → s.heap.get? b = some o → h'.get? b = some o) → h'.get? s.heap.objs.size = some { cls := .type "list", dict := none, data := .seq acc c, slots := #[] } → Prs h' (s.heap.objs.size + 1) xs ys acc xs.size → Q (.ref s.heap.objs.size) { s with heap := h', toks := tk }) :
    wpAny (model prog w) A (call (.type "list") [.ref z]) Q E s := by
  have hzl : z < s.heap.objs.size := by
    obtain ⟨_, _, hz, _⟩ := Z.z
    exact Heap.lt_size hz
  refine callType_codes (Q₁ := fun obj s₁ => obj = .ref s.heap.objs.size ∧ s₁ = { s with heap := s.heap.push { cls := .type "list", data := .seq #[] } }) PySem.F.called_list (PySem.F.typeCall_list_1 _) PySem.F.entry_list_init (code_list_new _ ⟨rfl, rfl⟩) fun obj s₁ h₁ => ?_
  obtain ⟨rfl, rfl⟩ := h₁
  have hS : (s.heap.push { cls := .type "list", data := .seq #[] }).get? s.heap.objs.size = some { cls := .type "list", data := .seq #[] } := Heap.get?_push_size _ rfl
  refine ⟨⟨_, hS, rfl⟩, PySem.F.args_list_init_2 _ _, ?_⟩
  show wpAny _ _ (do let old ← Builtin.List.listItems (.ref s.heap.objs.size); Builtin.List.listUpdate (.ref s.heap.objs.size) (fun _ => #[]); letGo old.toList.reverse; Builtin.List.listExtendWith (.ref s.heap.objs.size) (.ref z) .none) _ _ _
  refine wpAny_bind ?_
  unfold Builtin.List.listItems
  refine wpAny_bind (wpAny_seqItems hS rfl (wpAny_pure ?_))
  show wpAny _ _ (updateSeq s.heap.objs.size (fun _ => #[]) >>= fun _ => letGo (#[] : Array Value).toList.reverse >>= fun _ => Builtin.List.listExtendWith (.ref s.heap.objs.size) (.ref z) .none) _ _ _
  refine wpAny_bind (wpAny_updateSeq hS rfl ?_)
  have hS2 := Heap.get?_update_self (Obj.mapSeq (fun _ => (#[] : Array Value))) hS rfl
  generalize hg : (s.heap.push { cls := .type "list", data := .seq #[] }).update s.heap.objs.size (Obj.mapSeq (fun _ => (#[] : Array Value))) = g at hS2
  have kept : ∀ b o, s.heap.get? b = some o → g.get? b = some o := fun b o e => by
    rw [← hg]
    exact (Heap.get?_update_other _ _ (Nat.ne_of_gt (Heap.lt_size e))).trans (Heap.get?_push_of_some _ e)
  have gsz : g.objs.size = s.heap.objs.size + 1 := by rw [← hg, Heap.size_update, Heap.size_push]
  refine wpAny_bind (wpAny_letGo ?_)
  have Zg := Z.keep kept
  have tz : ({ s with heap := g } : Shared).TypeIs (.ref z) "zip" := Zg.typ (s := { s with heap := g })
  unfold Builtin.List.listExtendWith
  refine wpAny_bind (wpAny_typeOf tz ?_)
  have e1 : Builtin.List.listSameRef (.ref s.heap.objs.size) (.ref z) = false := by unfold Builtin.List.listSameRef; exact beq_eq_false_iff_ne.mpr (Nat.ne_of_gt hzl)
  have e2 : (Value.type "zip" == Value.type "list") = false := by decide
  have e3 : (Value.type "zip" == Value.type "tuple") = false := by decide
  simp only [e1, e2, e3, Bool.or_false, Bool.false_eq_true, if_false]
  obtain ⟨_, _, hz0, _⟩ := Zg.z
  have pit : ∀ {Q : Value → Shared → Prop} {A : Around} {E : Value → Shared → Prop}, Q (.ref z) { s with heap := g } → wpAny (model prog w) A (pyIter (.ref z)) Q E { s with heap := g } := fun {Q A E} h => by
    refine wpAny_pyIter_slot tz F.slot_zip_iter (wpAny_call_entry F.slot_zip_iter tz F.entry_zip_iter ?_ (F.args_zip_iter_1 _))
    show wpAny _ _ (ret (.ref z)) _ _ _
    exact wpAny_pure ⟨_, rfl, "zip", _, tz, F.slot_zip_next.lookup, h⟩
  refine wpAny_bind (pit ?_)
  refine wpAny_bind (wpAny_holding ?_)
  unfold Builtin.List.listLengthHint
  refine wpAny_bind (wpAny_specialOf tz zip_no_len ?_)
  show wpAny _ _ (specialOf (Value.ref z) (Str.ofString "__length_hint__") >>= _) _ _ _
  refine wpAny_bind (wpAny_specialOf tz zip_no_hint ?_)
  refine wpAny_pure ?_
  show wpAny _ _ (rule "list.extend.makes-room" >>= fun _ => Builtin.List.listTouch (.ref s.heap.objs.size) >>= fun _ => again (.builtin "list.extend.loop" ⟨[.ref s.heap.objs.size, .ref z, .none], []⟩)) _ _ _
  refine wpAny_bind (wpAny_rule ?_)
  refine wpAny_bind ?_
  show wpAny _ _ (updateSeq s.heap.objs.size (·.push .none) >>= fun _ => updateSeq s.heap.objs.size (·.pop)) _ _ _
  refine wpAny_bind (wpAny_updateSeq hS2 rfl ?_)
  have hS3 := Heap.get?_update_self (Obj.mapSeq (·.push Value.none)) hS2 rfl
  refine wpAny_updateSeq (hz := by seq_fits) hS3 rfl ?_
  have hS4 := Heap.get?_update_self (Obj.mapSeq (·.pop)) hS3 rfl
  have oth : ∀ b o, b ≠ s.heap.objs.size → g.get? b = some o → ((g.update s.heap.objs.size (Obj.mapSeq (·.push Value.none))).update s.heap.objs.size (Obj.mapSeq (·.pop))).get? b = some o :=
    fun b o hb e => (Heap.get?_update_other _ _ (Ne.symm hb)).trans ((Heap.get?_update_other _ _ (Ne.symm hb)).trans e)
  have lts : ∀ b ∈ [z, TI, TO, i1, i2, l1, l2], b < s.heap.objs.size := fun b hb => by
    obtain ⟨a, b', hTO⟩ := Z.to
    simp only [List.mem_cons, List.not_mem_nil, or_false] at hb
    rcases hb with rfl | rfl | rfl | rfl | rfl | rfl | rfl
    · exact hzl
    · exact Heap.lt_size Z.ti
    · exact Heap.lt_size hTO
    · exact Z.a1.lt.1
    · exact Z.a2.lt.1
    · exact Z.a1.lt.2
    · exact Z.a2.lt.2
  have nS : s.heap.objs.size ∉ [z, TI, TO, i1, i2, l1, l2] := fun hm => Nat.lt_irrefl _ (lts _ hm)
  have Z4 : Zp ((g.update s.heap.objs.size (Obj.mapSeq (·.push Value.none))).update s.heap.objs.size (Obj.mapSeq (·.pop))) z TI TO i1 i2 l1 l2 xs ys 0 :=
    (Zg.upd nS (fun c o hc e => (Heap.get?_update_other _ _ (Ne.symm hc)).trans e) fun o _ => ⟨_, hS3⟩).upd nS (fun c o hc e => (Heap.get?_update_other _ _ (Ne.symm hc)).trans e) fun o _ => ⟨_, hS4⟩
  refine wpAny_pure ⟨plainId_quiet PySem.F.plain_extend_loop _, ?_⟩
  refine zip_loop (lo := s.heap.objs.size + 1) (A := A.in1) hh D nS hn hxy (fun b hb => ?_) .none xs.size 0 _ #[] _ rfl (Nat.zero_le _) Z4 hS4 ⟨rfl, fun j v hj => by simp at hj⟩ (by show _ ≤ ((g.update _ _).update _ _).objs.size; rw [Heap.size_update, Heap.size_update, gsz]; exact Nat.le_refl _) fun h' tk acc c hk hSl hP => ?_
  · rcases List.mem_cons.mp hb with e | hb
    · rw [e]; exact Nat.lt_succ_self _
    · exact Nat.lt_succ_of_lt (lts b (by simp only [List.mem_cons, List.not_mem_nil, or_false] at hb ⊢; rcases hb with h | h | h | h | h <;> simp [h]))
  · refine ⟨rfl, hQ h' tk acc c (fun b o hb e => hk b o (fun hm => ?_) (oth b o (Nat.ne_of_lt (Heap.lt_size e)) (kept b o e))) hSl hP⟩
    rcases List.mem_cons.mp hm with e' | hm
    · exact Nat.lt_irrefl _ (e' ▸ Heap.lt_size e)
    · exact hb hm
theorem meets_zipM (l1 l2 : Addr) (xs ys : Array Value) :
    Meets (Builtin.«zip.__new__» ⟨[.type "zip", .ref l1, .ref l2], []⟩) (fun _ R s => s.heap.IsList l1 xs ∧ s.heap.IsTuple l2 ys ∧
      R (.ok (.ret (.ref (s.heap.objs.size + 4)))) { s with heap := (((((s.heap.push { cls := .type "list_iterator", data := .fields #[.ref l1, .int 0 0] }).push { cls := .type "tuple_iterator", data := .fields #[.ref l2, .int 0 0] }).push { cls := .type "tuple", data := .seq #[.ref s.heap.objs.size, .ref (s.heap.objs.size + 1)] }).push { cls := .type "tuple", data := .seq #[.none, .none] }).push (zipO .none false (s.heap.objs.size + 2) (s.heap.objs.size + 3))) }) :=
  .of_wp fun prog w A R s h => by
    obtain ⟨hp, g, d, tk, os⟩ := s
    obtain ⟨hl1, hl2, h⟩ := h
    have hsub := sub_zip
    have hL1 : Heap.IsList (Shared.heap ⟨hp, g, d, tk, os⟩) l1 xs := hl1
    have hL2 : Heap.IsTuple (Shared.heap ⟨hp.push { cls := .type "list_iterator", data := .fields #[.ref l1, .int 0 0] }, g, d, tk, os⟩) l2 ys := Heap.IsTuple.push hl2 _
    wp_walk using wpAny_pyIter_list hL1, wpAny_pyIter_tuple hL2
    refine ⟨_, rfl, ?_⟩
    simp only [Heap.size_push]
    exact h
end
end G35

/-! GZip4 -/
set_option Elab.async false
set_option linter.all false
set_option maxRecDepth 100000
set_option maxHeartbeats 4000000
namespace G35
open PySem PySem.Spec PyProof.Rows L2
section
variable {X : Cx} {pins : List (Addr × Obj)} {σ : L2.St} {H : Hp} {s : Shared}
theorem grow {H2 : Hp} {h' : Heap} {t' : Nat} (I : Inv X pins σ H s) (k : ∀ b o, s.heap.get? b = some o → h'.get? b = some o) (low : ∀ b, b < s.heap.objs.size → H2 b = H b) (new : ∀ b o, s.heap.objs.size ≤ b → H2 b = some o → ObjOk X.prog X.w H2 h' b o) :
    Inv X pins σ H2 { s with heap := h', toks := t' } := by
  have lt : ∀ {b o}, H b = some o → b < s.heap.objs.size := fun e => I.hok.lt e
  refine I.un { keep := fun b o q _ _ _ => k b o q, slot := fun b o q _ _ _ => ⟨o.slots, k b o q⟩, free := fun b o q n _ => by rw [low b (Heap.lt_size q)]; exact n, there := fun b o q _ => ⟨o, k b o q⟩, tups := fun b xs q => by rw [low b (lt q)]; exact q, frzs := fun b o u q => by rw [low b (lt q)]; exact q, tbls := fun b ps q => ⟨#[], by rw [low b (lt q), q]; simp⟩ } fun b o e => ?_
  by_cases hb : b < s.heap.objs.size
  · rw [low b hb] at e
    exact (I.hok b o e).stay (fun c u _ q => k c u q) (fun c q => by rw [low c (lt q)]; exact q) fun c xs q => by rw [low c (lt q)]; exact q
  · exact new b o (Nat.le_of_not_lt hb) e
def tListZip (K : PySem.W.Frag) (t : TA) : TE := fun σ H Q => t σ H fun vs H1 => ∃ (a b : Addr) (xs ys : List V), vs = [.ref a, .ref b] ∧ SqL K H1 a xs ∧ (SqL K H1 b ys ∨ SqT K H1 b ys) ∧ xs.length = ys.length ∧
  ∀ (q : Addr) (ts : List Addr) (H2 : Hp), Same H1 H2 → H1 q = none → H2 q = some (.lst (ts.map V.ref)) → ts.length = xs.length → (∀ (j : Nat) (x y : V) (t : Addr), xs[j]? = some x → ys[j]? = some y → ts[j]? = some t → H2 t = some (.tup [x, y])) → Q (.ref q) H2
theorem zipTail {Q : VK} {a b : Addr} {xs ys : List V} {us ws : List Value} {g : Heap} {tk : Nat} (hc : X.calm = true) (I : Inv X pins σ H s) (r1 : Vals xs us) (r2 : Vals ys ws) (hxy : xs.length = ys.length) (hz : xs.length ≤ sizeLine)
    (D : ZipApart (s.heap.objs.size + 4) (s.heap.objs.size + 2) (s.heap.objs.size + 3) s.heap.objs.size (s.heap.objs.size + 1) a b) (Z : Zp g (s.heap.objs.size + 4) (s.heap.objs.size + 2) (s.heap.objs.size + 3) s.heap.objs.size (s.heap.objs.size + 1) a b us.toArray ws.toArray 0)
    (k0 : ∀ c o, s.heap.get? c = some o → g.get? c = some o) (hgs : g.objs.size = s.heap.objs.size + 5)
    (q : ∀ (q : Addr) (ts : List Addr) (H2 : Hp), Same H H2 → H q = none → H2 q = some (.lst (ts.map V.ref)) → ts.length = xs.length → (∀ (j : Nat) (x y : V) (t : Addr), xs[j]? = some x → ys[j]? = some y → ts[j]? = some t → H2 t = some (.tup [x, y])) → Q (.ref q) H2) :
    wpAny (model X.prog X.w) X.A (call (.type "list") [.ref (s.heap.objs.size + 4)]) (EP X pins σ Q) X.xe { s with heap := g, toks := tk } := by
  have l1 := r1.length
  have l2 := r2.length
  refine list_zip (s := { s with heap := g, toks := tk }) (I.ok.hd hc) D Z (by rw [List.size_toArray, ← l1]; exact hz) (by rw [List.size_toArray, List.size_toArray]; omega) fun h' tk' acc c hk hS hP => ?_
  have gS : ({ s with heap := g, toks := tk } : Shared).heap.objs.size = s.heap.objs.size + 5 := hgs
  rw [gS] at hS hP ⊢
  have ha : acc.size = xs.length := by rw [hP.1, List.size_toArray, l1]
  -- the tuples
  have hT : ∀ j, j < xs.length → ∃ T : Addr, acc[j]? = some (.ref T) ∧ IsPair h' T (us.getD j .none) (ws.getD j .none) ∧ s.heap.objs.size + 5 + 1 ≤ T := fun j hj => by
    have hj2 : j < acc.size := by omega
    obtain ⟨T, x, y, e1, e2, e3, e4, e5⟩ := hP.2 j _ (Array.getElem?_eq_getElem hj2)
    refine ⟨T, by rw [Array.getElem?_eq_getElem hj2, e1], ?_, e5⟩
    have e2' : us[j]? = some x := by simpa using e2
    have e3' : ws[j]? = some y := by simpa using e3
    rw [List.getD_eq_getElem?_getD, List.getD_eq_getElem?_getD, e2', e3']
    exact e4
  let ts : List Addr := acc.toList.map fun v => match v with
    | .ref a => a
    | _ => 0
  have htl : ts.length = xs.length := by
    show (acc.toList.map _).length = _
    rw [List.length_map, Array.length_toList, ha]
  have hts : ∀ (j : Nat) (t : Addr), ts[j]? = some t → acc[j]? = some (.ref t) ∧ IsPair h' t (us.getD j .none) (ws.getD j .none) ∧ s.heap.objs.size + 5 + 1 ≤ t := fun j t e => by
    have hj := (List.getElem?_eq_some_iff.mp e).1
    rw [htl] at hj
    obtain ⟨T, h1, h2, h3⟩ := hT j hj
    have e2 : ts[j]? = some T := by
      show (acc.toList.map _)[j]? = some T
      rw [List.getElem?_map, Array.getElem?_toList, h1]
      rfl
    rw [e2] at e
    cases e
    exact ⟨h1, h2, h3⟩
  have pr : ∀ (j : Nat) (x y : V), xs[j]? = some x → ys[j]? = some y → RelV x (us.getD j .none) ∧ RelV y (ws.getD j .none) := fun j x y hx hy => by
    obtain ⟨u, hu, ru⟩ := r1.get hx
    obtain ⟨v, hv, rv⟩ := r2.get hy
    rw [List.getD_eq_getElem?_getD, List.getD_eq_getElem?_getD, hu, hv]
    exact ⟨ru, rv⟩
  let fnd : Addr → Option (V × V) := fun b => ((List.range xs.length).find? fun j => decide (ts[j]? = some b)).map fun j => (xs.getD j .non, ys.getD j .non)
  let H2 : Hp := fun b => if b < s.heap.objs.size then H b else if b = s.heap.objs.size + 5 then some (.lst (ts.map V.ref)) else (fnd b).map fun p => .tup [p.1, p.2]
  have low : ∀ b, b < s.heap.objs.size → H2 b = H b := fun b hb => if_pos hb
  have at2 : ∀ (j : Nat) (x y : V) (t : Addr), xs[j]? = some x → ys[j]? = some y → ts[j]? = some t → H2 t = some (.tup [x, y]) := fun j x y t hx hy ht => by
    obtain ⟨_, p1, p2⟩ := hts j t ht
    have e : H2 t = (fnd t).map fun p => .tup [p.1, p.2] := by
      show (if t < s.heap.objs.size then H t else _) = _
      have p3 : s.heap.objs.size + 5 < t := p2
      have q1 : ¬ t < s.heap.objs.size := Nat.not_lt.mpr (Nat.le_of_lt (Nat.lt_of_le_of_lt (Nat.le_add_right _ 5) p3))
      have q2 : ¬ t = s.heap.objs.size + 5 := Nat.ne_of_gt p3
      rw [if_neg q1, if_neg q2]
    rw [e]
    have hj := (List.getElem?_eq_some_iff.mp hx).1
    have hsome : ((List.range xs.length).find? fun j => decide (ts[j]? = some t)).isSome = true := by
      rw [List.find?_isSome]
      exact ⟨j, List.mem_range.mpr hj, decide_eq_true ht⟩
    obtain ⟨i, hi⟩ := Option.isSome_iff_exists.mp hsome
    have hi2 := List.find?_some hi
    have hi3 := List.mem_range.mp (List.mem_of_find?_eq_some hi)
    have hti := of_decide_eq_true hi2
    obtain ⟨_, p3, _⟩ := hts i t hti
    have eq1 : us.getD i .none = us.getD j .none ∧ ws.getD i .none = ws.getD j .none := by
      unfold IsPair at p1 p3
      rw [p1] at p3
      injection p3 with p3
      simp at p3
      exact ⟨p3.1.symm, p3.2.symm⟩
    obtain ⟨ra, rb⟩ := pr j x y hx hy
    obtain ⟨rc, rd⟩ := pr i xs[i] (ys[i]'(by omega)) (List.getElem?_eq_getElem hi3) (List.getElem?_eq_getElem (by omega))
    rw [eq1.1] at rc
    rw [eq1.2] at rd
    have f : fnd t = some (xs.getD i .non, ys.getD i .non) := by
      show (((List.range xs.length).find? fun j => decide (ts[j]? = some t)).map _) = _
      rw [hi]
      rfl
    rw [f]
    have g1 : xs.getD i .non = x := by
      rw [List.getD_eq_getElem?_getD, List.getElem?_eq_getElem hi3]
      exact rc.inj ra
    have g2 : ys.getD i .non = y := by
      rw [List.getD_eq_getElem?_getD, List.getElem?_eq_getElem (by omega)]
      exact rd.inj rb
    show some (HO.tup [xs.getD i .non, ys.getD i .non]) = _
    rw [g1, g2]
  have hlst : H2 (s.heap.objs.size + 5) = some (.lst (ts.map V.ref)) := by
    show (if s.heap.objs.size + 5 < s.heap.objs.size then _ else _) = _
    rw [if_neg (by omega), if_pos rfl]
  have same : Same H H2 := fun b o e => by
    rw [low b (I.hok.lt e)]
    exact e
  have kk : ∀ b o, s.heap.get? b = some o → h'.get? b = some o := fun b o e => by
    have := Heap.lt_size e
    refine hk b o (fun hm => ?_) (k0 b o e)
    simp only [List.mem_cons, List.not_mem_nil, or_false] at hm
    have hlt : b < s.heap.objs.size := this
    rcases hm with rfl | rfl | rfl | rfl
    · exact absurd hlt (Nat.not_lt.mpr (Nat.le_add_right _ 4))
    · exact absurd hlt (Nat.not_lt.mpr (Nat.le_add_right _ 3))
    · exact absurd hlt (Nat.lt_irrefl _)
    · exact absurd hlt (Nat.not_lt.mpr (Nat.le_add_right _ 1))
  have J : Inv X pins σ H2 { s with heap := h', toks := tk' } := grow I kk low fun b o hb e => by
    by_cases hbS : b = s.heap.objs.size + 5
    · subst hbS
      rw [hlst] at e
      cases e
      refine ⟨by rw [List.length_map, htl]; exact hz, acc.toList, c, ?_, by rw [Array.toArray_toList]; exact hS⟩
      refine vals_of_at (by rw [List.length_map, htl, Array.length_toList]; exact ha.symm) fun j x u hx hu => ?_
      rw [List.getElem?_map] at hx
      cases ht : ts[j]? with
      | none => rw [ht] at hx; cases hx
      | some t =>
        rw [ht] at hx
        cases hx
        obtain ⟨p1, _, _⟩ := hts j t ht
        rw [Array.getElem?_toList, p1] at hu
        cases hu
        rfl
    · have e0 : H2 b = (fnd b).map fun p => .tup [p.1, p.2] := by
        show (if b < s.heap.objs.size then H b else _) = _
        rw [if_neg (Nat.not_lt.mpr hb), if_neg hbS]
      rw [e0] at e
      cases hf : (List.range xs.length).find? fun j => decide (ts[j]? = some b) with
      | none =>
        have : fnd b = none := by
          show (((List.range xs.length).find? fun j => decide (ts[j]? = some b)).map _) = _
          rw [hf]
          rfl
        rw [this] at e
        cases e
      | some i =>
        have hi2' := List.find?_some hf
        have hi2 := of_decide_eq_true hi2'
        have hi3 := List.mem_range.mp (List.mem_of_find?_eq_some hf)
        have f : fnd b = some (xs.getD i .non, ys.getD i .non) := by
          show (((List.range xs.length).find? fun j => decide (ts[j]? = some b)).map _) = _
          rw [hf]
          rfl
        rw [f] at e
        cases e
        obtain ⟨_, p1, _⟩ := hts i b hi2
        obtain ⟨ra, rb⟩ := pr i xs[i] (ys[i]'(by omega)) (List.getElem?_eq_getElem hi3) (List.getElem?_eq_getElem (by omega))
        have g1 : xs.getD i .non = xs[i] := by rw [List.getD_eq_getElem?_getD, List.getElem?_eq_getElem hi3]; rfl
        have g2 : ys.getD i .non = ys[i]'(by omega) := by rw [List.getD_eq_getElem?_getD, List.getElem?_eq_getElem (by omega)]; rfl
        show ObjOk X.prog X.w H2 h' b (.tup [xs.getD i .non, ys.getD i .non])
        rw [g1, g2]
        exact ⟨sz (by simp), [us.getD i .none, ws.getD i .none], .cons ra (.cons rb .nil), _, p1, rfl, _, rfl⟩
  exact ⟨.ref (s.heap.objs.size + 5), H2, J, rfl, q _ ts H2 same (I.hok.fresh (by omega)) hlst htl at2⟩
theorem apart {n : Nat} {a b : Addr} (ha : a < n) (hb : b < n) : ZipApart (n + 4) (n + 2) (n + 3) n (n + 1) a b := by
  have key : ∀ i j : Nat, i ≠ j → (n + i : Nat) ≠ n + j := fun i j h => by omega
  have la : ∀ k : Nat, a ≠ n + k := fun k => Nat.ne_of_lt (Nat.lt_of_lt_of_le ha (Nat.le_add_right n k))
  have lb : ∀ k : Nat, b ≠ n + k := fun k => Nat.ne_of_lt (Nat.lt_of_lt_of_le hb (Nat.le_add_right n k))
  exact ⟨key 2 4 (by decide), key 3 4 (by decide), key 0 4 (by decide), key 1 4 (by decide), key 2 3 (by decide), key 2 0 (by decide), key 2 1 (by decide), key 3 0 (by decide), key 3 1 (by decide), key 0 1 (by decide), la 4, la 3, la 0, la 1, lb 4, lb 3, lb 0, lb 1⟩
theorem pe_listZip {e1 e2 : Expr} {t : TA} {p p2 pos pos2 : Pos} (hc : X.calm = true) (hg : Gl X "list") (hm : X.mg "list" = none) (hg2 : Gl X "zip") (hm2 : X.mg "zip" = none) (ha : PA X [e1, e2] t)
    (he : starEach [e1, e2] X.env = (false, eval e1 X.env) :: starEach [e2] X.env := by rfl) (hpl : (backTo pos2 (starEach [e2] X.env)).any (·.1) = false := by rfl)
    (hs2 : starEach [.Call (.Name "zip" p2) [e1, e2] [] pos2] X.env = (false, eval (.Call (.Name "zip" p2) [e1, e2] [] pos2) X.env) :: starEach [] X.env := by rfl) :
    PE X (.Call (.Name "list" p) [.Call (.Name "zip" p2) [e1, e2] [] pos2] [] pos) (tListZip X.K t) := by
  refine ⟨fun pins s σ H Q I h => ?_⟩
  refine Call_ (ld_blt I hg hm boot_list (PyProof.Rows.callWith_type1 (args_cons (Call_ (ld_blt I hg2 hm2 PyProof.Rows.boot_zip (PyProof.Rows.callWith_type1 (thn (ha.run pos2 pins s σ H _ I h) fun us s1 ⟨vs, H1, I1, r1, a, b, xs, ys, ev, hA, hB, hl, q⟩ => ?_) he hpl))) hs2) hs2 rfl))
  subst ev
  obtain ⟨u, v, rfl, ru, rv⟩ := vals2 r1
  obtain rfl : u = Value.ref a := ru
  obtain rfl : v = Value.ref b := rv
  obtain ⟨us, r1, p1, z1⟩ := I1.list hA
  obtain ⟨oa, hoa, _⟩ := id p1.isList
  rcases hB with hB | hB
  · obtain ⟨ws, r2, p2, z2⟩ := I1.list hB
    obtain ⟨ob, hob, _⟩ := id p2.isList
    refine call_zip_2 p1.isList p2.isList fun g a1 a2 a3 a4 a5 a6 k0 => args_nil ?_
    exact zipTail hc I1 r1 r2 hl z1 (apart (Heap.lt_size hoa) (Heap.lt_size hob)) ⟨⟨.none, false, a1, .inl rfl⟩, a2, ⟨_, _, a3⟩, .inl ⟨a4, p1.isList.at fun o e => k0 _ o e⟩, .inl ⟨a5, p2.isList.at fun o e => k0 _ o e⟩⟩ k0 a6 q
  · obtain ⟨ws, r2, p2, z2⟩ := I1.tuple hB
    obtain ⟨ob, hob, pb⟩ := id p2
    refine callType_new F.called_zip (by decide) (F.typeCall_zip_2 _ _) (F.newCall_zip_2 _ _) (fun obj => F.args_object_init_3 obj _ _) F.entry_zip_new (meets_zipM a b us.toArray ws.toArray) ⟨p1.isList, (show s1.heap.IsTuple b ws.toArray from p2), ?_⟩
    have k0 : ∀ c o, s1.heap.get? c = some o → (((((s1.heap.push { cls := .type "list_iterator", data := .fields #[.ref a, .int 0 0] }).push { cls := .type "tuple_iterator", data := .fields #[.ref b, .int 0 0] }).push { cls := .type "tuple", data := .seq #[.ref s1.heap.objs.size, .ref (s1.heap.objs.size + 1)] }).push { cls := .type "tuple", data := .seq #[.none, .none] }).push (zipO .none false (s1.heap.objs.size + 2) (s1.heap.objs.size + 3))).get? c = some o :=
      fun c o e => Heap.get?_push_of_some _ (Heap.get?_push_of_some _ (Heap.get?_push_of_some _ (Heap.get?_push_of_some _ (Heap.get?_push_of_some _ e))))
    have g0 : ∀ {o1 o2 o3 o4 o5 : Obj}, o1.isFreed = false → o2.isFreed = false → o3.isFreed = false → o4.isFreed = false → o5.isFreed = false → (((((s1.heap.push o1).push o2).push o3).push o4).push o5).get? s1.heap.objs.size = some o1 ∧ (((((s1.heap.push o1).push o2).push o3).push o4).push o5).get? (s1.heap.objs.size + 1) = some o2 ∧ (((((s1.heap.push o1).push o2).push o3).push o4).push o5).get? (s1.heap.objs.size + 2) = some o3 ∧ (((((s1.heap.push o1).push o2).push o3).push o4).push o5).get? (s1.heap.objs.size + 3) = some o4 ∧ (((((s1.heap.push o1).push o2).push o3).push o4).push o5).get? (s1.heap.objs.size + 4) = some o5 := by
      intro o1 o2 o3 o4 o5 f1 f2 f3 f4 f5
      have z1 : (s1.heap.push o1).objs.size = s1.heap.objs.size + 1 := Heap.size_push ..
      have z2 : ((s1.heap.push o1).push o2).objs.size = s1.heap.objs.size + 2 := by rw [Heap.size_push, z1]
      have z3 : (((s1.heap.push o1).push o2).push o3).objs.size = s1.heap.objs.size + 3 := by rw [Heap.size_push, z2]
      have z4 : ((((s1.heap.push o1).push o2).push o3).push o4).objs.size = s1.heap.objs.size + 4 := by rw [Heap.size_push, z3]
      refine ⟨Heap.get?_push_of_some _ (Heap.get?_push_of_some _ (Heap.get?_push_of_some _ (Heap.get?_push_of_some _ (Heap.get?_push_size _ f1)))), ?_, ?_, ?_, ?_⟩
      · rw [← z1]; exact Heap.get?_push_of_some _ (Heap.get?_push_of_some _ (Heap.get?_push_of_some _ (Heap.get?_push_size _ f2)))
      · rw [← z2]; exact Heap.get?_push_of_some _ (Heap.get?_push_of_some _ (Heap.get?_push_size _ f3))
      · rw [← z3]; exact Heap.get?_push_of_some _ (Heap.get?_push_size _ f4)
      · rw [← z4]; exact Heap.get?_push_size _ f5
    obtain ⟨b1, b2, b3, b4, b5⟩ := g0 (o1 := { cls := .type "list_iterator", data := .fields #[.ref a, .int 0 0] }) (o2 := { cls := .type "tuple_iterator", data := .fields #[.ref b, .int 0 0] }) (o3 := { cls := .type "tuple", data := .seq #[.ref s1.heap.objs.size, .ref (s1.heap.objs.size + 1)] }) (o4 := { cls := .type "tuple", data := .seq #[.none, .none] }) (o5 := zipO .none false (s1.heap.objs.size + 2) (s1.heap.objs.size + 3)) rfl rfl rfl rfl rfl
    refine ⟨⟨_, b5, rfl⟩, args_nil ?_⟩
    exact zipTail hc I1 r1 r2 hl z1 (apart (Heap.lt_size hoa) (Heap.lt_size hob)) ⟨⟨.none, false, b5, .inl rfl⟩, b3, ⟨_, _, b4⟩, .inl ⟨⟨_, b1, rfl, rfl⟩, p1.isList.at fun o e => k0 _ o e⟩, .inr ⟨⟨_, b2, rfl, rfl⟩, ⟨ob, k0 _ _ hob, pb⟩⟩⟩ k0 (by rw [Heap.size_push, Heap.size_push, Heap.size_push, Heap.size_push, Heap.size_push]) q
end
end G35

/-! GRun1 -/
set_option Elab.async false
set_option linter.all false
set_option maxRecDepth 100000
set_option maxHeartbeats 4000000
/-! The searcher's state in the heap. -/
namespace G35
open PySem PySem.Spec PyProof.Rows L2
/-- rows of things -/
def Rp {α : Type} (R : Hp → α → V → Prop) (H : Hp) (xs : List α) (vs : List V) : Prop := vs.length = xs.length ∧ ∀ (i : Nat) (x : α) (v : V), xs[i]? = some x → vs[i]? = some v → R H x v
section
variable {α : Type} {R : Hp → α → V → Prop} {H H' : Hp}
theorem Rp.ex (hR : ∀ x v, R H x v → R H' x v) {xs : List α} {vs : List V} (h : Rp R H xs vs) : Rp R H' xs vs := ⟨h.1, fun i x v a b => hR x v (h.2 i x v a b)⟩
theorem Rp.nil : Rp R H [] [] := ⟨rfl, fun i x v a _ => by cases a⟩
theorem Rp.one {x : α} {v : V} (h : R H x v) : Rp R H [x] [v] := ⟨rfl, fun i y u a b => by
  cases i with
  | zero => cases a; cases b; exact h
  | succ i => cases a⟩
theorem Rp.append {xs ys : List α} {vs ws : List V} (h : Rp R H xs vs) (h' : Rp R H ys ws) : Rp R H (xs ++ ys) (vs ++ ws) := by
  refine ⟨by rw [List.length_append, List.length_append, h.1, h'.1], fun i x v a b => ?_⟩
  by_cases hi : i < xs.length
  · rw [List.getElem?_append_left hi] at a
    rw [List.getElem?_append_left (by rw [h.1]; exact hi)] at b
    exact h.2 i x v a b
  · rw [List.getElem?_append_right (Nat.le_of_not_lt hi)] at a
    rw [List.getElem?_append_right (by rw [h.1]; exact Nat.le_of_not_lt hi), h.1] at b
    exact h'.2 _ x v a b
theorem Rp.snoc {xs : List α} {vs : List V} {x : α} {v : V} (h : Rp R H xs vs) (h' : R H x v) : Rp R H (xs ++ [x]) (vs ++ [v]) := h.append (Rp.one h')
theorem Rp.cons {xs : List α} {vs : List V} {x : α} {v : V} (h' : R H x v) (h : Rp R H xs vs) : Rp R H (x :: xs) (v :: vs) := (Rp.one h').append h
theorem Rp.take {xs : List α} {vs : List V} (h : Rp R H xs vs) (n : Nat) : Rp R H (xs.take n) (vs.take n) := by
  refine ⟨by rw [List.length_take, List.length_take, h.1], fun i x v a b => ?_⟩
  rw [List.getElem?_take] at a b
  split at a
  · rename_i hi
    rw [if_pos hi] at b
    exact h.2 i x v a b
  · cases a
theorem Rp.tail {x : α} {xs : List α} {v : V} {vs : List V} (h : Rp R H (x :: xs) (v :: vs)) : R H x v ∧ Rp R H xs vs := by
  refine ⟨h.2 0 x v rfl rfl, by have := h.1; simpa using this, fun i y u a b => h.2 (i + 1) y u a b⟩
theorem Rp.un {x : α} {xs : List α} {vs : List V} (h : Rp R H (x :: xs) vs) : ∃ v r, vs = v :: r ∧ R H x v ∧ Rp R H xs r := by
  cases vs with
  | nil => have := h.1; cases this
  | cons v r => exact ⟨v, r, rfl, h.tail⟩
theorem Rp.last {x : α} {xs : List α} {vs : List V} (h : Rp R H (xs ++ [x]) vs) : ∃ a v, vs = a ++ [v] ∧ Rp R H xs a ∧ R H x v := by
  have hl := h.1
  rw [List.length_append] at hl
  have hne : vs ≠ [] := fun z => by
    rw [z] at hl
    simp at hl
  refine ⟨vs.dropLast, vs.getLast hne, (List.dropLast_concat_getLast hne).symm, ⟨by rw [List.length_dropLast, hl]; simp, fun i y u a b => ?_⟩, ?_⟩
  · have hi := (List.getElem?_eq_some_iff.mp a).1
    refine h.2 i y u (by rw [List.getElem?_append_left hi]; exact a) ?_
    rw [List.getElem?_dropLast] at b
    split at b
    · exact b
    · cases b
  · refine h.2 xs.length x _ (by rw [List.getElem?_append_right (Nat.le_refl _), Nat.sub_self]; rfl) ?_
    rw [List.getLast_eq_getElem]
    have : vs.length - 1 = xs.length := by rw [hl]; rfl
    rw [← this]
    exact List.getElem?_eq_getElem _
theorem Rp.empty {xs : List α} (h : Rp R H xs []) : xs = [] := List.length_eq_zero_iff.mp h.1.symm
theorem Rp.reverse {xs : List α} {vs : List V} (h : Rp R H xs vs) : Rp R H xs.reverse vs.reverse := by
  refine ⟨by rw [List.length_reverse, List.length_reverse, h.1], fun i x v a b => ?_⟩
  have hi := (List.getElem?_eq_some_iff.mp a).1
  rw [List.length_reverse] at hi
  rw [List.getElem?_reverse hi] at a
  rw [List.getElem?_reverse (by rw [h.1]; exact hi), h.1] at b
  exact h.2 _ x v a b
end
theorem repL_Rp {H : Hp} : ∀ {ts : List PT} {vs : List V}, RepL H ts vs → Rp RepT H ts vs
  | [], vs, h => by
    have e : vs = [] := h
    rw [e]
    exact Rp.nil
  | t :: ts, vs, h => by
    obtain ⟨v, r, e, h1, h2⟩ := h
    rw [e]
    exact Rp.cons h1 (repL_Rp h2)
theorem Rp_repL {H : Hp} : ∀ {ts : List PT} {vs : List V}, Rp RepT H ts vs → RepL H ts vs
  | [], vs, h => List.length_eq_zero_iff.mp h.1
  | t :: ts, vs, h => by
    obtain ⟨v, r, e, h1, h2⟩ := h.un
    exact ⟨v, r, e, h1, Rp_repL h2⟩
/-! entries, answers, rules -/
def RepG (H : Hp) (q : Option PT × Nat) (v : V) : Prop := ∃ (t : Addr) (gv : V), v = .ref t ∧ H t = some (.tup [gv, .int (q.2 : Int)]) ∧ (match q.1 with
  | none => gv = .non
  | some g => RepT H g gv)
def wayV (w : List Nat) : List V := w.map fun (n : Nat) => V.int ((n : Nat) : Int)
def RepE (H : Hp) (e : Ent) (v : V) : Prop := ∃ (t a d w : Addr) (gs : List V), v = .ref t ∧ H t = some (.tup [.ref a, .ref d, .ref w]) ∧ H a = some (.lst gs) ∧ Rp RepG H e.goals gs ∧ PutsAt H d e.puts ∧ H w = some (.lst (wayV e.way))
def RepPr (H : Hp) (q : Str × PT) (v : V) : Prop := ∃ (t : Addr) (u : V), v = .ref t ∧ H t = some (.tup [.str q.1, u]) ∧ RepT H q.2 u
def RepA (H : Hp) (a : Ans) (v : V) : Prop := ∃ (t l w : Addr) (ps : List V), v = .ref t ∧ H t = some (.tup [.ref l, .ref w]) ∧ H l = some (.lst ps) ∧ Rp RepPr H a.1 ps ∧ H w = some (.lst (wayV a.2))
def RepR (H : Hp) (r : Rule) (v : V) : Prop := ∃ (t b : Addr) (u : V) (bs : List V), v = .ref t ∧ H t = some (.tup [u, .ref b]) ∧ RepT H r.1 u ∧ H b = some (.tup bs) ∧ Rp RepT H r.2 bs
section
variable {H H' : Hp}
theorem RepG.ex (s : Same H H') {q : Option PT × Nat} {v : V} (h : RepG H q v) : RepG H' q v := by
  obtain ⟨t, gv, h1, h2, h3⟩ := h
  refine ⟨t, gv, h1, s _ _ h2, ?_⟩
  obtain ⟨o, n⟩ := q
  cases o with
  | none => exact h3
  | some g => exact RepT.ex (.of s) h3
theorem RepE.ex (s : Same H H') {q : Ent} {v : V} (h : RepE H q v) : RepE H' q v := by
  obtain ⟨t, a, d, w, gs, h1, h2, h3, h4, h5, h6⟩ := h
  exact ⟨t, a, d, w, gs, h1, s _ _ h2, s _ _ h3, h4.ex fun _ _ z => z.ex s, h5.same s, s _ _ h6⟩
theorem RepPr.ex (s : Same H H') {q : Str × PT} {v : V} (h : RepPr H q v) : RepPr H' q v := by
  obtain ⟨t, u, h1, h2, h3⟩ := h
  exact ⟨t, u, h1, s _ _ h2, h3.ex (.of s)⟩
theorem RepA.ex (s : Same H H') {q : Ans} {v : V} (h : RepA H q v) : RepA H' q v := by
  obtain ⟨t, l, w, ps, h1, h2, h3, h4, h5⟩ := h
  exact ⟨t, l, w, ps, h1, s _ _ h2, s _ _ h3, h4.ex fun _ _ z => z.ex s, s _ _ h5⟩
theorem RepR.ex (s : Same H H') {q : Rule} {v : V} (h : RepR H q v) : RepR H' q v := by
  obtain ⟨t, b, u, bs, h1, h2, h3, h4, h5⟩ := h
  exact ⟨t, b, u, bs, h1, s _ _ h2, h3.ex (.of s), s _ _ h4, h5.ex fun _ _ z => z.ex (.of s)⟩
end
/-- where the run has ended -/
def EndV (H : Hp) (f : Option Fin) (v : V) : Prop := match f with
  | none => v = .non
  | some .all => ∃ t, v = .ref t ∧ H t = some (.tup [.str "all"])
  | some .spent => ∃ t, v = .ref t ∧ H t = some (.tup [.str "spent"])
  | some .big => ∃ t, v = .ref t ∧ H t = some (.tup [.str "big"])
  | some .enough => ∃ t, v = .ref t ∧ H t = some (.tup [.str "enough"])
  | some (.fault w g) => ∃ t u, v = .ref t ∧ H t = some (.tup [.str "fault", .str w, u]) ∧ RepT H g u
theorem EndV.ex {H H' : Hp} (s : Same H H') {f : Option Fin} {v : V} (h : EndV H f v) : EndV H' f v := by
  match f, h with
  | none, h => exact h
  | some .all, ⟨t, h1, h2⟩ => exact ⟨t, h1, s _ _ h2⟩
  | some .spent, ⟨t, h1, h2⟩ => exact ⟨t, h1, s _ _ h2⟩
  | some .big, ⟨t, h1, h2⟩ => exact ⟨t, h1, s _ _ h2⟩
  | some .enough, ⟨t, h1, h2⟩ => exact ⟨t, h1, s _ _ h2⟩
  | some (.fault w g), ⟨t, u, h1, h2, h3⟩ => exact ⟨t, u, h1, s _ _ h2, h3.ex (.of s)⟩
/-- the heap without what changes -/
def er (H : Hp) (S : List Addr) : Hp := fun a => if a ∈ S then none else H a
theorem er_of {H : Hp} {S : List Addr} {a : Addr} {o : HO} (h : er H S a = some o) : a ∉ S ∧ H a = some o := by
  unfold er at h
  split at h
  · cases h
  · rename_i n
    exact ⟨n, h⟩
theorem er_at {H : Hp} {S : List Addr} {a : Addr} {o : HO} (n : a ∉ S) (h : H a = some o) : er H S a = some o := by
  unfold er
  rw [if_neg n]
  exact h
theorem er_same {H : Hp} {S : List Addr} : Same (er H S) H := fun a o h => (er_of h).2
theorem er_mono {H H' : Hp} {S : List Addr} (s : Same H H') : Same (er H S) (er H' S) := fun a o h => by
  obtain ⟨n, e⟩ := er_of h
  exact er_at n (s a o e)
theorem er_free {H : Hp} {S : List Addr} {a : Addr} (h : H a = none) : er H S a = none := by
  unfold er
  split
  · rfl
  · exact h
/-- terms do not stand where things change -/
theorem RepT.er {H : Hp} {S : List Addr} (hS : ∀ a ∈ S, ∀ xs, H a ≠ some (.tup xs)) {t : PT} {v : V} (h : RepT H t v) : RepT (er H S) t v :=
  h.ex fun a xs e => er_at (fun hm => hS a hm xs e) e
theorem PutsAt.er {H : Hp} {S : List Addr} (hS : ∀ a ∈ S, (∀ xs, H a ≠ some (.tup xs)) ∧ ∀ kvs, H a ≠ some (.dK kvs)) {d : Addr} {P : Puts} (h : PutsAt H d P) : PutsAt (er H S) d P := by
  obtain ⟨kvs, h1, h2⟩ := h
  exact ⟨kvs, er_at (fun hm => (hS d hm).2 kvs h1) h1, h2.ex fun a xs e => er_at (fun hm => (hS a hm).1 xs e) e⟩
def flds (ra aa : Addr) (b m : Int) (g : Addr) (t : Int) (e : V) (l : Addr) : List (Str × V) := [("rules", .ref ra), ("asked", .ref aa), ("bound", .int b), ("most", .int m), ("given", .ref g), ("taken", .int t), ("end", e), ("left", .ref l)]
/-- the run at p -/
structure RunAt (C : Addr) (B H : Hp) (p dx ra aa l g : Addr) (ev : V) (c : Cfg) (s : SSt) : Prop where
  ins : H p = some (.ins C dx (flds ra aa (c.bound : Int) (c.most : Int) g (s.taken : Int) ev l))
  fin : EndV (er H [p, l, g]) s.fin ev
  left : ∃ lv, H l = some (.lst lv) ∧ Rp RepE (er H [p, l, g]) s.left lv
  given : ∃ gv, H g = some (.lst gv) ∧ Rp RepA (er H [p, l, g]) s.given gv
  ne : l ≠ g
  base : Same B (er H [p, l, g])
  rules : ∃ rv, B ra = some (.lst rv) ∧ Rp RepR B c.rules rv
  asked : B aa = some (.lst (c.asked.map V.str))
section
variable {C : Addr} {B H : Hp} {p dx ra aa l g : Addr} {ev : V} {c : Cfg} {s : SSt}
theorem RunAt.out (R : RunAt C B H p dx ra aa l g ev c s) : ∀ a ∈ [p, l, g], (∀ xs, H a ≠ some (.tup xs)) ∧ ∀ kvs, H a ≠ some (.dK kvs) := by
  obtain ⟨lv, hl, _⟩ := R.left
  obtain ⟨gv, hg, _⟩ := R.given
  intro a ha
  simp only [List.mem_cons, List.not_mem_nil, or_false] at ha
  rcases ha with rfl | rfl | rfl
  · rw [R.ins]
    exact ⟨(fun xs z => nomatch z), (fun xs z => nomatch z)⟩
  · rw [hl]
    exact ⟨(fun xs z => nomatch z), (fun xs z => nomatch z)⟩
  · rw [hg]
    exact ⟨(fun xs z => nomatch z), (fun xs z => nomatch z)⟩
theorem RunAt.pl (R : RunAt C B H p dx ra aa l g ev c s) : p ≠ l ∧ p ≠ g := by
  obtain ⟨lv, hl, _⟩ := R.left
  obtain ⟨gv, hg, _⟩ := R.given
  refine ⟨fun z => ?_, fun z => ?_⟩
  · have := R.ins
    rw [z, hl] at this
    cases this
  · have := R.ins
    rw [z, hg] at this
    cases this
theorem RunAt.same (R : RunAt C B H p dx ra aa l g ev c s) {H' : Hp} (e : Same H H') : RunAt C B H' p dx ra aa l g ev c s := by
  obtain ⟨lv, hl, hL⟩ := R.left
  obtain ⟨gv, hg, hG⟩ := R.given
  have em := er_mono (S := [p, l, g]) e
  exact ⟨e _ _ R.ins, R.fin.ex em, ⟨lv, e _ _ hl, hL.ex fun _ _ z => z.ex em⟩, ⟨gv, e _ _ hg, hG.ex fun _ _ z => z.ex em⟩, R.ne, fun a o h => em a o (R.base a o h), R.rules, R.asked⟩
theorem RunAt.sub (R : RunAt C B H p dx ra aa l g ev c s) : Same B H := fun a o h => er_same a o (R.base a o h)
end
end G35

/-! GRun2 -/
set_option Elab.async false
set_option linter.all false
set_option maxRecDepth 100000
set_option maxHeartbeats 4000000
/-! Rules for the class Run. -/
namespace G35
open PySem PySem.Spec PyProof.Rows L2
/-! a list and the empty list -/
def rEqL0 (K : PySem.W.Frag) : R2 := fun x y H Q => ∃ a b xs, x = .ref a ∧ y = .ref b ∧ SqL K H a xs ∧ SqL K H b [] ∧ Q (.bl (decide (xs.length = 0))) H
def rNeL0 (K : PySem.W.Frag) : R2 := fun x y H Q => ∃ a b xs, x = .ref a ∧ y = .ref b ∧ SqL K H a xs ∧ SqL K H b [] ∧ Q (.bl (!decide (xs.length = 0))) H
section
variable {X : Cx}
theorem op_eqL0 (hu : X.A.units + 1 < cLine) : OpR X (compareOp .Eq) (rEqL0 X.K) := by
  intro pins s σ H x y v u Q I rx ry h
  obtain ⟨a, b, xs, rfl, rfl, ha, hb, q⟩ := h
  cases rx
  cases ry
  obtain ⟨us, r1, p1, _⟩ := I.list ha
  obtain ⟨ws, r2, p2, _⟩ := I.list hb
  cases r2
  have l1 := r1.length
  by_cases e : xs.length = 0
  · rw [decide_eq_true e] at q
    have k := SeqAt.RcAt.lists (A := X.A) (s := s) (e := fun _ => true) p1.isList p2.isList (by rw [List.size_toArray, List.size_toArray, ← l1, e]; rfl) (by omega) (fun j h1 h2 => absurd h2 (by simp))
    rw [show (List.range us.toArray.size).all (fun _ => true) = true from List.all_eq_true.mpr fun _ _ => rfl] at k
    exact k X.prog X.w _ _ ⟨.bl true, H, I, rfl, q⟩
  · rw [decide_eq_false e] at q
    have k := SeqAt.RcAt.lists_lengths (A := X.A) (s := s) p1.isList p2.isList (by simp; intro z; rw [z] at l1; exact e l1) (by omega)
    exact k X.prog X.w _ _ ⟨.bl false, H, I, rfl, q⟩
theorem op_neL0 (hu : X.A.units + 1 < cLine) : OpR X (compareOp .NotEq) (rNeL0 X.K) := by
  intro pins s σ H x y v u Q I rx ry h
  obtain ⟨a, b, xs, rfl, rfl, ha, hb, q⟩ := h
  cases rx
  cases ry
  obtain ⟨us, r1, p1, _⟩ := I.list ha
  obtain ⟨ws, r2, p2, _⟩ := I.list hb
  cases r2
  have l1 := r1.length
  by_cases e : xs.length = 0
  · rw [decide_eq_true e] at q
    have k := SeqAt.RcNeAt.lists (A := X.A) (s := s) (e := fun _ => true) p1.isList p2.isList (by rw [List.size_toArray, List.size_toArray, ← l1, e]; rfl) (by omega) (fun j h1 h2 => absurd h2 (by simp))
    rw [show (List.range us.toArray.size).all (fun _ => true) = true from List.all_eq_true.mpr fun _ _ => rfl] at k
    exact k X.prog X.w _ _ ⟨.bl false, H, I, rfl, q⟩
  · rw [decide_eq_false e] at q
    have k := SeqAt.RcNeAt.lists_lengths (A := X.A) (s := s) p1.isList p2.isList (by simp; intro z; rw [z] at l1; exact e l1) (by omega)
    exact k X.prog X.w _ _ ⟨.bl true, H, I, rfl, q⟩
end
theorem cutV_pre (xs : List V) (n : Nat) : cutV xs none (some (n : Int)) = xs.take n := by
  unfold cutV
  rw [HT.sIx_none, HT.sIx_nat, List.drop_zero, Nat.sub_zero]
  by_cases h : n ≤ xs.length
  · rw [Nat.min_eq_left h]
  · rw [Nat.min_eq_right (by omega), List.take_length, List.take_of_length_le (by omega)]
theorem cutV_suf (xs : List V) (n : Nat) : cutV xs (some (n : Int)) none = xs.drop n := by
  unfold cutV
  rw [HT.sIx_none, HT.sIx_nat]
  by_cases h : n ≤ xs.length
  · rw [Nat.min_eq_left h, List.take_of_length_le (by rw [List.length_drop]; exact Nat.le_refl _)]
  · rw [Nat.min_eq_right (by omega), List.drop_length, List.drop_of_length_le (by omega)]
    simp
/-! facts of the class -/
structure R36 (K : PySem.W.Frag) (mg : Str → Option Value) : Prop where
  cls : Cls K (He.ga K "Run")
  noat : ∀ f ∈ (["rules", "asked", "bound", "most", "given", "taken", "end", "left"] : List Str), NoAttr K (He.ga K "Run") f
  meth : ∀ m ∈ (["step", "tell", "take", "fault", "take_not", "take_deed", "take_named"] : List Str), Meth K (He.ga K "Run") m (He.ma K (He.ga K "Run") m)
  made : Mk K (He.ga K "Run") (He.ma K (He.ga K "Run") "__init__")
  mgR : mg "Run" = some (.ref (He.ga K "Run"))
/-- a method -/
structure Mtd (P : Program) (w : World) (K : PySem.W.Frag) (mg : Str → Option Value) (base : Heap) (k : Nat) (m : Str) (ps : List Str) (sp : Sp) : Prop where
  ex : ∃ fd, FnOk P w K mg base CX0 k (He.ma K (He.ga K "Run") m) fd ps sp ∧ Binds K fd ps []
section
variable {X : Cx} {k j : Nat} {m : Str} {ps : List Str} {sp : Sp} {apos pos : Pos} {o e : Expr} {es : List Expr} {ta : TE} {t : TA}
theorem pe_mtd {pl : Sem Bool} (R : R36 X.K X.mg) (c : Mtd X.prog X.w X.K X.mg X.base k m ps sp) (hm : m ∈ (["step", "tell", "take", "fault", "take_not", "take_deed", "take_named"] : List Str)) (hr : Room j X.A) (hk : k ≤ j) (he : PE X o ta) (ha : PA X (e :: es) t)
    (hst : starEach (e :: es) X.env = (false, eval e X.env) :: starEach es X.env := by rfl) (hpl : (backTo pos (starEach es X.env)).any (·.1) = false := by rfl)
    (ht : eval (.Call (.Attribute o m apos) (e :: es) [] pos) X.env = (do
      let ov ← eval o X.env
      standAt apos.atName
      let (f, first) ← holding [ov] (getMethod ov m pl)
      callWith pos f first (backTo pos (starEach (e :: es) X.env)) (backToKw pos (keywordEach [] X.env))) := by rfl) :
    PE X (.Call (.Attribute o m apos) (e :: es) [] pos) (tMeth (He.ga X.K "Run") m sp [] E0 ta t) := by
  obtain ⟨fd, F, b⟩ := c.ex
  exact pe_meth he R.cls (R.meth m hm) F (hr.mono hk) b .nil pass0 ha hst hpl ht
theorem pe_mtd0 {pl : Sem Bool} (R : R36 X.K X.mg) (c : Mtd X.prog X.w X.K X.mg X.base k m ps sp) (hm : m ∈ (["step", "tell", "take", "fault", "take_not", "take_deed", "take_named"] : List Str)) (hr : Room j X.A) (hk : k ≤ j) (he : PE X o ta)
    (ht : eval (.Call (.Attribute o m apos) [] [] pos) X.env = (do
      let ov ← eval o X.env
      standAt apos.atName
      let (f, first) ← holding [ov] (getMethod ov m pl)
      callWith pos f first (backTo pos (starEach [] X.env)) (backToKw pos (keywordEach [] X.env))) := by rfl) :
    PE X (.Call (.Attribute o m apos) [] [] pos) (tMeth (He.ga X.K "Run") m sp [] E0 ta tNil) := by
  obtain ⟨fd, F, b⟩ := c.ex
  exact pe_meth0 he R.cls (R.meth m hm) F (hr.mono hk) b .nil pass0 ht
end
theorem mtd_of {P : Program} {w : World} {K : PySem.W.Frag} {mg : Str → Option Value} {base : Heap} {d : He.DefD} {m : Str} {k : Nat} {N ps : List Str} {sp : Sp} (T : T35 K mg) (i : Nat) (hi : fn[i]? = some d) (hx : d.at_ = (("Run" : Str), some m)) (hd : d.dfl = []) (hk : d.kwd = [])
    (S : FnScope N ps d.scope) (len : ∀ vs H Q E, sp vs H Q E → vs.length = ps.length)
    (hb : ∀ (kV doc pm : Value) (an : Option Addr) (cdv ct : Value) (us : List Value), us.length = ps.length → bindArgs (PySem.W.fnOf d.name d.qual d.params d.body d.scope .none kV doc pm an cdv ct) ⟨us, []⟩ = pure (ps.zip us))
    (hbody : ∀ (cdv : Value) (A : Around) (outer : List Env) (s : Shared) (H : Hp) (vs : List V) (Q : VK) (E : XK), Room k (A.deeper (envOfC d.qual d.scope s.heap.objs.size (He.ma K (He.ga K "Run") m) cdv)) → sp vs H Q E →
      ∃ t, PSs (cxOf CX0 P w K mg base N d.qual d.scope (He.ma K (He.ga K "Run") m) cdv A outer s H E).nox d.body t ∧ t { nx := fun _ H' => Q .non H', rt := Q } (start N vs) H) : Mtd P w K mg base (k + 1) m ps sp := by
  obtain ⟨⟨fd, F⟩, g⟩ := T.def_ i d hi
  have e : He.fAd K d.at_ = He.ma K (He.ga K "Run") m := by rw [hx]; rfl
  rw [e] at F
  have e1 : d.dvs K = [] := by unfold He.DefD.dvs; rw [hd]; rfl
  rw [e1] at F
  refine ⟨⟨fd, F.ok S len fun cdv A outer s H vs Q E hr hsp => ?_, F.bindsN hb⟩⟩
  obtain ⟨t, h, q⟩ := hbody cdv A outer s H vs Q E hr hsp
  exact ⟨t, h.nox, q⟩
section
variable {K : PySem.W.Frag} {mg : Str → Option Value} {σ : L2.St} {H : Hp} {ta te : TE} {tr : TA} {p dx : Addr} {fs : List (Str × V)} {f : Str} {v : V} {Q : VK} {D : Ends}
theorem rd_fld (R : R36 K mg) (hf : f ∈ (["rules", "asked", "bound", "most", "given", "taken", "end", "left"] : List Str)) (ha : Rds ta σ H (.ref p)) (h : H p = some (.ins (He.ga K "Run") dx fs)) (hl : fs.lookup f = some v) : Rds (tFld K ta f) σ H v := fun Q q =>
  ha _ ⟨p, _, dx, fs, v, rfl, h, R.cls, R.noat f hf, hl, q⟩
theorem s_fld (R : R36 K mg) (hf : f ∈ (["rules", "asked", "bound", "most", "given", "taken", "end", "left"] : List Str)) (hv : Rds te σ H v) (ha : Rds ta σ H (.ref p)) (h : H p = some (.ins (He.ga K "Run") dx fs)) (hz : fs.length < 1000) (k : D.nx σ (upd H p (.ins (He.ga K "Run") dx (putF f v fs)))) : sFld K ta te f D σ H :=
  hv _ (ha _ ⟨p, _, dx, fs, rfl, h, R.cls, R.noat f hf, hz, k⟩)
theorem x_mtd {m : Str} {sp : Sp} {vs : List V} (ha : Rds ta σ H (.ref p)) (h : H p = some (.ins (He.ga K "Run") dx fs)) (hl : fs.lookup m = none) (hr : RdA tr σ H vs) (k : sp (.ref p :: vs) H Q E0) : tMeth (He.ga K "Run") m sp [] E0 ta tr σ H Q :=
  ha _ ⟨p, dx, fs, rfl, h, hl, hr _ (by rw [List.append_nil]; exact k)⟩
end
section
variable {ra aa g l l' : Addr} {b m t t' : Int} {e e' : V}
theorem fl_rules : (flds ra aa b m g t e l).lookup ("rules" : Str) = some (.ref ra) := rfl
theorem fl_asked : (flds ra aa b m g t e l).lookup ("asked" : Str) = some (.ref aa) := rfl
theorem fl_bound : (flds ra aa b m g t e l).lookup ("bound" : Str) = some (.int b) := rfl
theorem fl_most : (flds ra aa b m g t e l).lookup ("most" : Str) = some (.int m) := rfl
theorem fl_given : (flds ra aa b m g t e l).lookup ("given" : Str) = some (.ref g) := rfl
theorem fl_taken : (flds ra aa b m g t e l).lookup ("taken" : Str) = some (.int t) := rfl
theorem fl_end : (flds ra aa b m g t e l).lookup ("end" : Str) = some e := rfl
theorem fl_left : (flds ra aa b m g t e l).lookup ("left" : Str) = some (.ref l) := rfl
theorem fp_left : putF ("left" : Str) (.ref l') (flds ra aa b m g t e l) = flds ra aa b m g t e l' := rfl
theorem fp_end : putF ("end" : Str) e' (flds ra aa b m g t e l) = flds ra aa b m g t e' l := rfl
theorem fp_taken : putF ("taken" : Str) (.int t') (flds ra aa b m g t e l) = flds ra aa b m g t' e l := rfl
theorem fl_len : (flds ra aa b m g t e l).length < 1000 := by show 8 < 1000; decide
theorem fl_meth {n : Str} (h : n ∈ (["step", "tell", "take", "fault", "take_not", "take_deed", "take_named"] : List Str)) : (flds ra aa b m g t e l).lookup n = none := by
  simp only [List.mem_cons, List.not_mem_nil, or_false] at h
  rcases h with rfl | rfl | rfl | rfl | rfl | rfl | rfl <;> rfl
end
end G35

/-! GRun3 -/
set_option Elab.async false
set_option linter.all false
set_option maxRecDepth 100000
set_option maxHeartbeats 4000000
namespace G35
open PySem PySem.Spec PyProof.Rows L2
/-- a method, also called while an exception is handled -/
structure MtdB (P : Program) (w : World) (K : PySem.W.Frag) (mg : Str → Option Value) (base : Heap) (k : Nat) (m : Str) (ps : List Str) (sp : Sp) : Prop where
  ex : ∃ fd, FnOk P w K mg base CX0 k (He.ma K (He.ga K "Run") m) fd ps sp ∧ L2H.FnH P w K mg base CX0 k (He.ma K (He.ga K "Run") m) fd ps sp ∧ Binds K fd ps []
theorem MtdB.mtd {P : Program} {w : World} {K : PySem.W.Frag} {mg : Str → Option Value} {base : Heap} {k : Nat} {m : Str} {ps : List Str} {sp : Sp} (c : MtdB P w K mg base k m ps sp) : Mtd P w K mg base k m ps sp := by
  obtain ⟨fd, F, _, b⟩ := c.ex
  exact ⟨⟨fd, F, b⟩⟩
theorem mtdB_of {P : Program} {w : World} {K : PySem.W.Frag} {mg : Str → Option Value} {base : Heap} {d : He.DefD} {m : Str} {k : Nat} {N ps : List Str} {sp : Sp} (T : T35 K mg) (i : Nat) (hi : fn[i]? = some d) (hx : d.at_ = (("Run" : Str), some m)) (hd : d.dfl = []) (hk : d.kwd = [])
    (S : FnScope N ps d.scope) (len : ∀ vs H Q E, sp vs H Q E → vs.length = ps.length)
    (hb : ∀ (kV doc pm : Value) (an : Option Addr) (cdv ct : Value) (us : List Value), us.length = ps.length → bindArgs (PySem.W.fnOf d.name d.qual d.params d.body d.scope .none kV doc pm an cdv ct) ⟨us, []⟩ = pure (ps.zip us))
    (hbody : ∀ (cdv : Value) (A : Around) (outer : List Env) (s : Shared) (H : Hp) (vs : List V) (Q : VK) (E : XK) (b : Bool) (pn : List (Addr × Obj)), Ok1 (cxB P w K mg base N d.qual d.scope (He.ma K (He.ga K "Run") m) cdv A outer s H E b pn) → L2H.RoomH k (cxB P w K mg base N d.qual d.scope (He.ma K (He.ga K "Run") m) cdv A outer s H E b pn).A → sp vs H Q E →
      ∃ t, PSs (cxB P w K mg base N d.qual d.scope (He.ma K (He.ga K "Run") m) cdv A outer s H E b pn) d.body t ∧ t { nx := fun _ H' => Q .non H', rt := Q } (L2.start N vs) H) : MtdB P w K mg base (k + 1) m ps sp := by
  obtain ⟨⟨fd, F⟩, g⟩ := T.def_ i d hi
  have e : He.fAd K d.at_ = He.ma K (He.ga K "Run") m := by rw [hx]; rfl
  rw [e] at F
  have e1 : d.dvs K = [] := by unfold He.DefD.dvs; rw [hd]; rfl
  rw [e1] at F
  refine ⟨⟨fd, F.ok S len fun cdv A outer s H vs Q E hr hsp => ?_, ?_, F.bindsN hb⟩⟩
  · obtain ⟨t, h, q⟩ := hbody cdv A outer s H vs Q E true [] (.inl rfl) (L2H.roomH_of hr) hsp
    exact ⟨t, PSs.nox h, q⟩
  · obtain ⟨oc, od, dV, kV, doc, pm, an, cdv, ct, osl, rfl, lk, hcd, _, _⟩ := F.ex
    refine L2H.fn_ofH lk hcd S len fun A outer s H vs Q E p hot hr hsp => ?_
    obtain ⟨t, h, q⟩ := hbody cdv A outer s H vs Q E false [p] (.inr ⟨p, hot, List.mem_singleton.mpr rfl⟩) hr hsp
    exact ⟨t, PSs.nox h, q⟩
theorem tolds_one (t : PT) : tolds [t] = [told1 t] := by
  unfold tolds told1 varsT
  simp only [List.flatMap_cons, List.flatMap_nil, List.append_nil, List.map_cons, List.map_nil]
theorem RunAt.out' {C : Addr} {B H : Hp} {p dx ra aa l g : Addr} {ev : V} {c : Cfg} {s : SSt} (R : RunAt C B H p dx ra aa l g ev c s) : ∀ a ∈ [p, l, g], ∀ xs, H a ≠ some (.tup xs) := fun a ha => (R.out a ha).1
/-! ### fault -/
def Out (C : Addr) (B : Hp) (p dx ra aa g : Addr) (c : Cfg) (s : SSt) (Q : VK) : Prop := ∀ H' l ev, RunAt C B H' p dx ra aa l g ev c s → Q .non H'
def spFlt (K : PySem.W.Frag) : Sp := fun vs H Q _ => ∃ (B : Hp) (p dx ra aa l g : Addr) (ev : V) (c : Cfg) (s : SSt) (wd : Str) (t : PT) (v : V), vs = [.ref p, .str wd, v] ∧ RunAt (He.ga K "Run") B H p dx ra aa l g ev c s ∧ RepT H t v ∧ t.size ≤ 40 ∧ Out (He.ga K "Run") B p dx ra aa g c { s with fin := some (.fault wd (told1 t)) } Q
/-- the end is set -/
theorem RunAt.end_ {C : Addr} {B H H' : Hp} {p dx ra aa l g : Addr} {ev ev' : V} {c : Cfg} {s : SSt} {f : Option Fin} (R : RunAt C B H p dx ra aa l g ev c s) (e : Same H H') (h : EndV (er H' [p, l, g]) f ev') :
    RunAt C B (upd H' p (.ins C dx (flds ra aa (c.bound : Int) (c.most : Int) g (s.taken : Int) ev' l))) p dx ra aa l g ev' c { s with fin := f } := by
  have R' := R.same e
  obtain ⟨lv, hl, hL⟩ := R'.left
  obtain ⟨gv, hg, hG⟩ := R'.given
  obtain ⟨n1, n2⟩ := R.pl
  have eu : er (upd H' p (.ins C dx (flds ra aa (c.bound : Int) (c.most : Int) g (s.taken : Int) ev' l))) [p, l, g] = er H' [p, l, g] := by
    funext a
    unfold er
    by_cases ha : a ∈ [p, l, g]
    · rw [if_pos ha, if_pos ha]
    · rw [if_neg ha, if_neg ha, upd_ne fun z => ha (by rw [z]; exact List.mem_cons_self ..)]
  refine ⟨upd_same, by rw [eu]; exact h, ⟨lv, by rw [upd_ne n1.symm]; exact hl, by rw [eu]; exact hL⟩, ⟨gv, by rw [upd_ne n2.symm]; exact hg, by rw [eu]; exact hG⟩, R.ne, by rw [eu]; exact R'.base, R.rules, R.asked⟩
section
variable {P : Program} {w : World} {K : PySem.W.Frag} {mg : Str → Option Value} {base : Heap}
theorem sc_fault : FnScope ["self", "word", "goal"] ["self", "word", "goal"] d_Run_fault.scope := ⟨rfl, rfl, rfl, by decide +kernel, rfl, by decide +kernel, by decide +kernel⟩
theorem ok_fault (T : T35 K mg) (R6 : R36 K mg) : MtdB P w K mg base 44 "fault" ["self", "word", "goal"] (spFlt K) := by
  have cT := ok_told (P := P) (w := w) (base := base) T 40
  refine mtdB_of (d := d_Run_fault) T 24 rfl rfl rfl rfl sc_fault (fun vs H Q E h => ?_) (fun _ _ _ _ _ _ us hl => match us, hl with | [_, _, _], _ => rfl) (fun cdv A outer s H vs Q E b pn c1 hr h => ?_)
  · obtain ⟨B, p, dx, ra, aa, l, g, ev, c, s, wd, t, v, rfl, _⟩ := h
    rfl
  · obtain ⟨B, p, dx, ra, aa, l, g, ev, c, s, wd, t, v, rfl, R, ht, hsz, k⟩ := h
    refine ⟨_, (pss_one (ps_fld (pv 0) (pe_tup (pa_cons pe_str (pa_cons (pv 1) (pa_cons (pe_ix ix_list (pe_clB cT c1 hr (by omega) rfl (pa_cons (pe_lst (pa_cons (pv 2) pa_nil)) pa_nil)) pe_int (fun _ _ => rfl)) pa_nil)))) rfl)), ?_⟩
    refine ⟨.str wd, rfl, v, rfl, sz (by simp), fun q hq => ?_⟩
    have hS1 := same_new (o := HO.lst [v]) hq
    have hz : sizes [t] ≤ 100000 := by
      rw [sizes_cons, sizes_nil]
      omega
    refine ⟨q, [t], [v], rfl, upd_same, RepL.cons (ht.ex (.of hS1)) RepL.nil, hz, fun u hu => ?_, fun q2 us H2 hS2 hn2 hq2 hL => ?_⟩
    · rw [List.mem_singleton.mp hu]
      exact Nat.le_trans t.depth_le_size hsz
    have et : tolds [t] = [told1 t] := tolds_one t
    rw [et] at hL
    obtain ⟨u, us', rfl, hu, hn⟩ := hL
    have hn : us' = [] := hn
    subst hn
    refine ⟨q2, [u], (0 : Nat), u, rfl, rfl, SqL.of hq2, rfl, sz (by simp), fun q3 hq3 => ?_⟩
    have hS3 := (hS1.trans hS2).trans (same_new (o := HO.tup [.str "fault", .str wd, u]) hq3)
    have R3 := R.same hS3
    refine ⟨.ref p, rfl, p, _, dx, _, rfl, R3.ins, R6.cls, R6.noat "end" (by simp), fl_len, ?_⟩
    refine k _ l (.ref q3) ?_
    refine R.end_ hS3 ⟨q3, u, rfl, er_at (fun hm => ?_) upd_same, (hu.ex (tupex_new hq3)).er R3.out'⟩
    exact (R3.out _ hm).1 _ upd_same
end
end G35

/-! GRun4 -/
set_option Elab.async false
set_option linter.all false
set_option maxRecDepth 100000
set_option maxHeartbeats 4000000
namespace G35
open PySem PySem.Spec PyProof.Rows L2
/-! ### the run changes -/
theorem er_upd {H : Hp} {S : List Addr} {a : Addr} {o : HO} (h : a ∈ S) : er (upd H a o) S = er H S := by
  funext b
  unfold er
  by_cases hb : b ∈ S
  · rw [if_pos hb, if_pos hb]
  · rw [if_neg hb, if_neg hb, upd_ne fun z => hb (by rw [z]; exact h)]
theorem er_new {H : Hp} {S : List Addr} {p : Addr} {o : HO} (hS : ∀ a ∈ S, H a ≠ none) (hp : H p = none) : er (upd H p o) S p = some o := er_at (fun hm => hS p hm hp) upd_same
section
variable {C : Addr} {B H H' : Hp} {p dx ra aa l l' g : Addr} {ev : V} {c : Cfg} {s : SSt}
theorem RunAt.known (R : RunAt C B H p dx ra aa l g ev c s) : ∀ a ∈ [p, l, g], H a ≠ none := by
  obtain ⟨lv, hl, _⟩ := R.left
  obtain ⟨gv, hg, _⟩ := R.given
  intro a ha
  simp only [List.mem_cons, List.not_mem_nil, or_false] at ha
  rcases ha with rfl | rfl | rfl
  · rw [R.ins]; exact fun z => nomatch z
  · rw [hl]; exact fun z => nomatch z
  · rw [hg]; exact fun z => nomatch z
theorem RunAt.lft (R : RunAt C B H p dx ra aa l g ev c s) : ∃ lv, H l = some (.lst lv) ∧ lv.length = s.left.length ∧ Rp RepE (er H [p, l, g]) s.left lv := by
  obtain ⟨lv, hl, h⟩ := R.left
  exact ⟨lv, hl, h.1, h⟩
theorem RunAt.left_ (R : RunAt C B H p dx ra aa l g ev c s) {left' : List Ent} {lv' : List V} (h : Rp RepE (er H [p, l, g]) left' lv') : RunAt C B (upd H l (.lst lv')) p dx ra aa l g ev c { s with left := left' } := by
  obtain ⟨gv, hg, hG⟩ := R.given
  obtain ⟨n1, n2⟩ := R.pl
  have e : er (upd H l (.lst lv')) [p, l, g] = er H [p, l, g] := er_upd (by simp)
  exact ⟨by rw [upd_ne n1]; exact R.ins, by rw [e]; exact R.fin, ⟨lv', upd_same, by rw [e]; exact h⟩, ⟨gv, by rw [upd_ne R.ne.symm]; exact hg, by rw [e]; exact hG⟩, R.ne, by rw [e]; exact R.base, R.rules, R.asked⟩
theorem RunAt.push (R : RunAt C B H p dx ra aa l g ev c s) {lv : List V} (hl : H l = some (.lst lv)) {e : Ent} {v : V} (he : RepE (er H [p, l, g]) e v) : RunAt C B (upd H l (.lst (lv ++ [v]))) p dx ra aa l g ev c { s with left := s.left ++ [e] } := by
  obtain ⟨lv', hl', h⟩ := R.left
  rw [hl] at hl'
  cases hl'
  exact R.left_ (h.snoc he)
theorem RunAt.given_ (R : RunAt C B H p dx ra aa l g ev c s) {gv : List V} (hg : H g = some (.lst gv)) {a : Ans} {v : V} (ha : RepA (er H [p, l, g]) a v) : RunAt C B (upd H g (.lst (gv ++ [v]))) p dx ra aa l g ev c { s with given := s.given ++ [a] } := by
  obtain ⟨gv', hg', h⟩ := R.given
  rw [hg] at hg'
  cases hg'
  obtain ⟨lv, hl, hL⟩ := R.left
  obtain ⟨n1, n2⟩ := R.pl
  have e : er (upd H g (.lst (gv ++ [v]))) [p, l, g] = er H [p, l, g] := er_upd (by simp)
  exact ⟨by rw [upd_ne n2]; exact R.ins, by rw [e]; exact R.fin, ⟨lv, by rw [upd_ne R.ne]; exact hl, by rw [e]; exact hL⟩, ⟨_, upd_same, by rw [e]; exact h.snoc ha⟩, R.ne, by rw [e]; exact R.base, R.rules, R.asked⟩
theorem RunAt.taken_ (R : RunAt C B H p dx ra aa l g ev c s) (n : Nat) : RunAt C B (upd H p (.ins C dx (flds ra aa (c.bound : Int) (c.most : Int) g (n : Int) ev l))) p dx ra aa l g ev c { s with taken := n } := by
  obtain ⟨gv, hg, hG⟩ := R.given
  obtain ⟨lv, hl, hL⟩ := R.left
  obtain ⟨n1, n2⟩ := R.pl
  have e : er (upd H p (.ins C dx (flds ra aa (c.bound : Int) (c.most : Int) g (n : Int) ev l))) [p, l, g] = er H [p, l, g] := er_upd (by simp)
  exact ⟨upd_same, by rw [e]; exact R.fin, ⟨lv, by rw [upd_ne n1.symm]; exact hl, by rw [e]; exact hL⟩, ⟨gv, by rw [upd_ne n2.symm]; exact hg, by rw [e]; exact hG⟩, R.ne, by rw [e]; exact R.base, R.rules, R.asked⟩
/-- the field left is set to a new list -/
theorem er_moved (e : Same H H') (hp : ∀ o, H' p = some o → True) (hn : H l' = none) {o : HO} : Same (er H [p, l, g]) (er (upd H' p o) [p, l', g]) := fun a u h => by
  obtain ⟨n, h1⟩ := er_of h
  have nl : a ≠ l' := fun z => by rw [z, hn] at h1; cases h1
  have np : a ≠ p := fun z => n (by rw [z]; simp)
  have ng : a ≠ g := fun z => n (by rw [z]; simp)
  refine er_at (by simp [nl, np, ng]) ?_
  rw [upd_ne np]
  exact e _ _ h1
theorem RunAt.newl (R : RunAt C B H p dx ra aa l g ev c s) (e : Same H H') (hn : H l' = none) {left' : List Ent} {lv' : List V} (hl' : H' l' = some (.lst lv')) (h : Rp RepE (er (upd H' p (.ins C dx (flds ra aa (c.bound : Int) (c.most : Int) g (s.taken : Int) ev l'))) [p, l', g]) left' lv') :
    RunAt C B (upd H' p (.ins C dx (flds ra aa (c.bound : Int) (c.most : Int) g (s.taken : Int) ev l'))) p dx ra aa l' g ev c { s with left := left' } := by
  obtain ⟨gv, hg, hG⟩ := R.given
  obtain ⟨n1, n2⟩ := R.pl
  have em := er_moved (o := .ins C dx (flds ra aa (c.bound : Int) (c.most : Int) g (s.taken : Int) ev l')) (p := p) (l := l) (g := g) e (fun _ _ => trivial) hn
  have n3 : l' ≠ p := fun z => by rw [z, R.ins] at hn; cases hn
  have n4 : l' ≠ g := fun z => by rw [z, hg] at hn; cases hn
  exact ⟨upd_same, R.fin.ex em, ⟨lv', by rw [upd_ne n3]; exact hl', h⟩, ⟨gv, by rw [upd_ne n2.symm]; exact e _ _ hg, hG.ex fun _ _ z => z.ex em⟩, n4, fun a o h => em a o (R.base a o h), R.rules, R.asked⟩
end
theorem firsts_nil {l : List Str} : firsts l = [] ↔ l = [] := by
  constructor
  · intro h
    cases l with
    | nil => rfl
    | cons x l =>
      have : x ∈ firsts (x :: l) := mem_firsts.mpr (List.mem_cons_self ..)
      rw [h] at this
      cases this
  · rintro rfl
    rfl
/-- a list's append -/
theorem s_push {K : PySem.W.Frag} {σ : L2.St} {H : Hp} {ta te : TE} {l : Addr} {lv : List V} {D : Ends} (ha : Rds ta σ H (.ref l)) (hl : H l = some (.lst lv)) (he : te σ H fun v H1 => rAppend (.ref l) [v] H1 fun _ H2 => D.nx σ H2) : tDrop (tBM K "list" rAppend ta (tCons te tNil)) D σ H :=
  ha _ ⟨.inl ⟨rfl, _, SqL.of hl⟩, he⟩
theorem x_tupc {σ : L2.St} {H : Hp} {te : TE} {tr : TA} {Q : VK} (h : te σ H fun v H1 => tr σ H1 fun vs H2 => (v :: vs).length ≤ sizeLine ∧ ∀ p, H2 p = none → Q (.ref p) (upd H2 p (.tup (v :: vs)))) : tTup (tCons te tr) σ H Q := h
theorem x_lstc {σ : L2.St} {H : Hp} {te : TE} {tr : TA} {Q : VK} (h : te σ H fun v H1 => tr σ H1 fun vs H2 => (v :: vs).length ≤ sizeLine ∧ ∀ p, H2 p = none → Q (.ref p) (upd H2 p (.lst (v :: vs)))) : tLst (tCons te tr) σ H Q := h
theorem x_c {σ : L2.St} {H : Hp} {te : TE} {tr : TA} {Q : List V → Hp → Prop} (h : te σ H fun v H1 => tr σ H1 fun vs H2 => Q (v :: vs) H2) : tCons te tr σ H Q := h
def spNotM (K : PySem.W.Frag) : Sp := fun vs H Q _ => ∃ (B : Hp) (p dx ra aa l g : Addr) (ev : V) (c : Cfg) (s : SSt) (ks : List PT) (e : Ent) (v bh : V), vs = [.ref p, v, bh] ∧ RunAt (He.ga K "Run") B H p dx ra aa l g ev c s ∧ RepT H (.app wNot ks) v ∧ (Tm.app wNot ks).size ≤ 40 ∧ RepE (er H [p, l, g]) e bh ∧ s.left.length ≤ 10000 ∧
  (((Tm.app wNot ks).vars ≠ [] ∧ Out (He.ga K "Run") B p dx ra aa g c { s with fin := some (.fault "open" (told1 (.app wNot ks))) } Q) ∨
    ((Tm.app wNot ks).vars = [] ∧ ∃ G, ks = [G] ∧ Out (He.ga K "Run") B p dx ra aa g c { s with left := s.left ++ [e, ⟨[(some G, s.left.length), (none, s.left.length)], e.puts, e.way⟩] } Q))
section
variable {P : Program} {w : World} {K : PySem.W.Frag} {mg : Str → Option Value} {base : Heap}
theorem sc_tnot : FnScope ["self", "goal", "behind", "height"] ["self", "goal", "behind"] d_Run_take_not.scope := ⟨rfl, rfl, rfl, by decide +kernel, rfl, by decide +kernel, by decide +kernel⟩
theorem ok_tnot (T : T35 K mg) (R6 : R36 K mg) : Mtd P w K mg base 45 "take_not" ["self", "goal", "behind"] (spNotM K) := by
  have cF := (ok_fault (P := P) (w := w) (base := base) T R6).mtd
  have cU := (ok_unknowns (P := P) (w := w) (base := base) T).cl
  refine mtd_of (d := d_Run_take_not) T 25 rfl rfl rfl rfl sc_tnot (fun vs H Q E h => ?_) (fun _ _ _ _ _ _ us hl => match us, hl with | [_, _, _], _ => rfl) (fun cdv A outer s0 H vs Q E hr h => ?_)
  · obtain ⟨B, p, dx, ra, aa, l, g, ev, c, s, ks, e, v, bh, rfl, _⟩ := h
    rfl
  · obtain ⟨B, p, dx, ra, aa, l, g, ev, c, s, ks, e, v, bh, rfl, R, ht, hsz, he, hll, k⟩ := h
    have hu := hu_of hr
    refine ⟨_, (pss_cons (ps_if (pt_cmpR (op_neL0 hu) (pe_cl cU hr (by omega) rfl (pa_cons (pe_lst (pa_cons (pv 1) pa_nil)) pa_nil)) (pe_lst pa_nil) (nomark _)) (pss_cons (ps_expr (pe_mtd R6 cF (by decide +kernel) hr (by omega) (pv 0) (pa_cons pe_str (pa_cons (pv 1) pa_nil)))) (pss_one ps_retN)) pss_nil) (pss_cons (ps_set (i := 3) sc_tnot.nd rfl (Or.inl rfl) (pe_callB call_len_seq rfl (T.free 0 _ rfl) PySem.boot_len (pa_cons (pe_fld (pv 0) rfl) pa_nil))) (pss_cons (ps_expr (pe_bm PySem.F.plainAttrs_list PySem.F.slot_list_append PySem.F.type_list_append mt_append (pe_fld (pv 0) rfl) (pa_cons (pv 2) pa_nil))) (pss_one (ps_expr (pe_bm PySem.F.plainAttrs_list PySem.F.slot_list_append PySem.F.type_list_append mt_append (pe_fld (pv 0) rfl) (pa_cons (pe_tup (pa_cons (pe_lst (pa_cons (pe_tup (pa_cons (pe_ix ix_tup (pe_ix ix_tup (pv 1) pe_int (fun _ _ => rfl)) pe_int (fun _ _ => rfl)) (pa_cons (pv 3) pa_nil))) (pa_cons (pe_tup (pa_cons pe_non (pa_cons (pv 3) pa_nil))) pa_nil))) (pa_cons (pe_ix ix_tup (pv 2) pe_int (fun _ _ => rfl)) (pa_cons (pe_ix ix_tup (pv 2) pe_int (fun _ _ => rfl)) pa_nil)))) pa_nil))))))), ?_⟩
    refine ⟨v, rfl, sz (by simp), fun q hq => ?_⟩
    have hS1 := same_new (o := HO.lst [v]) hq
    have hz : sizes [(Tm.app wNot ks : PT)] ≤ 100000 := by
      rw [sizes_cons, sizes_nil]
      omega
    refine ⟨q, [.app wNot ks], [v], rfl, upd_same, RepL.cons (ht.ex (.of hS1)) RepL.nil, hz, fun q2 H2 hS2 hn2 hq2 => ⟨sz (by simp), fun q3 hq3 => ?_⟩⟩
    have hS3 := (hS1.trans hS2).trans (same_new (o := HO.lst []) hq3)
    refine ⟨q2, q3, _, rfl, rfl, SqL.of (same_new hq3 _ _ hq2), SqL.of upd_same, _, rfl, ?_⟩
    have ev1 : varsT [(Tm.app wNot ks : PT)] = (Tm.app wNot ks : PT).vars := by rw [varsT_cons, varsT_nil, List.append_nil]
    rw [ev1, List.length_map]
    have R3 := R.same hS3
    rcases k with ⟨hv, k⟩ | ⟨hv, G, rfl, k⟩
    · have hv' : ¬ (firsts (Tm.app wNot ks : PT).vars).length = 0 := fun z => hv (firsts_nil.mp (List.length_eq_zero_iff.mp z))
      rw [decide_eq_false hv']
      refine iteT ?_
      refine x_mtd (rd_var rfl) R3.ins (fl_meth (by simp)) (ra_cons rd_c (ra_cons (rd_var rfl) ra_nil)) ?_
      exact ⟨B, p, dx, ra, aa, l, g, ev, c, s, "open", .app wNot ks, v, rfl, R3, ht.ex (.of hS3), hsz, fun H' l' ev' h => k H' l' ev' h⟩
    · rw [hv]
      refine iteF ?_
      obtain ⟨lv, hl, hlen, hL⟩ := R3.lft
      refine s_set (rd_lenL (rd_fld R6 (by simp) (rd_var rfl) R3.ins fl_left) hl) ?_
      refine s_push (rd_fld R6 (by simp) (rd_var rfl) R3.ins fl_left) hl ⟨bh, rfl, l, lv, bh, rfl, rfl, hl, szl (by omega), ?_⟩
      have he3 := he.ex (er_mono hS3)
      have R4 := R3.push hl he3
      have er4 : er (upd (upd H2 q3 (.lst [])) l (.lst (lv ++ [bh]))) [p, l, g] = er (upd H2 q3 (.lst [])) [p, l, g] := er_upd (by simp)
      rw [← er4] at he3
      have ht4 := (ht.ex (.of hS3)).ex (tupex_ls (o := .lst (lv ++ [bh])) hl)
      obtain ⟨ta, tk, kv, rfl, ht5, hk5, hks⟩ := (ht4.er R4.out').kids
      obtain ⟨gv, kv', rfl, hG, hn⟩ := hks
      have hn : kv' = [] := hn
      subst hn
      obtain ⟨et, ea, ed, ew, egs, rfl, he1, he2, he3', he4, he5⟩ := he3
      refine s_push (rd_fld R6 (by simp) (rd_var rfl) R4.ins fl_left) upd_same ?_
      refine x_tupc (x_lstc (x_tupc (rd_ixT (n := 0) (rd_ixT (n := 2) (rd_var rfl) rd_c (er_of ht5).2 rfl) rd_c (er_of hk5).2 rfl _ ?_)))
      refine ⟨_, rfl, sz (by simp), fun q4 hq4 => ?_⟩
      have s4 := same_new (o := HO.tup [gv, .int (lv.length : Int)]) hq4
      have R5 := R4.same s4
      refine ⟨_, rfl, sz (by simp), fun q5 hq5 => ⟨sz (by simp), fun q6 hq6 => ?_⟩⟩
      have s5 := same_new (o := HO.tup [.non, .int (lv.length : Int)]) hq5
      have R6' := R5.same s5
      have s6 := same_new (o := HO.lst [.ref q4, .ref q5]) hq6
      have R7 := R6'.same s6
      have s46 := (s4.trans s5).trans s6
      refine ra_cons (rd_ixT (n := 1) (rd_var rfl) rd_c (s46 _ _ (er_of he1).2) rfl) (ra_cons (rd_ixT (n := 2) (rd_var rfl) rd_c (s46 _ _ (er_of he1).2) rfl) ra_nil) _ ⟨sz (by simp), fun q7 hq7 => ?_⟩
      have s7 := same_new (o := HO.tup [.ref q6, .ref ed, .ref ew]) hq7
      have R8 := R7.same s7
      have s47 := s46.trans s7
      have hl8 := s47 _ _ (upd_same (H := upd H2 q3 (.lst [])) (a := l) (o := HO.lst (lv ++ [.ref et])))
      refine ⟨l, _, .ref q7, rfl, rfl, hl8, szl (by simp; omega), ?_⟩
      have m4 := er_mono (S := [p, l, g]) s47
      have hz2 : ∀ n : Nat, RepG (er (upd (upd (upd (upd (upd (upd H2 q3 (.lst [])) l (.lst (lv ++ [.ref et]))) q4 (.tup [gv, .int (lv.length : Int)])) q5 (.tup [.non, .int (lv.length : Int)])) q6 (.lst [.ref q4, .ref q5])) q7 (.tup [.ref q6, .ref ed, .ref ew])) [p, l, g]) (none, lv.length) (.ref q5) := fun _ => ⟨q5, .non, rfl, er_mono (s6.trans s7) _ _ (er_new R5.known hq5), rfl⟩
      have en : RepE (er (upd (upd (upd (upd (upd (upd H2 q3 (.lst [])) l (.lst (lv ++ [.ref et]))) q4 (.tup [gv, .int (lv.length : Int)])) q5 (.tup [.non, .int (lv.length : Int)])) q6 (.lst [.ref q4, .ref q5])) q7 (.tup [.ref q6, .ref ed, .ref ew])) [p, l, g]) ⟨[(some G, lv.length), (none, lv.length)], e.puts, e.way⟩ (.ref q7) := by
        refine ⟨q7, q6, ed, ew, [.ref q4, .ref q5], rfl, er_new R7.known hq7, er_mono s7 _ _ (er_new R6'.known hq6), Rp.cons ?_ (Rp.one (hz2 0)), he4.same m4, m4 _ _ he5⟩
        exact ⟨q4, gv, rfl, er_mono ((s5.trans s6).trans s7) _ _ (er_new R4.known hq4), hG.ex (.of m4)⟩
      have R9 := R8.push hl8 en
      rw [← hlen] at k
      have e9 : s.left ++ [e] ++ [(⟨[(some G, lv.length), (none, lv.length)], e.puts, e.way⟩ : Ent)] = s.left ++ [e, ⟨[(some G, lv.length), (none, lv.length)], e.puts, e.way⟩] := by simp
      simp only [e9] at R9
      exact k _ l ev R9
end
end G35

/-! GRun5 -/
set_option Elab.async false
set_option linter.all false
set_option maxRecDepth 100000
set_option maxHeartbeats 4000000
namespace G35
open PySem PySem.Spec PyProof.Rows L2
theorem takesN0 {X : Cx} : L2N.Takes X (fun _ _ _ _ => False) := fun _ _ ⟨_, _, _, _, _, _, _, _, _, _, _, _, _, _, _, _, w⟩ => w.elim
def spDeedM (K : PySem.W.Frag) : Sp := fun vs H Q _ => ∃ (B : Hp) (p dx ra aa l g : Addr) (ev : V) (c : Cfg) (s : SSt) (f : Str) (t u : PT) (e : Ent) (v bh : V) (res : Option Puts ⊕ Str), vs = [.ref p, v, bh] ∧ RunAt (He.ga K "Run") B H p dx ra aa l g ev c s ∧ RepT H (.app f [t, u]) v ∧ (Tm.app f [t, u]).size ≤ 40 ∧ f ∈ deedW ∧ Shp t ∧ Shp u ∧ RepE (er H [p, l, g]) e bh ∧ s.left.length ≤ 10000 ∧
  deedF f t u e.puts = some res ∧ (match res with
    | .inr w => Out (He.ga K "Run") B p dx ra aa g c { s with fin := some (.fault w (told1 (.app f [t, u]))) } Q
    | .inl none => Out (He.ga K "Run") B p dx ra aa g c s Q
    | .inl (some P') => Out (He.ga K "Run") B p dx ra aa g c { s with left := s.left ++ [⟨e.goals, P', e.way⟩] } Q)
section
variable {P : Program} {w : World} {K : PySem.W.Frag} {mg : Str → Option Value} {base : Heap}
theorem sc_tdeed : FnScope ["self", "goal", "behind", "puts", "e"] ["self", "goal", "behind"] d_Run_take_deed.scope := ⟨rfl, rfl, rfl, by decide +kernel, rfl, by decide +kernel, by decide +kernel⟩
theorem ok_tdeed (T : T36 K mg) (E6 : E36 K mg) (R6 : R36 K mg) : Mtd P w K mg base 45 "take_deed" ["self", "goal", "behind"] (spDeedM K) := by
  obtain ⟨fd, F1, F2, bF⟩ := (ok_fault (P := P) (w := w) (base := base) T.t R6).ex
  have cD := ok_deed (P := P) (w := w) (base := base) T E6
  refine mtd_of (d := d_Run_take_deed) T.t 26 rfl rfl rfl rfl sc_tdeed (fun vs H Q E h => ?_) (fun _ _ _ _ _ _ us hl => match us, hl with | [_, _, _], _ => rfl) (fun cdv A outer s0 H vs Q E hr h => ?_)
  · obtain ⟨B, p, dx, ra, aa, l, g, ev, c, s, f, t, u, e, v, bh, res, rfl, _⟩ := h
    rfl
  · obtain ⟨B, p, dx, ra, aa, l, g, ev, c, s, f, t, u, e, v, bh, res, rfl, R, ht, hsz, hf, hst, hsu, he, hll, hd, k⟩ := h
    have hrH := L2H.roomH_of hr
    refine ⟨_, pss_one (try_asE (i := 4) (pss_one (ps_if (pt_cmpR op_notN (pv 3) pe_non (nomark _)) (pss_one (ps_expr (pe_bm PySem.F.plainAttrs_list PySem.F.slot_list_append PySem.F.type_list_append mt_append (pe_fld (pv 0) rfl) (pa_cons (pe_tup (pa_cons (pe_ix ix_tup (pv 2) pe_int (fun _ _ => rfl)) (pa_cons (pv 3) (pa_cons (pe_ix ix_tup (pv 2) pe_int (fun _ _ => rfl)) pa_nil)))) pa_nil)))) pss_nil))
      rfl rfl sc_tdeed.nd rfl rfl ⟨rfl, by decide, .inl (T.t.glo 2 _ rfl)⟩ takesN0
      (fun W pn xe tk _ => pss_one (ps_set (i := 3) sc_tdeed.nd rfl (Or.inl rfl) (pe_clE cD tk hr (by omega) rfl (pa_cons (pv 1) (pa_cons (pe_ix (show IxR _ (rIxT K) from ix_tup) (pv 2) pe_int (fun _ _ => rfl)) pa_nil)))))
      (fun a oe cls d pn hz hf => pss_one (ps_expr (L2H.pe_methH (pv 0) R6.cls (R6.meth "fault" (by simp)) F2 ⟨hrH.dp, hrH.un⟩ ⟨(a, oe), ⟨rfl, hf.choose, hf.choose_spec, hz.2.2 _ hf.choose_spec⟩, List.mem_cons_self⟩ bF (E := fun _ => E0) (fun _ _ _ _ _ _ _ z => False.elim z) (pa_cons (pe_xf E6.xf E6.wordF hz.zc hf (pv 4)) (pa_cons (pv 1) pa_nil)))))), ?_⟩
    have he0 := he
    obtain ⟨et, ea, ed, ew, egs, rfl, he1, he2, he3, he4, he5⟩ := he
    refine x_clE (sp := spDeed K) (ra_cons (rd_var rfl) (ra_cons (rd_ixT (n := 1) (rd_var rfl) rd_c (er_of he1).2 rfl) ra_nil)) ⟨f, t, u, e.puts, v, ed, res, rfl, ht, hf, he4.same er_same, hst, hsu, hd, ?_⟩
    have push : ∀ (D : Ends) (P' : Puts) (e' : Addr) (H1 : Hp), Same H H1 → PutsAt H1 e' P' → (∀ σ H2 l', RunAt (He.ga K "Run") B H2 p dx ra aa l' g ev c { s with left := s.left ++ [⟨e.goals, P', e.way⟩] } → D.nx σ H2) →
        (tIfS (tTest (tOp (fun x y H Q => y = .non ∧ Q (.bl (!decide (x = .non))) H) (tVar 3) (tC .non))) (tDrop (tBM K "list" rAppend (tFld K (tVar 0) "left") (tCons (tTup (tCons (tOp (rIxT K) (tVar 2) (tC (.int 0))) (tCons (tVar 3) (tCons (tOp (rIxT K) (tVar 2) (tC (.int 2))) tNil)))) tNil))) tNext) D [some (.ref p), some v, some (.ref et), some (.ref e'), none] H1 := by
      intro D P' e' H1 hS1 hP1 kk
      have R1 := R.same hS1
      have m1 := er_mono (S := [p, l, g]) hS1
      refine ⟨_, rfl, rfl, true, rfl, ?_⟩
      refine iteT ?_
      obtain ⟨lv, hl, hlen, hL⟩ := R1.lft
      refine s_push (rd_fld R6 (by simp) (rd_var rfl) R1.ins fl_left) hl ?_
      refine x_tup (ra_cons (rd_ixT (n := 0) (rd_var rfl) rd_c (hS1 _ _ (er_of he1).2) rfl) (ra_cons (rd_var rfl) (ra_cons (rd_ixT (n := 2) (rd_var rfl) rd_c (hS1 _ _ (er_of he1).2) rfl) ra_nil))) (sz (by simp)) fun q hq => ?_
      have s2 := same_new (o := HO.tup [.ref ea, .ref e', .ref ew]) hq
      have m2 := er_mono (S := [p, l, g]) s2
      have R2 := R1.same s2
      refine ⟨l, lv, .ref q, rfl, rfl, s2 _ _ hl, szl (by omega), kk _ _ l ?_⟩
      refine R2.push (s2 _ _ hl) ⟨q, ea, e', ew, egs, rfl, er_new R1.known hq, m2 _ _ (m1 _ _ he2), (he3.ex fun _ _ z => (z.ex m1).ex m2), (hP1.same s2).er R2.out, m2 _ _ (m1 _ _ he5)⟩
    cases res with
    | inr wd =>
      intro d H1 hS1 hn hd1
      refine ⟨true, E6.exF, fun _ a ha => ?_, fun z => nomatch z⟩
      have R1 := R.same hS1
      refine ⟨.ref p, rfl, p, dx, _, rfl, R1.ins, fl_meth (by simp), .ref a, rfl, rfl, rfl, d, _, .str wd, rfl, hd1, rfl, v, rfl, ?_⟩
      exact ⟨B, p, dx, ra, aa, l, g, ev, c, s, wd, .app f [t, u], v, rfl, R1, ht.ex (.of hS1), hsz, fun H' l' ev' h => k H' l' ev' h⟩
    | inl o =>
      cases o with
      | none =>
        intro H1 hS1
        refine ⟨_, rfl, rfl, false, rfl, ?_⟩
        exact iteF (k H1 l ev (R.same hS1))
      | some P' =>
        intro e' H1 hS1 hP1
        exact push _ P' e' H1 hS1 hP1 fun _ H2 l' h => k H2 l' ev h
end
end G35

/-! GRun6 -/
set_option Elab.async false
set_option linter.all false
set_option maxRecDepth 100000
set_option maxHeartbeats 4000000
namespace G35
open PySem PySem.Spec PyProof.Rows L2
/-! ### enumerate, reversed: their turns -/
theorem for_enum {K : PySem.W.Frag} {l : Addr} {ys : List V} {g : TG} {tb : TS} {D : Ends} {σ : L2.St} {H : Hp} (J : Nat → L2.St → Hp → Prop) (j0 : J 0 σ H) (jl : ∀ k τ U, k ≤ ys.length → J k τ U → SqL K U l ys)
    (js : ∀ k y τ U T, ys[k]? = some y → J k τ U → U T = none → g (.ref T) τ (upd U T (.tup [.int (k : Int), y])) fun τ2 U2 => tb { D with nx := J (k + 1), ct := J (k + 1), bk := D.nx } τ2 U2) (jd : ∀ τ U, J ys.length τ U → D.nx τ U) :
    ∃ W : Nat → Nat → L2.St → Hp → Prop, (∃ m, W 0 m σ H) ∧ ∀ i m τ U, W i m τ U →
      ((Ite K l).stop i U ∧ D.nx τ U) ∨ ((Ite K l).go i U ∧ ∃ N : L2.St → Hp → Prop, (∀ τ' U', N τ' U' → ∃ m', m' < m ∧ W (i + 1) m' τ' U') ∧ ∀ x U', (Ite K l).yld i U x U' → g x τ U' fun τ2 U2 => tb { D with nx := N, ct := N, bk := D.nx } τ2 U2) := by
  refine ⟨fun k n τ U => n + k = ys.length ∧ J k τ U, ⟨ys.length, rfl, j0⟩, fun k n τ U hw => ?_⟩
  obtain ⟨hn, hJ⟩ := hw
  have hq := jl k τ U (by omega) hJ
  cases n with
  | zero =>
    have hk : k = ys.length := by omega
    subst hk
    exact .inl ⟨⟨ys, hq, Nat.le_refl _⟩, jd _ _ hJ⟩
  | succ n =>
    have hk : k < ys.length := by omega
    have e : ys[k]? = some ys[k] := List.getElem?_eq_getElem hk
    refine .inr ⟨⟨ys, ys[k], hq, e⟩, J (k + 1), fun _ _ z => ⟨n, Nat.lt_succ_self n, by omega, z⟩, fun x U' hy => ?_⟩
    obtain ⟨T, x', rfl, hT, rfl, h⟩ := hy
    exact js k x' τ U T (h ys hq) hJ hT
theorem lc_revL {K : PySem.W.Frag} {l : Addr} {ys : List V} {g : TG} {tt : TT} {te : TE} {sl : List Nat} {σ : L2.St} {H1 : Hp} {D : Addr} {Z : Hp → Prop} (J : Nat → Hp → Prop) (j0 : J 0 (upd H1 D (.lst []))) (jl : ∀ k U, k ≤ ys.length → J k U → SqL K U l ys)
    (js : ∀ k y U, ys.reverse[k]? = some y → J k U → g y (wipe σ sl) U fun τ2 U2 => wipe τ2 sl = wipe σ sl ∧ tt τ2 U2 fun b U3 =>
      if b = true then te τ2 U3 fun z U4 => ∃ ac, U4 D = some (.lst ac) ∧ ac.length < sizeLine ∧ J (k + 1) (upd U4 D (.lst (ac ++ [z]))) else J (k + 1) U3) (jd : ∀ U, J ys.length U → Z U) :
    ∃ W : Nat → Nat → Hp → Prop, (∃ m, W 0 m (upd H1 D (.lst []))) ∧ ∀ i m U, W i m U →
      ((Itv K l ys.length).stop i U ∧ Z U) ∨ ((Itv K l ys.length).go i U ∧ ∃ N : Hp → Prop, (∀ U', N U' → ∃ m', m' < m ∧ W (i + 1) m' U') ∧ ∀ x U', (Itv K l ys.length).yld i U x U' → g x (wipe σ sl) U' fun τ2 U2 => wipe τ2 sl = wipe σ sl ∧ tt τ2 U2 fun b U3 =>
        if b = true then te τ2 U3 fun z U4 => ∃ ac, U4 D = some (.lst ac) ∧ ac.length < sizeLine ∧ N (upd U4 D (.lst (ac ++ [z]))) else N U3) := by
  refine ⟨fun k n U => n + k = ys.length ∧ J k U, ⟨ys.length, rfl, j0⟩, fun k n U hw => ?_⟩
  obtain ⟨hn, hJ⟩ := hw
  have hq := jl k U (by omega) hJ
  cases n with
  | zero =>
    have hk : k = ys.length := by omega
    subst hk
    exact .inl ⟨Nat.le_refl _, jd _ hJ⟩
  | succ n =>
    have hk : k < ys.length := by omega
    have e : ys[ys.length - 1 - k]? = some ys[ys.length - 1 - k] := List.getElem?_eq_getElem (by omega)
    refine .inr ⟨⟨hk, ys, _, hq, e⟩, J (k + 1), fun _ z => ⟨n, Nat.lt_succ_self n, by omega, z⟩, fun x U' hy => ?_⟩
    obtain ⟨rfl, h⟩ := hy
    exact js k x _ (by rw [List.getElem?_reverse hk]; exact h ys hq) hJ
theorem s_ifT {K : PySem.W.Frag} {σ : L2.St} {H : Hp} {te : TE} {tu tw : TS} {D : Ends} (h : te σ H fun x H1 => ∃ k, TruV K x H1 k ∧ (if k = true then tu D σ H1 else tw D σ H1)) : tIfS (fun σ H Q => te σ H fun x H' => ∃ k, TruV K x H' k ∧ Q k H') tu tw D σ H := h
theorem x_clc {σ : L2.St} {H : Hp} {te : TE} {tr : TA} {sp : Sp} {Q : VK} (h : te σ H fun v H1 => tr σ H1 fun vs H2 => sp ((v :: vs) ++ []) H2 Q E0) : tCall sp [] E0 (tCons te tr) σ H Q := h
theorem s_asg {σ : L2.St} {H : Hp} {te : TE} {g : TG} {D : Ends} (h : te σ H fun v H1 => g v σ H1 D.nx) : tAsg te g D σ H := h
theorem x_op {σ : L2.St} {H : Hp} {ta tb : TE} {r : R2} {Q : VK} (h : ta σ H fun x H1 => tb σ H1 fun y H2 => r x y H2 Q) : tOp r ta tb σ H Q := h
theorem x_yes {σ : L2.St} {H : Hp} {te : TE} {R : VK} {Z : Hp → Prop} (h : te σ H R) : tYes σ H fun b H3 => if b = true then te σ H3 R else Z H3 := h
theorem x_fld {K : PySem.W.Frag} {σ : L2.St} {H : Hp} {ta tv : TE} {f : Str} {D : Ends} (h : tv σ H fun y H1 => ta σ H1 fun x H2 => ∃ a C dx fs, x = .ref a ∧ H2 a = some (.ins C dx fs) ∧ Cls K C ∧ NoAttr K C f ∧ fs.length < 1000 ∧ D.nx σ (upd H2 a (.ins C dx (putF f y fs)))) : sFld K ta tv f D σ H := h
theorem RepG.exT {H H' : Hp} (s : TupEx H H') {q : Option PT × Nat} {v : V} (h : RepG H q v) : RepG H' q v := by
  obtain ⟨t, gv, h1, h2, h3⟩ := h
  refine ⟨t, gv, h1, s _ _ h2, ?_⟩
  obtain ⟨o, n⟩ := q
  cases o with
  | none => exact h3
  | some g => exact RepT.ex s h3
theorem tupex_er {H : Hp} {S : List Addr} (hS : ∀ a ∈ S, ∀ xs, H a ≠ some (.tup xs)) : TupEx H (er H S) := fun a xs e => er_at (fun hm => hS a hm xs e) e
theorem lg (n : Nat) (h : n ≤ 1001) : ((n : Int).natAbs).log2 < 1920 := by
  have e : (n : Int).natAbs = n := rfl
  rw [e]
  by_cases hz : n = 0
  · subst hz
    decide
  · have := Nat.log2_lt (k := 1920) hz
    refine this.mpr (Nat.lt_of_le_of_lt h ?_)
    exact Nat.lt_of_lt_of_le (by decide : 1001 < 2 ^ 10) (Nat.pow_le_pow_right (by decide) (by decide))
/-! ### take_named -/
structure TG1 (t : PT) : Prop where
  dep : t.depth ≤ 40
  siz : t.size ≤ 100000
  nam : ∀ x ∈ t.vars, x.length ≤ 1000
structure RG (c : Cfg) : Prop where
  hd : ∀ r ∈ c.rules, (∃ f us, r.1 = .app f us) ∧ TG1 r.1
  bd : ∀ r ∈ c.rules, r.2.length ≤ 1000 ∧ ∀ q ∈ r.2, TG1 q
  len : c.rules.length ≤ 1000
  bound : c.bound ≤ 1000
  most : c.most ≤ 1000
def spNamed (K : PySem.W.Frag) : Sp := fun vs H Q _ => ∃ (B : Hp) (p dx ra aa l g : Addr) (ev : V) (c : Cfg) (s : SSt) (f : Str) (ks : List PT) (e : Ent) (v rs : V) (ways : List Ent), vs = [.ref p, v, rs] ∧ RunAt (He.ga K "Run") B H p dx ra aa l g ev c s ∧ RepT H (.app f ks) v ∧ RG c ∧ RepE (er H [p, l, g]) e rs ∧ s.left.length ≤ 10000 ∧ e.goals.length ≤ 10000 ∧ e.way.length ≤ 10000 ∧ s.taken ≤ 1001 ∧
  waysF s.taken (.app f ks) e.goals e.puts e.way s.left.length c.rules 0 = some ways ∧ Out (He.ga K "Run") B p dx ra aa g c { s with left := s.left ++ ways.reverse } Q
section
variable {P : Program} {w : World} {K : PySem.W.Frag} {mg : Str → Option Value} {base : Heap}
theorem sc_tnamed : FnScope ["self", "goal", "rest", "height", "ways", "k", "one", "made", "body", "part", "way"] ["self", "goal", "rest"] d_Run_take_named.scope := ⟨rfl, rfl, rfl, by decide +kernel, rfl, by decide +kernel, by decide +kernel⟩
theorem ok_tnamed (T : T35 K mg) (R6 : R36 K mg) : Mtd P w K mg base 44 "take_named" ["self", "goal", "rest"] (spNamed K) := by
  have cS := ok_same (P := P) (w := w) (base := base) T
  have cM := ok_made (P := P) (w := w) (base := base) T
  have cK := (ok_marked (P := P) (w := w) (base := base) T 40).cl
  refine mtd_of (d := d_Run_take_named) T 27 rfl rfl rfl rfl sc_tnamed (fun vs H Q E h => ?_) (fun _ _ _ _ _ _ us hl => match us, hl with | [_, _, _], _ => rfl) (fun cdv A outer s0 H vs Q E hr h => ?_)
  · obtain ⟨B, p, dx, ra, aa, l, g, ev, c, s, f, ks, e, v, rs, ways, rfl, _⟩ := h
    rfl
  · obtain ⟨B, p, dx, ra, aa, l, g, ev, c, s, f, ks, e, v, rs, ways, rfl, R, ht, hrg, he, hll, hgl, hwl, htk, hw, k⟩ := h
    refine ⟨_, (pss_cons (ps_set (i := 3) sc_tnamed.nd rfl (Or.inr rfl) (pe_callB call_len_seq rfl (T.free 0 _ rfl) PySem.boot_len (pa_cons (pe_fld (pv 0) rfl) pa_nil))) (pss_cons (ps_set (i := 4) sc_tnamed.nd rfl (Or.inl rfl) (pe_lst pa_nil)) (pss_cons (ps_for PassesOwn.never rfl (pi_enum rfl (T.free 8 _ rfl) (pa_cons (pe_fld (pv 0) rfl) pa_nil)) (pg_tup (n := 2) rfl (pgs_cons (pg_name (i := 5) sc_tnamed.nd rfl (Or.inl rfl)) (pgs_cons (pg_name (i := 6) sc_tnamed.nd rfl (Or.inl rfl)) pgs_nil))) (pss_one (ps_if (pt_truth (pe_cl cS hr (by omega) rfl (pa_cons (pe_ix ix_tup (pv 6) pe_int (fun _ _ => rfl)) (pa_cons (pv 1) pa_nil))) (fun _ => rfl)) (pss_cons (ps_set (i := 7) sc_tnamed.nd rfl (Or.inl rfl) (pe_cl cM hr (by omega) rfl (pa_cons (pe_cl cK hr (by omega) rfl (pa_cons (pe_ix ix_tup (pv 6) pe_int (fun _ _ => rfl)) (pa_cons (show PE _ _ (tFld K (tVar 0) "taken") from pe_fld (pv 0) rfl) pa_nil))) (pa_cons (pv 1) (pa_cons (pe_ix ix_tup (pv 2) pe_int (fun _ _ => rfl)) pa_nil))))) (pss_one (ps_if (pt_cmpR op_eq (pe_ix ix_tup (pv 7) pe_int (fun _ _ => rfl)) pe_str (nomark _)) (pss_cons (ps_setLc (i := 8) (own := [("part", 9)]) (g := gName 9) (tt := tYes) rfl sc_tnamed.nd rfl rfl (sw_true rfl rfl rfl (by decide +kernel)) (pi_tup (pe_ix ix_tup (pv 6) pe_int (fun _ _ => rfl))) (blkOk_by (N := ["self", "goal", "rest", "height", "ways", "k", "one", "made", "body", "part", "way"]) (sc := d_Run_take_named.scope) (by decide +kernel)) (fun _ _ _ _ _ => (pg_name (i := 9) sc_tnamed.nd rfl (Or.inl rfl))) (fun _ _ _ _ _ => pts_nil) (fun s2 H2 C2 cl2 fp2 => (pe_tup (pa_cons (pe_cl cK hr (by omega) rfl (pa_cons (pv 9) (pa_cons (show PE _ _ (tFld K (tVar 0) "taken") from pe_fld (pv 0) rfl) pa_nil))) (pa_cons (pv 3) pa_nil))))) (pss_one (ps_expr (pe_bm PySem.F.plainAttrs_list PySem.F.slot_list_append PySem.F.type_list_append mt_append (pv 4) (pa_cons (pe_tup (pa_cons (pe_op op_cat (pv 8) (pe_ix ix_tup (pv 2) pe_int (fun _ _ => rfl))) (pa_cons (pe_ix ix_tup (pv 7) pe_int (fun _ _ => rfl)) (pa_cons (pe_op op_cat (pe_ix ix_tup (pv 2) pe_int (fun _ _ => rfl)) (pe_lst (pa_cons (pe_op op_add (pv 5) pe_int) pa_nil))) pa_nil)))) pa_nil))))) pss_nil))) pss_nil))) (pss_one (ps_fld (pv 0) (pe_op op_cat (pe_fld (pv 0) rfl) (pe_lc (own := [("way", 10)]) (g := gName 10) (tt := tYes) rfl sc_tnamed.nd (pi_reversed rfl (T.free 2 _ rfl) (pa_cons (pv 4) pa_nil)) (blkOk_by (N := ["self", "goal", "rest", "height", "ways", "k", "one", "made", "body", "part", "way"]) (sc := d_Run_take_named.scope) (by decide +kernel)) (fun _ _ _ _ _ => (pg_name (i := 10) sc_tnamed.nd rfl (Or.inl rfl))) (fun _ _ _ _ _ => pts_nil) (fun s2 H2 C2 cl2 fp2 => (pv 10)))) rfl))))), ?_⟩
    obtain ⟨lv, hl, hlen, hL⟩ := R.lft
    obtain ⟨rv, hrv, hrR⟩ := R.rules
    rw [← hlen] at hw
    refine s_set (rd_lenL (rd_fld R6 (by simp) (rd_var rfl) R.ins fl_left) hl) ?_
    refine ⟨sz (by simp), fun wq hwq => ?_⟩
    have S0 := same_new (o := HO.lst []) hwq
    have hrvl := hrR.1
    have hrl := hrg.len
    obtain ⟨et, ea, ed, ew, egs, rfl, he1, he2, he3, he4, he5⟩ := he
    have H1 := (er_of he1).2
    have H2 := (er_of he2).2
    have H5 := (er_of he5).2
    have hP0 := he4.same er_same
    have hge := he3.1
    have hwe : (wayV e.way).length = e.way.length := List.length_map ..
    refine rd_fld R6 (by simp) (rd_var rfl) (S0 _ _ R.ins) fl_rules _ ⟨ra, rv, rfl, SqL.of (S0 _ _ (R.sub _ _ hrv)), ?_⟩
    refine for_enum (ys := rv) (fun i τ U => ∃ x5 x6 x7 x8, τ = [some (.ref p), some v, some (.ref et), some (.int (lv.length : Int)), some (.ref wq), x5, x6, x7, x8, none, none] ∧ Same H U ∧ ∃ acc wv tl, U wq = some (.lst wv) ∧ Rp RepE (er U [p, l, g, wq]) acc wv ∧ waysF s.taken (.app f ks) e.goals e.puts e.way lv.length (c.rules.drop i) i = some tl ∧ acc ++ tl = ways ∧ acc.length ≤ i)
      ⟨_, _, _, _, rfl, S0, [], [], ways, upd_same, Rp.nil, hw, rfl, Nat.le_refl _⟩ (fun i τ U _ hJ => ?_) (fun i y τ U T hy hJ hT => ?_) (fun τ U hJ => ?_)
    · obtain ⟨_, _, _, _, rfl, hS, _⟩ := hJ
      exact SqL.of (hS _ _ (R.sub _ _ hrv))
    · obtain ⟨x5, x6, x7, x8, rfl, hS, acc, wv, tl, hwv, hR, hwf, hac, hal⟩ := hJ
      have hi : i < c.rules.length := by
        rw [← hrvl]
        exact (List.getElem?_eq_some_iff.mp hy).1
      have hri : c.rules[i]? = some c.rules[i] := List.getElem?_eq_getElem hi
      have hrm : c.rules[i] ∈ c.rules := List.getElem_mem hi
      have hd := List.drop_eq_getElem_cons hi
      obtain ⟨⟨f', us, ehd⟩, tg1⟩ := hrg.hd _ hrm
      obtain ⟨bl, tgb⟩ := hrg.bd _ hrm
      obtain ⟨yt, yb, yu, bs, rfl, y1, y2, y3, y4⟩ := hrR.2 i _ _ hri hy
      generalize hrr : c.rules[i] = rl at *
      obtain ⟨rh, rb⟩ := rl
      simp only at ehd tg1 bl tgb y2 y4
      subst ehd
      rw [hd] at hwf
      unfold waysF at hwf
      have sT := same_new (o := HO.tup [.int (i : Int), .ref yt]) hT
      have hS1 := hS.trans sT
      have subS := fun (U' : Hp) (z : Same H U') => fun a o (h : B a = some o) => z a o (R.sub a o h)
      have wl : wv.length ≤ i := by rw [hR.1]; exact hal
      refine ⟨T, _, rfl, SqT.of upd_same, rfl, _, _, rfl, _, _, rfl, rfl, ?_⟩
      cases hw2 : waysF s.taken (.app f ks) e.goals e.puts e.way lv.length (c.rules.drop (i + 1)) (i + 1) with
      | none => rw [hw2] at hwf; cases hwf
      | some tl' =>
        rw [hw2] at hwf
        simp only at hwf
        -- the invariant, where no way is added
        have stay : ∀ (z7 z8 : Option V) (U' : Hp), Same U U' → tl = tl' → ∃ x5 x6 x7 x8, [some (V.ref p), some v, some (.ref et), some (.int (lv.length : Int)), some (.ref wq), some (.int (i : Int)), some (.ref yt), z7, z8, none, none] = [some (.ref p), some v, some (.ref et), some (.int (lv.length : Int)), some (.ref wq), x5, x6, x7, x8, none, none] ∧ Same H U' ∧ ∃ acc wv tl, U' wq = some (.lst wv) ∧ Rp RepE (er U' [p, l, g, wq]) acc wv ∧ some tl' = some tl ∧ acc ++ tl = ways ∧ acc.length ≤ i + 1 := by
          intro z7 z8 U' hU et
          rw [et] at hac
          exact ⟨_, _, _, _, rfl, hS.trans hU, acc, wv, tl', hU _ _ hwv, hR.ex fun _ _ z => z.ex (er_mono hU), rfl, hac, by omega⟩
        refine s_ifT (x_cl (sp := spSame) (ra_cons (rd_ixT (n := 0) (rd_var rfl) rd_c (subS _ hS1 _ _ y1) rfl) (ra_cons (rd_var rfl) ra_nil)) ⟨f', f, us, ks, yu, v, rfl, y2.ex (.of (subS _ hS1)), ht.ex (.of hS1), _, rfl, ?_⟩)
        have esw : sameWord (.app f' us) (.app f ks) ↔ f' = f ∧ us.length = ks.length := Iff.rfl
        by_cases hsw : f' = f ∧ us.length = ks.length
        · rw [decide_eq_true hsw]
          rw [if_pos (esw.mpr hsw)] at hwf
          refine iteT ?_
          cases hu : uniO [(0, markT s.taken (.app f' us), .app f ks)] e.puts with
          | none => rw [hu] at hwf; cases hwf
          | some ro =>
            rw [hu] at hwf
            have ht1 := ht.ex (.of hS1)
            refine s_asg (x_clc (x_cl (sp := spMarked 40) (ra_cons (rd_ixT (n := 0) (rd_var rfl) rd_c (subS _ hS1 _ _ y1) rfl) (ra_cons (rd_fld R6 (by simp) (rd_var rfl) (hS1 _ _ R.ins) fl_taken) ra_nil)) ⟨.app f' us, yu, (s.taken : Int), rfl, y2.ex (.of (subS _ hS1)), tg1.dep, tg1.siz, lg _ htk, tg1.nam, fun v' H3 hS3 hv' => ?_⟩))
            have hS13 := hS1.trans hS3
            refine ra_cons (rd_var rfl) (ra_cons (rd_ixT (n := 1) (rd_var rfl) rd_c (hS13 _ _ H1) rfl) ra_nil) _ ⟨markT s.taken (.app f' us), .app f ks, e.puts, ro, v', v, ed, rfl, hv', ht.ex (.of hS13), hP0.same hS13, of_uniO hu, fun m H4 hS4 hM => ?_⟩
            have hS14 := hS13.trans hS4
            have hU4 := (sT.trans hS3).trans hS4
            cases ro with
            | none =>
              simp only at hwf
              obtain ⟨tg, rest, m1, m2⟩ := hM
              refine s_if (rdT_test (rd_eqS (rd_ixT (n := 0) (rd_var rfl) rd_c m1 rfl) rd_c)) (fun z => ?_) fun _ => ?_
              · rw [decS, decide_eq_true_iff] at z
                exact absurd z m2
              · exact stay _ _ _ hU4 (Option.some.inj hwf).symm
            | some P' =>
              simp only at hwf
              obtain ⟨e', m1, m2⟩ := hM
              refine s_if (rdT_test (rd_eqS (rd_ixT (n := 0) (rd_var rfl) rd_c m1 rfl) rd_c)) (fun _ => ?_) fun z => ?_
              · refine s_asg (rd_ixT (n := 1) (rd_var rfl) rd_c (subS _ hS14 _ _ y1) rfl _ ?_)
                refine ⟨yb, rfl, ⟨_, SqT.of (subS _ hS14 _ _ y3)⟩, fun D hD => ?_⟩
                have sD := same_new (o := HO.lst []) hD
                have bsl := y4.1
                refine lc_tup (xs := bs) (fun j U2 => Same H4 U2 ∧ ∃ ga, U2 D = some (.lst ga) ∧ Rp RepG U2 ((rb.take j).map fun q => (some (markT s.taken q), lv.length)) ga) ⟨sD, [], upd_same, Rp.nil⟩ (fun j U2 _ q => SqT.of (q.1 _ _ (subS _ hS14 _ _ y3))) (fun j x U2 hx q => ?_) (fun U2 q => ?_)
                · obtain ⟨hS5, ga, hga, hG⟩ := q
                  have hjb := (List.getElem?_eq_some_iff.mp hx).1
                  have hq : rb[j]? = some rb[j] := List.getElem?_eq_getElem (by omega)
                  have hxr := y4.2 j _ _ hq hx
                  have tgq := tgb _ (List.mem_of_getElem? hq)
                  have hS15 := hS14.trans hS5
                  have hgl := hG.1
                  rw [List.length_map, List.length_take] at hgl
                  refine ⟨rfl, x_yes (x_tupc ?_)⟩
                  refine x_cl (sp := spMarked 40) (ra_cons (rd_var rfl) (ra_cons (rd_fld R6 (by simp) (rd_var rfl) (hS15 _ _ R.ins) fl_taken) ra_nil)) ⟨rb[j], x, (s.taken : Int), rfl, hxr.ex (.of (subS _ hS15)), tgq.dep, tgq.siz, lg _ htk, tgq.nam, fun v2 H6 hS6 hv2 => ?_⟩
                  refine ⟨_, rfl, sz (by simp), fun q7 hq7 => ?_⟩
                  have s7 := same_new (o := HO.tup [v2, .int (lv.length : Int)]) hq7
                  have hS57 := hS6.trans s7
                  have hga7 := hS57 _ _ hga
                  refine ⟨ga, hga7, szl (by omega), same_mut (hS5.trans hS57) hD, _, upd_same, ?_⟩
                  rw [take_snoc hq, List.map_append]
                  have tx := tupex_ls (o := .lst (ga ++ [.ref q7])) hga7
                  exact (hG.ex fun _ _ z => z.exT ((TupEx.of hS57).trans tx)).snoc ⟨q7, v2, rfl, tx _ _ upd_same, hv2.ex ((TupEx.of s7).trans tx)⟩
                · obtain ⟨hS5, ga, hga, hG⟩ := q
                  rw [bsl, List.take_length] at hG
                  have hgl := hG.1
                  rw [List.length_map] at hgl
                  have hS15 := hS14.trans hS5
                  have hU5 := hU4.trans hS5
                  have hw5 := hU5 _ _ hwv
                  have cl : ([some (V.ref p), some v, some (.ref et), some (.int (lv.length : Int)), some (.ref wq), some (.int (i : Int)), some (.ref yt), some (.ref m), some (.ref D), none, none] : L2.St)[4]? = some (some (.ref wq)) := rfl
                  refine s_push (rd_var (i := 4) rfl) hw5 (x_tupc ?_)
                  refine ⟨.ref D, rfl, ?_⟩
                  refine rd_ixT (n := 0) (rd_var rfl) rd_c (hS15 _ _ H1) rfl _ ⟨D, ea, ga, egs, rfl, rfl, hga, hS15 _ _ H2, sz (by omega), fun q8 hq8 => ?_⟩
                  have s8 := same_new (o := HO.lst (ga ++ egs)) hq8
                  have hS18 := hS15.trans s8
                  refine x_c (rd_ixT (n := 1) (rd_var rfl) rd_c (s8 _ _ (hS5 _ _ m1)) rfl _ (x_c (x_op ?_)))
                  refine rd_ixT (n := 2) (rd_var rfl) rd_c (hS18 _ _ H1) rfl _ ?_
                  refine x_lst (ra_cons (rd_I0 (g := fun i j => .int (i + j)) (rd_var rfl) rd_c) ra_nil) (sz (by simp)) fun q9 hq9 => ?_
                  have s9 := same_new (o := HO.lst [.int ((i : Int) + 1)]) hq9
                  refine ⟨ew, q9, wayV e.way, [.int ((i : Int) + 1)], rfl, rfl, s9 _ _ (hS18 _ _ H5), upd_same, sz (by simp; omega), fun q10 hq10 => ⟨sz (by simp), fun q11 hq11 => ?_⟩⟩
                  have s10 := same_new (o := HO.lst (wayV e.way ++ [.int ((i : Int) + 1)])) hq10
                  have s11 := same_new (o := HO.tup [.ref q8, .ref e', .ref q10]) hq11
                  have s811 := (s9.trans s10).trans s11
                  have hUe := (hU5.trans s8).trans s811
                  have hSe := hS.trans hUe
                  have he5' := hUe _ _ hwv
                  have kn : ∀ U' : Hp, Same U U' → ∀ a ∈ [p, l, g, wq], U' a ≠ none := by
                    intro U' hU' a ha
                    have hkn := (R.same (hS.trans hU')).known
                    by_cases hz : a = wq
                    · rw [hz, hU' _ _ hwv]
                      exact fun z => nomatch z
                    · refine hkn a ?_
                      simp only [List.mem_cons, List.not_mem_nil, or_false] at ha ⊢
                      rcases ha with z | z | z | z
                      · exact .inl z
                      · exact .inr (.inl z)
                      · exact .inr (.inr z)
                      · exact absurd z hz
                  have hU8 := hU5.trans s8
                  have hU9 := hU8.trans s9
                  have hU10 := hU9.trans s10
                  have noT : ∀ a ∈ [p, l, g, wq], (∀ xs, (upd (upd (upd (upd U2 q8 (.lst (ga ++ egs))) q9 (.lst [.int ((i : Int) + 1)])) q10 (.lst (wayV e.way ++ [.int ((i : Int) + 1)]))) q11 (.tup [.ref q8, .ref e', .ref q10])) a ≠ some (.tup xs)) ∧ ∀ kvs, (upd (upd (upd (upd U2 q8 (.lst (ga ++ egs))) q9 (.lst [.int ((i : Int) + 1)])) q10 (.lst (wayV e.way ++ [.int ((i : Int) + 1)]))) q11 (.tup [.ref q8, .ref e', .ref q10])) a ≠ some (.dK kvs) := by
                    intro a ha
                    by_cases hz : a = wq
                    · rw [hz, he5']
                      exact ⟨(fun xs z => nomatch z), (fun xs z => nomatch z)⟩
                    · refine (R.same hSe).out a ?_
                      simp only [List.mem_cons, List.not_mem_nil, or_false] at ha ⊢
                      rcases ha with z | z | z | z
                      · exact .inl z
                      · exact .inr (.inl z)
                      · exact .inr (.inr z)
                      · exact absurd z hz
                  have eI : ((i : Int) + 1) = ((i + 1 : Nat) : Int) := by omega
                  have new : RepE (er (upd (upd (upd (upd U2 q8 (.lst (ga ++ egs))) q9 (.lst [.int ((i : Int) + 1)])) q10 (.lst (wayV e.way ++ [.int ((i : Int) + 1)]))) q11 (.tup [.ref q8, .ref e', .ref q10])) [p, l, g, wq]) ⟨rb.map (fun q => (some (markT s.taken q), lv.length)) ++ e.goals, P', e.way ++ [i + 1]⟩ (.ref q11) := by
                    refine ⟨q11, q8, e', q10, ga ++ egs, rfl, er_new (kn _ hU10) hq11, er_mono s811 _ _ (er_new (kn _ hU5) hq8), ?_, ?_, ?_⟩
                    · refine (Rp.ex (fun _ _ z => z.exT ((TupEx.of (s8.trans s811)).trans (tupex_er fun a ha => (noT a ha).1))) hG).append (he3.ex fun _ _ z => ?_)
                      exact ((z.ex er_same).ex hSe).exT (tupex_er fun a ha => (noT a ha).1)
                    · exact (((m2.same hS5).same s8).same s811).er noT
                    · have ew1 : wayV (e.way ++ [i + 1]) = wayV e.way ++ [.int ((i : Int) + 1)] := by
                        rw [eI]
                        unfold wayV
                        rw [List.map_append]
                        rfl
                      rw [ew1]
                      exact er_mono s11 _ _ (er_new (kn _ hU9) hq10)
                  refine ⟨wq, wv, .ref q11, rfl, rfl, he5', szl (by omega), _, _, _, _, rfl, same_mut hSe hwq, acc ++ [⟨rb.map (fun q => (some (markT s.taken q), lv.length)) ++ e.goals, P', e.way ++ [i + 1]⟩], wv ++ [.ref q11], tl', upd_same, ?_, rfl, ?_, ?_⟩
                  · rw [er_upd (by simp)]
                    exact (hR.ex fun _ _ z => z.ex (er_mono hUe)).snoc new
                  · rw [← hac, ← Option.some.inj hwf, List.append_assoc]
                    rfl
                  · rw [List.length_append, List.length_singleton]
                    omega
              · rw [decS, decide_eq_false_iff_not] at z
                exact absurd rfl z
        · rw [decide_eq_false hsw]
          rw [if_neg (fun z => hsw (esw.mp z))] at hwf
          refine iteF ?_
          exact stay _ _ _ sT (Option.some.inj hwf).symm
    · obtain ⟨x5, x6, x7, x8, rfl, hS, acc, wv, tl, hwv, hR, hwf, hac, hal⟩ := hJ
      have etl : tl = [] := by
        rw [List.drop_eq_nil_of_le (by omega)] at hwf
        unfold waysF at hwf
        exact (Option.some.inj hwf).symm
      rw [etl, List.append_nil] at hac
      subst hac
      have wl : wv.length ≤ rv.length := by rw [hR.1]; exact hal
      have R1 := R.same hS
      refine x_fld (x_op (rd_fld R6 (by simp) (rd_var rfl) R1.ins fl_left _ ?_))
      refine ⟨.ref wq, rfl, wq, wv, rfl, SqL.of hwv, fun D hD => ?_⟩
      refine lc_revL (ys := wv) (fun j U2 => Same U U2 ∧ U2 D = some (.lst (wv.reverse.take j))) ⟨same_new hD, upd_same⟩ (fun j U2 _ p => SqL.of (p.1 _ _ hwv)) (fun j y U2 hy p => ⟨rfl, ?_⟩) (fun U2 p => ?_)
      · refine ⟨y, rfl, _, p.2, szl ?_, same_mut p.1 hD, ?_⟩
        · have hj := (List.getElem?_eq_some_iff.mp hy).1
          rw [List.length_reverse] at hj
          rw [List.length_take]
          omega
        · rw [upd_same, take_snoc hy]
      · obtain ⟨hS2, hD2⟩ := p
        rw [← List.length_reverse, List.take_length] at hD2
        have hS12 := hS.trans hS2
        refine ⟨l, D, lv, wv.reverse, rfl, rfl, hS12 _ _ hl, hD2, sz (by rw [List.length_reverse]; omega), fun q hq => ?_⟩
        have s3 := same_new (o := HO.lst (lv ++ wv.reverse)) hq
        have hS3 := hS12.trans s3
        have R3 := R.same hS3
        refine ⟨.ref p, rfl, p, _, dx, _, rfl, R3.ins, R6.cls, R6.noat "left" (by simp), fl_len, ?_⟩
        have hqH : H q = none := hS12.free hq
        have hqU : U q = none := hS2.free hq
        refine k _ q ev (R.newl hS3 hqH upd_same ?_)
        refine (hL.ex fun _ _ z => z.ex (er_moved hS3 (fun _ _ => trivial) hqH)).append (Rp.ex (H := er U [p, l, g, wq]) (fun _ _ z => z.ex fun a o h => ?_) hR.reverse)
        obtain ⟨n, h1⟩ := er_of h
        have n1 : a ≠ p := fun z => n (by rw [z]; simp)
        have n2 : a ≠ g := fun z => n (by rw [z]; simp)
        have n3 : a ≠ q := fun z => by rw [z, hqU] at h1; cases h1
        refine er_at (by simp [n1, n2, n3]) ?_
        rw [upd_ne n1]
        exact s3 _ _ (hS2 _ _ h1)
end
end G35

/-! GRun7 -/
set_option Elab.async false
set_option linter.all false
set_option maxRecDepth 100000
set_option maxHeartbeats 4000000
namespace G35
open PySem PySem.Spec PyProof.Rows L2
section
variable {K : PySem.W.Frag} {mg : Str → Option Value}
/-- self.end = (word,) -/
theorem s_end {σ : L2.St} {H B : Hp} {D : Ends} {p dx ra aa l g : Addr} {ev : V} {c : Cfg} {s : SSt} {f : Fin} {wd : Str} (R6 : R36 K mg) (R : RunAt (He.ga K "Run") B H p dx ra aa l g ev c s) (h0 : σ[0]? = some (some (.ref p))) (hf : ∀ U t, U t = some (.tup [.str wd]) → EndV U (some f) (.ref t))
    (k : ∀ H' ev', RunAt (He.ga K "Run") B H' p dx ra aa l g ev' c { s with fin := some f } → D.nx σ H') : sFld K (tVar 0) (tTup (tCons (tC (.str wd)) tNil)) "end" D σ H := by
  refine x_fld (x_tup (ra_cons rd_c ra_nil) (sz (by simp)) fun q hq => ?_)
  have s1 := same_new (o := HO.tup [.str wd]) hq
  refine ⟨.ref p, h0, p, _, dx, _, rfl, (R.same s1).ins, R6.cls, R6.noat "end" (by simp), fl_len, k _ (.ref q) ?_⟩
  exact R.end_ s1 (hf _ _ (er_new R.known hq))
/-- (goals, puts, way + [0]) -/
theorem x_way {σ : L2.St} {H B : Hp} {p dx ra aa l g : Addr} {ev : V} {c : Cfg} {s : SSt} {e : Ent} {Q : VK} {ea ed ew : Addr} {egs : List V} (R : RunAt (He.ga K "Run") B H p dx ra aa l g ev c s) (h4 : σ[4]? = some (some (.ref ea))) (h5 : σ[5]? = some (some (.ref ed))) (h6 : σ[6]? = some (some (.ref ew)))
    (e2 : er H [p, l, g] ea = some (.lst egs)) (e3 : Rp RepG (er H [p, l, g]) e.goals egs) (e4 : PutsAt (er H [p, l, g]) ed e.puts) (e5 : er H [p, l, g] ew = some (.lst (wayV e.way))) (hl : e.way.length ≤ 10000)
    (k : ∀ q H', Same H H' → RepE (er H' [p, l, g]) ⟨e.goals, e.puts, e.way ++ [0]⟩ (.ref q) → Q (.ref q) H') : tTup (tCons (tVar 4) (tCons (tVar 5) (tCons (tOp rCat (tVar 6) (tLst (tCons (tC (.int 0)) tNil))) tNil))) σ H Q := by
  have hwe : (wayV e.way).length = e.way.length := List.length_map ..
  refine x_tupc ⟨.ref ea, h4, .ref ed, h5, .ref ew, h6, sz (by simp), fun q9 hq9 => ?_⟩
  have s9 := same_new (o := HO.lst [.int 0]) hq9
  refine ⟨ew, q9, wayV e.way, [.int 0], rfl, rfl, s9 _ _ (er_of e5).2, upd_same, sz (by simp; omega), fun q10 hq10 => ⟨sz (by simp), fun q11 hq11 => ?_⟩⟩
  have s10 := same_new (o := HO.lst (wayV e.way ++ [.int 0])) hq10
  have s11 := same_new (o := HO.tup [.ref ea, .ref ed, .ref q10]) hq11
  have s911 := (s9.trans s10).trans s11
  have R10 := (R.same s9).same s10
  have m := er_mono (S := [p, l, g]) s911
  refine k q11 _ s911 ⟨q11, ea, ed, q10, egs, rfl, er_new R10.known hq11, m _ _ e2, e3.ex fun _ _ z => z.ex m, e4.same m, ?_⟩
  have ew1 : wayV (e.way ++ [0]) = wayV e.way ++ [.int 0] := by
    unfold wayV
    rw [List.map_append]
    rfl
  rw [ew1]
  exact er_mono s11 _ _ (er_new (R.same s9).known hq10)
end
/-! ### take -/
theorem good_shp {P : Puts} {σ : Str → PT} {rk : Str → Nat} (G : Good P σ rk) (h : ∀ x t, look P x = some t → Shp t) : ∀ x, Shp (σ x) := G.ind (fun x e => by rw [G.free x e]; exact Shp.any x) fun x t e ih => by
  have := G.put x t e
  rw [this]
  exact Shp.sub (h x t e) ih
def spTake (K : PySem.W.Frag) : Sp := fun vs H Q _ => ∃ (B : Hp) (p dx ra aa l g : Addr) (ev : V) (c : Cfg) (s : SSt) (gl : PT) (h : Nat) (e : Ent) (v rs : V) (s' : SSt), vs = [.ref p, v, .int (h : Int), rs] ∧ RunAt (He.ga K "Run") B H p dx ra aa l g ev c s ∧ RepT H gl v ∧ RG c ∧ EG e ∧ RepE (er H [p, l, g]) e rs ∧ s.left.length ≤ 1000 ∧ s.taken ≤ 1000 ∧ Shp gl ∧
  takeF c s s.left gl h e.goals e.puts e.way = some s' ∧ Out (He.ga K "Run") B p dx ra aa g c s' Q
section
variable {P : Program} {w : World} {K : PySem.W.Frag} {mg : Str → Option Value} {base : Heap}
theorem sc_take : FnScope ["self", "goal", "height", "rest", "goals", "puts", "way"] ["self", "goal", "height", "rest"] d_Run_take.scope := ⟨rfl, rfl, rfl, by decide +kernel, rfl, by decide +kernel, by decide +kernel⟩
theorem ok_take (T : T36 K mg) (E6 : E36 K mg) (R6 : R36 K mg) : Mtd P w K mg base 51 "take" ["self", "goal", "height", "rest"] (spTake K) := by
  have cN := ok_tnot (P := P) (w := w) (base := base) T.t R6
  have cD := ok_tdeed (P := P) (w := w) (base := base) T E6 R6
  have cA := ok_tnamed (P := P) (w := w) (base := base) T.t R6
  have cP := ok_parts (P := P) (w := w) (base := base) T.t
  have cW := ok_written (P := P) (w := w) (base := base) T
  obtain ⟨tk2, hm2⟩ := T.m2
  obtain ⟨da, hdm, hdq⟩ := T.deeds
  refine mtd_of (d := d_Run_take) T.t 23 rfl rfl rfl rfl sc_take (fun vs H Q E h => ?_) (fun _ _ _ _ _ _ us hl => match us, hl with | [_, _, _, _], _ => rfl) (fun cdv A outer s0 H vs Q E hr h => ?_)
  · obtain ⟨B, p, dx, ra, aa, l, g, ev, c, s, gl, h, e, v, rs, s', rfl, _⟩ := h
    rfl
  · obtain ⟨B, p, dx, ra, aa, l, g, ev, c, s, gl, h, e, v, rs, s', rfl, R, ht, hrg, heg, he, hll, htk, hsh, htf, k⟩ := h
    refine ⟨_, (pss_cons (ps_asg (pv 3) (pg_tup (n := 3) rfl (pgs_cons (pg_name (i := 4) sc_take.nd rfl (Or.inl rfl)) (pgs_cons (pg_name (i := 5) sc_take.nd rfl (Or.inl rfl)) (pgs_cons (pg_name (i := 6) sc_take.nd rfl (Or.inl rfl)) pgs_nil))))) (pss_cons (ps_if (pt_cmpR op_eq (pe_fld (pv 0) rfl) (pe_fld (pv 0) rfl) (nomark _)) (pss_cons (ps_fld (pv 0) (pe_tup (pa_cons pe_str pa_nil)) rfl) (pss_one ps_retN)) pss_nil) (pss_cons (ps_fld (pv 0) (pe_op op_add (pe_fld (pv 0) rfl) pe_int) rfl) (pss_cons (ps_if (pt_cmpR op_gt (pe_cl cP hr (by omega) rfl (pa_cons (pv 1) (pa_cons (pv 5) (pa_cons (pe_glob (v := .int 40) rfl hm2 ⟨_, rfl⟩) pa_nil)))) (pe_glob (v := .int 40) rfl hm2 ⟨_, rfl⟩) (nomark _)) (pss_cons (ps_fld (pv 0) (pe_tup (pa_cons pe_str pa_nil)) rfl) (pss_one ps_retN)) pss_nil) (pss_cons (ps_set (i := 1) sc_take.nd rfl (Or.inl rfl) (pe_cl cW hr (by omega) rfl (pa_cons (pv 1) (pa_cons (pv 5) pa_nil)))) (pss_one (ps_if (pt_cmpR op_eq (pe_ix ix_tup (pv 1) pe_int (fun _ _ => rfl)) pe_str (nomark _)) (pss_cons (ps_fld (pv 0) (pe_slice sl_list (pe_fld (pv 0) rfl) po_none (po_some (pv 2))) rfl) (pss_one (ps_expr (pe_bm PySem.F.plainAttrs_list PySem.F.slot_list_append PySem.F.type_list_append mt_append (pe_fld (pv 0) rfl) (pa_cons (pe_tup (pa_cons (pv 4) (pa_cons (pv 5) (pa_cons (pe_op op_cat (pv 6) (pe_lst (pa_cons pe_int pa_nil))) pa_nil)))) pa_nil))))) (pss_one (ps_if (pt_cmpR op_eq (pe_ix ix_tup (pv 1) pe_int (fun _ _ => rfl)) pe_str (nomark _)) (pss_one (ps_expr (pe_mtd R6 cN (by decide +kernel) hr (by omega) (pv 0) (pa_cons (pv 1) (pa_cons (pe_tup (pa_cons (pv 4) (pa_cons (pv 5) (pa_cons (pe_op op_cat (pv 6) (pe_lst (pa_cons pe_int pa_nil))) pa_nil)))) pa_nil))))) (pss_one (ps_if (pt_cmpR op_in_seq (pe_ix ix_tup (pv 1) pe_int (fun _ _ => rfl)) (pe_glob (v := .ref da) rfl hdm rfl) rfl) (pss_one (ps_expr (pe_mtd R6 cD (by decide +kernel) hr (by omega) (pv 0) (pa_cons (pv 1) (pa_cons (pe_tup (pa_cons (pv 4) (pa_cons (pv 5) (pa_cons (pe_op op_cat (pv 6) (pe_lst (pa_cons pe_int pa_nil))) pa_nil)))) pa_nil))))) (pss_one (ps_expr (pe_mtd R6 cA (by decide +kernel) hr (by omega) (pv 0) (pa_cons (pv 1) (pa_cons (pv 3) pa_nil)))))))))))))))), ?_⟩
    obtain ⟨et, ea, ed, ew, egs, rfl, he1, he2, he3, he4, he5⟩ := id he
    obtain ⟨σ, rk, G⟩ := heg.good
    have hgw := heg.wlen
    have hgg := heg.glen
    have hA : Ar (gl.sub σ) := Ar.sub hsh.ar fun x _ => G.ar (fun x t e => (heg.shp x t e).ar) x
    refine ⟨_, rfl, et, _, rfl, SqT.of (er_of he1).2, rfl, _, _, rfl, _, _, rfl, _, _, rfl, rfl, ?_⟩
    unfold takeF at htf
    rw [full_eq G] at htf
    refine s_if (rdT_test (rd_eqI (rd_fld R6 (by simp) (rd_var rfl) R.ins fl_taken) (rd_fld R6 (by simp) (rd_var rfl) R.ins fl_bound))) (fun z => ?_) fun z => ?_
    · have z := of_decide_eq_true z
      have z : s.taken = c.bound := by
        injection z with z
        omega
      rw [if_pos z] at htf
      rw [← Option.some.inj htf] at k
      exact s_end (f := .spent) R6 R rfl (fun U t h => ⟨t, rfl, h⟩) fun H' ev' h => k H' l ev' h
    · have z : ¬ s.taken = c.bound := fun e => of_decide_eq_false z (by rw [e])
      rw [if_neg z] at htf
      refine x_fld (x_op (rd_fld R6 (by simp) (rd_var rfl) R.ins fl_taken _ ?_))
      refine ⟨(s.taken : Int), 1, rfl, rfl, .ref p, rfl, p, _, dx, _, rfl, R.ins, R6.cls, R6.noat "taken" (by simp), fl_len, ?_⟩
      have R1 := R.taken_ (s.taken + 1)
      have eH : upd H p (.ins (He.ga K "Run") dx (putF ("taken" : Str) (.int ((s.taken : Int) + 1)) (flds ra aa (c.bound : Int) (c.most : Int) g (s.taken : Int) ev l))) = upd H p (.ins (He.ga K "Run") dx (flds ra aa (c.bound : Int) (c.most : Int) g ((s.taken + 1 : Nat) : Int) ev l)) := rfl
      rw [eH]
      generalize hH1 : upd H p (.ins (He.ga K "Run") dx (flds ra aa (c.bound : Int) (c.most : Int) g ((s.taken + 1 : Nat) : Int) ev l)) = H1 at R1 ⊢
      have tx : TupEx H H1 := by
        rw [← hH1]
        exact tupex_ins R.ins
      have eer : er H1 [p, l, g] = er H [p, l, g] := by
        rw [← hH1]
        exact er_upd (by simp)
      have ht1 := ht.ex tx
      rw [← eer] at he he1 he2 he3 he4 he5
      have hP1 : PutsAt H1 ed e.puts := he4.same er_same
      refine x_cl (sp := spParts) (ra_cons (rd_var rfl) (ra_cons (rd_var rfl) (ra_cons rd_c ra_nil))) ⟨gl, e.puts, σ, rk, v, ed, 40, rfl, by omega, ht1, hP1, G, hA, fun H2 hS2 => ?_⟩
      have R2 := R1.same hS2
      refine ⟨_, 40, rfl, rfl, _, rfl, ?_⟩
      by_cases hbig : 40 < (gl.sub σ).size
      · have eu : upTo (gl.sub σ).size 40 = 41 := by
          unfold upTo
          rw [if_neg (by omega)]
        rw [eu]
        refine iteT ?_
        rw [if_pos hbig] at htf
        rw [← Option.some.inj htf] at k
        exact s_end (f := .big) R6 R2 rfl (fun U t h => ⟨t, rfl, h⟩) fun H' ev' h => k H' l ev' h
      · have eu : upTo (gl.sub σ).size 40 = (gl.sub σ).size := by
          unfold upTo
          rw [if_pos (by omega)]
        rw [eu]
        have e2 : decide ((40 : Int) < ((gl.sub σ).size : Int)) = false := decide_eq_false (by omega)
        rw [e2]
        refine iteF ?_
        rw [if_neg hbig] at htf
        refine x_cl (sp := spWritten) (ra_cons (rd_var rfl) (ra_cons (rd_var rfl) ra_nil)) ⟨gl, e.puts, σ, rk, v, ed, rfl, ht1.ex (.of hS2), hP1.same hS2, G, hA, by omega, fun v3 H3 hS3 ht3 => ?_⟩
        have hS13 := hS2.trans hS3
        have R3 := R1.same hS13
        have m3 := er_mono (S := [p, l, g]) hS13
        have hsub : Shp (gl.sub σ) := Shp.sub hsh fun x _ => good_shp G heg.shp x
        generalize hgs : gl.sub σ = gr at *
        cases gr with
        | num n => cases htf
        | any x => cases htf
        | app f ks =>
          simp only at htf
          have way : ∀ {Q'}, (∀ q H', Same H3 H' → RepE (er H' [p, l, g]) ⟨e.goals, e.puts, e.way ++ [0]⟩ (.ref q) → Q' (.ref q) H') → tTup (tCons (tVar 4) (tCons (tVar 5) (tCons (tOp rCat (tVar 6) (tLst (tCons (tC (.int 0)) tNil))) tNil))) [some (.ref p), some v3, some (.int (h : Int)), some (.ref et), some (.ref ea), some (.ref ed), some (.ref ew)] H3 Q' := fun kk => x_way R3 rfl rfl rfl (m3 _ _ he2) (he3.ex fun _ _ z => z.ex m3) (he4.same m3) (m3 _ _ he5) (by omega) kk
          have hz40 : (Tm.app f ks : PT).size ≤ 40 := by omega
          have hll1 : s.left.length ≤ 10000 := by omega
          by_cases hf : f = wKeep
          · subst hf
            rw [if_pos rfl] at htf
            rw [← Option.some.inj htf] at k
            refine s_if (rdT_test (rd_eqS (rd_second (tm := .app wKeep ks) (rd_var rfl) ht3) rd_c)) (fun _ => ?_) fun z => ?_
            · obtain ⟨lv, hl, hlen, hL⟩ := R3.lft
              have hlen : lv.length = s.left.length := hlen
              refine x_fld (rd_fld R6 (by simp) (rd_var rfl) R3.ins fl_left _ ?_)
              refine ⟨_, rfl, _, rfl, l, lv, rfl, SqL.of hl, fun q hq => ?_⟩
              rw [cutV_pre]
              have s4 := same_new (o := HO.lst (lv.take h)) hq
              have R4 := R3.newl (l' := q) s4 hq upd_same ((hL.take h).ex fun _ _ z => z.ex (er_moved (l := l) s4 (fun _ _ => trivial) hq))
              have m4 := er_moved (p := p) (l := l) (g := g) (o := .ins (He.ga K "Run") dx (flds ra aa (c.bound : Int) (c.most : Int) g ((s.taken + 1 : Nat) : Int) ev q)) s4 (fun _ _ => trivial) hq
              have m34 := m3
              refine ⟨.ref p, rfl, p, _, dx, _, rfl, (R3.same s4).ins, R6.cls, R6.noat "left" (by simp), fl_len, ?_⟩
              have nq : q ≠ p := fun z => by rw [z, R3.ins] at hq; cases hq
              refine s_push (lv := lv.take h) (rd_fld R6 (by simp) (rd_var rfl) R4.ins fl_left) (by rw [upd_ne nq]; exact upd_same) ?_
              refine x_way R4 rfl rfl rfl (m4 _ _ (m3 _ _ he2)) (he3.ex fun _ _ z => (z.ex m3).ex m4) ((he4.same m3).same m4) (m4 _ _ (m3 _ _ he5)) (by omega) fun q2 H5 hS5 hE5 => ?_
              have R5 := R4.same hS5
              have hl5 := hS5 q (.lst (lv.take h)) (by rw [upd_ne nq]; exact upd_same)
              refine ⟨q, lv.take h, .ref q2, rfl, rfl, hl5, szl (by rw [List.length_take]; omega), ?_⟩
              exact k _ q ev (R5.push hl5 hE5)
            · rw [show decide (V.str wKeep = V.str ("keep" : Str)) = true from decide_eq_true rfl] at z
              cases z
          · rw [if_neg hf] at htf
            refine s_if (rdT_test (rd_eqS (rd_second (tm := .app f ks) (rd_var rfl) ht3) rd_c)) (fun z => ?_) fun _ => ?_
            · rw [decS, decide_eq_true_iff] at z
              exact absurd z hf
            by_cases hf2 : f = wNot
            · subst hf2
              rw [if_pos rfl] at htf
              refine s_if (rdT_test (rd_eqS (rd_second (tm := .app wNot ks) (rd_var rfl) ht3) rd_c)) (fun _ => ?_) fun z => ?_
              · refine ⟨.ref p, rfl, p, dx, _, rfl, R3.ins, fl_meth (by simp), v3, rfl, ?_⟩
                refine x_c (way fun q H4 hS4 hE4 => ?_)
                refine ⟨B, p, dx, ra, aa, l, g, ev, c, _, ks, _, v3, .ref q, rfl, R3.same hS4, ht3.ex (.of hS4), hz40, hE4, hll1, ?_⟩
                by_cases hv : (Tm.app wNot ks : PT).vars ≠ []
                · rw [if_pos hv] at htf
                  rw [← Option.some.inj htf] at k
                  exact .inl ⟨hv, fun H' l' ev' h => k H' l' ev' h⟩
                · rw [if_neg hv] at htf
                  refine .inr ⟨Classical.not_not.mp hv, ?_⟩
                  match ks, htf with
                  | [G1], htf =>
                    rw [← Option.some.inj htf] at k
                    exact ⟨G1, rfl, fun H' l' ev' h => k H' l' ev' h⟩
              · rw [show decide (V.str wNot = V.str ("not" : Str)) = true from decide_eq_true rfl] at z
                cases z
            · rw [if_neg hf2] at htf
              refine s_if (rdT_test (rd_eqS (rd_second (tm := .app f ks) (rd_var rfl) ht3) rd_c)) (fun z => ?_) fun _ => ?_
              · rw [decS, decide_eq_true_iff] at z
                exact absurd z hf2
              have hin : inV (.str f) [.str "=", .str ":=", .str "<", .str "<="] = decide (f ∈ deedW) := inV_strs f ["=", ":=", "<", "<="]
              refine s_if (rdT_test (rd_isIn (rd_second (tm := .app f ks) (rd_var rfl) ht3) rd_c (hdq H3) rfl rfl)) (fun z => ?_) fun z => ?_
              · have z : inV (.str f) [.str "=", .str ":=", .str "<", .str "<="] = true := z
                rw [hin, decide_eq_true_iff] at z
                have zz : f ∈ deedW := z
                rw [if_pos zz] at htf
                refine ⟨.ref p, rfl, p, dx, _, rfl, R3.ins, fl_meth (by simp), v3, rfl, ?_⟩
                refine x_c (way fun q H4 hS4 hE4 => ?_)
                match ks, htf, hz40, hsub, ht3 with
                | [t, u], htf, hz40, hsub, ht3 =>
                  simp only at htf
                  cases hd : deedF f t u e.puts with
                  | none => rw [hd] at htf; cases htf
                  | some res =>
                    rw [hd] at htf
                    refine ⟨B, p, dx, ra, aa, l, g, ev, c, _, f, t, u, _, v3, .ref q, res, rfl, R3.same hS4, ht3.ex (.of hS4), hz40, zz, hsub.kid (by simp), hsub.kid (by simp), hE4, hll1, hd, ?_⟩
                    match res, htf with
                    | .inr wd, htf =>
                      rw [← Option.some.inj htf] at k
                      exact fun H' l' ev' h => k H' l' ev' h
                    | .inl none, htf =>
                      rw [← Option.some.inj htf] at k
                      exact fun H' l' ev' h => k H' l' ev' h
                    | .inl (some P'), htf =>
                      rw [← Option.some.inj htf] at k
                      exact fun H' l' ev' h => k H' l' ev' h
              · have z : inV (.str f) [.str "=", .str ":=", .str "<", .str "<="] = false := z
                rw [hin, decide_eq_false_iff_not] at z
                rw [if_neg z] at htf
                cases hw : waysF (s.taken + 1) (.app f ks) e.goals e.puts e.way s.left.length c.rules 0 with
                | none => rw [hw] at htf; cases htf
                | some ways =>
                  rw [hw] at htf
                  rw [← Option.some.inj htf] at k
                  refine x_mtd (rd_var rfl) R3.ins (fl_meth (by simp)) (ra_cons (rd_var rfl) (ra_cons (rd_var rfl) ra_nil)) ?_
                  exact ⟨B, p, dx, ra, aa, l, g, ev, c, _, f, ks, e, v3, .ref et, ways, rfl, R3, ht3, hrg, he.ex m3, hll1, by omega, by omega, Nat.succ_le_succ htk, hw, fun H' l' ev' h => k H' l' ev' h⟩
end
end G35

/-! GRun8 -/
set_option Elab.async false
set_option linter.all false
set_option maxRecDepth 100000
set_option maxHeartbeats 4000000
namespace G35
open PySem PySem.Spec PyProof.Rows L2
/-! ### tell -/
def spTell (K : PySem.W.Frag) : Sp := fun vs H Q _ => ∃ (B : Hp) (p dx ra aa l g : Addr) (ev : V) (c : Cfg) (s : SSt) (P : Puts) (way : List Nat) (ed ew : Addr), vs = [.ref p, .ref ed, .ref ew] ∧ RunAt (He.ga K "Run") B H p dx ra aa l g ev c s ∧ PutsAt (er H [p, l, g]) ed P ∧ er H [p, l, g] ew = some (.lst (wayV way)) ∧
  (∃ σ rk, Good P σ rk) ∧ (∀ x t, look P x = some t → Shp t) ∧ c.asked.length ≤ 1000 ∧ s.given.length ≤ 1000 ∧ s.fin = none ∧ Out (He.ga K "Run") B p dx ra aa g c (tellF c s s.left P way) Q
theorem parts40_up (t : PT) : upTo t.size 40 = parts40 t := rfl
theorem sum_small {f : Str → PT} : ∀ {l : List Str}, (∀ x ∈ l, (f x).size ≤ 40) → sizes (l.map f) = (l.map fun x => parts40 (f x)).sum
  | [], _ => rfl
  | x :: l, h => by
    rw [List.map_cons, sizes_cons, List.map_cons, List.sum_cons, sum_small fun y hy => h y (List.mem_cons_of_mem _ hy)]
    have := h x (List.mem_cons_self ..)
    unfold parts40
    rw [if_pos this]
section
variable {P : Program} {w : World} {K : PySem.W.Frag} {mg : Str → Option Value} {base : Heap}
theorem sc_tell : FnScope ["self", "puts", "way", "size", "name", "found"] ["self", "puts", "way"] d_Run_tell.scope := ⟨rfl, rfl, rfl, by decide +kernel, rfl, by decide +kernel, by decide +kernel⟩
theorem ok_tell (T : T36 K mg) (R6 : R36 K mg) : Mtd P w K mg base 51 "tell" ["self", "puts", "way"] (spTell K) := by
  have cP := ok_parts (P := P) (w := w) (base := base) T.t
  have cW := ok_written (P := P) (w := w) (base := base) T
  have cT := (ok_told (P := P) (w := w) (base := base) T.t 40).cl
  obtain ⟨tk2, hm2⟩ := T.m2
  refine mtd_of (d := d_Run_tell) T.t 22 rfl rfl rfl rfl sc_tell (fun vs H Q E h => ?_) (fun _ _ _ _ _ _ us hl => match us, hl with | [_, _, _], _ => rfl) (fun cdv A outer s0 H vs Q E hr h => ?_)
  · obtain ⟨B, p, dx, ra, aa, l, g, ev, c, s, P', way, ed, ew, rfl, _⟩ := h
    rfl
  · obtain ⟨B, p, dx, ra, aa, l, g, ev, c, s, P', way, ed, ew, rfl, R, hP, hw, ⟨σ, rk, G⟩, hsp, hal, hgl, hfin, k⟩ := h
    refine ⟨_, (pss_cons (ps_set (i := 3) sc_tell.nd rfl (Or.inl rfl) pe_int) (pss_cons (ps_for PassesOwn.never rfl (pi_list (pe_fld (pv 0) rfl)) (pg_name (i := 4) sc_tell.nd rfl (Or.inl rfl)) (pss_one (ps_set (i := 3) sc_tell.nd rfl (Or.inl rfl) (pe_op op_add (pv 3) (pe_cl cP hr (by omega) rfl (pa_cons (pe_tup (pa_cons pe_str (pa_cons (pv 4) pa_nil))) (pa_cons (pv 1) (pa_cons (pe_glob (v := .int 40) rfl hm2 ⟨_, rfl⟩) pa_nil)))))))) (pss_cons (ps_if (pt_cmpR op_gt (pv 3) (pe_glob (v := .int 40) rfl hm2 ⟨_, rfl⟩) (nomark _)) (pss_cons (ps_fld (pv 0) (pe_tup (pa_cons pe_str pa_nil)) rfl) (pss_one ps_retN)) pss_nil) (pss_cons (ps_set (i := 5) sc_tell.nd rfl (Or.inl rfl) (pe_cl cT hr (by omega) rfl (pa_cons (pe_lc (own := [("name", 4)]) (g := gName 4) (tt := tYes) rfl sc_tell.nd (pi_list (pe_fld (pv 0) rfl)) (blkOk_by (N := ["self", "puts", "way", "size", "name", "found"]) (sc := d_Run_tell.scope) (by decide +kernel)) (fun _ _ _ _ _ => (pg_name (i := 4) sc_tell.nd rfl (Or.inl rfl))) (fun _ _ _ _ _ => pts_nil) (fun s2 H2 C2 cl2 fp2 => (pe_cl cW hr (by omega) rfl (pa_cons (pe_tup (pa_cons pe_str (pa_cons (pv 4) pa_nil))) (pa_cons (pv 1) pa_nil))))) pa_nil))) (pss_cons (ps_expr (pe_bm PySem.F.plainAttrs_list PySem.F.slot_list_append PySem.F.type_list_append mt_append (pe_fld (pv 0) rfl) (pa_cons (pe_tup (pa_cons (pe_listZip rfl rfl (T.t.free 1 _ rfl) rfl (T.t.free 9 _ rfl) (pa_cons (pe_fld (pv 0) rfl) (pa_cons (pv 5) pa_nil))) (pa_cons (pv 2) pa_nil))) pa_nil))) (pss_one (ps_if (pt_cmpR op_eq (pe_callB call_len_seq rfl (T.t.free 0 _ rfl) PySem.boot_len (pa_cons (pe_fld (pv 0) rfl) pa_nil)) (pe_fld (pv 0) rfl) (nomark _)) (pss_one (ps_fld (pv 0) (pe_tup (pa_cons pe_str pa_nil)) rfl)) pss_nil))))))), ?_⟩
    have hA : ∀ x, Ar (σ x) := G.ar (fun x t e => (hsp x t e).ar)
    unfold tellF at k
    rw [full_eq G] at k
    have hP0 : PutsAt H ed P' := hP.same er_same
    have hB : ∀ U, Same H U → SqL K U aa (c.asked.map V.str) := fun U hU => SqL.of (hU _ _ (R.sub _ _ R.asked))
    refine s_set rd_c ?_
    refine ⟨.ref p, rfl, p, _, dx, _, .ref aa, rfl, R.ins, R6.cls, R6.noat "asked" (by simp), fl_asked, aa, rfl, ⟨_, hB H (Same.refl _)⟩, ?_⟩
    refine for_list (xs := c.asked.map V.str) (fun i τ U => ∃ x4, τ = [some (.ref p), some (.ref ed), some (.ref ew), some (.int (((((c.asked.take i).map fun x => parts40 (σ x)).sum : Nat)) : Int)), x4, none] ∧ Same H U) ⟨none, rfl, Same.refl _⟩ (fun i τ U _ h => hB U h.choose_spec.2) (fun i x τ U hx h => ?_) (fun τ U h => ?_)
    · obtain ⟨x4, rfl, hS⟩ := h
      rw [List.getElem?_map] at hx
      cases hxa : c.asked[i]? with
      | none => rw [hxa] at hx; cases hx
      | some nm =>
        rw [hxa] at hx
        cases hx
        refine s_asg (x_op ⟨_, rfl, x_clc (x_tup (ra_cons rd_c (ra_cons (rd_var rfl) ra_nil)) (sz (by simp)) fun q hq => ?_)⟩)
        have s1 := same_new (o := HO.tup [.str "any", .str nm]) hq
        have hS1 := hS.trans s1
        refine ra_cons (rd_var rfl) (ra_cons rd_c ra_nil) _ ⟨.any nm, P', σ, rk, .ref q, ed, 40, rfl, by omega, ⟨q, rfl, upd_same⟩, hP0.same hS1, G, by rw [Tm.sub_any]; exact hA nm, fun U2 hS2 => ?_⟩
        refine ⟨_, _, rfl, rfl, some (.str nm), ?_, hS1.trans hS2⟩
        have e : ((((c.asked.take i).map fun x => parts40 (σ x)).sum : Nat) : Int) + ((upTo ((Tm.any nm).sub σ).size 40 : Nat) : Int) = ((((c.asked.take (i + 1)).map fun x => parts40 (σ x)).sum : Nat) : Int) := by
          rw [take_snoc hxa, List.map_append, List.sum_append, Tm.sub_any, parts40_up]
          simp
        rw [← e]
        rfl
    · obtain ⟨x4, rfl, hS⟩ := h
      rw [List.length_map, List.take_length]
      have R1 := R.same hS
      refine s_if (rdT_test (rd_I0 (g := fun i j => .bl (decide (j < i))) (rd_var rfl) rd_c)) (fun z => ?_) fun z => ?_
      · have z : 40 < (c.asked.map fun x => parts40 (σ x)).sum := by
          have := of_decide_eq_true z
          omega
        rw [if_pos z] at k
        exact s_end (f := .big) R6 R1 rfl (fun U t h => ⟨t, rfl, h⟩) fun H' ev' h => k H' l ev' h
      · have z : ¬ 40 < (c.asked.map fun x => parts40 (σ x)).sum := by
          have := of_decide_eq_false z
          omega
        rw [if_neg z] at k
        have small := parts40_sum z
        have hsum := sum_small small
        refine ⟨.ref p, rfl, p, _, dx, _, .ref aa, rfl, R1.ins, R6.cls, R6.noat "asked" (by simp), fl_asked, aa, rfl, ⟨_, hB U hS⟩, fun D hD => ?_⟩
        refine lc_list (xs := c.asked.map V.str) (fun j U2 => Same U U2 ∧ ∃ acc, U2 D = some (.lst acc) ∧ RepL U2 ((c.asked.take j).map σ) acc) ⟨same_new hD, [], upd_same, RepL.nil⟩ (fun j U2 _ q => hB U2 (hS.trans q.1)) (fun j x U2 hx q => ?_) (fun U2 q => ?_)
        · obtain ⟨hS2, acc, hacc, hL⟩ := q
          have hal2 := hL.length
          rw [List.length_map, List.length_take] at hal2
          rw [List.getElem?_map] at hx
          cases hxa : c.asked[j]? with
          | none => rw [hxa] at hx; cases hx
          | some nm =>
            rw [hxa] at hx
            cases hx
            refine ⟨rfl, x_yes (x_clc (x_tup (ra_cons rd_c (ra_cons (rd_var rfl) ra_nil)) (sz (by simp)) fun q hq => ?_))⟩
            have s1 := same_new (o := HO.tup [.str "any", .str nm]) hq
            have hS21 := (hS.trans hS2).trans s1
            refine ra_cons (rd_var rfl) ra_nil _ ⟨.any nm, P', σ, rk, .ref q, ed, rfl, ⟨q, rfl, upd_same⟩, hP0.same hS21, G, by rw [Tm.sub_any]; exact hA nm, by rw [Tm.sub_any]; exact small nm (List.mem_of_getElem? hxa), fun v' U3 e r => ?_⟩
            have e' := s1.trans e
            have ex : TupEx U3 (upd U3 D (.lst (acc ++ [v']))) := tupex_ls (e' _ _ hacc)
            refine ⟨acc, e' _ _ hacc, szl (by omega), same_mut (hS2.trans e') hD, _, upd_same, ?_⟩
            rw [take_snoc hxa, List.map_append]
            rw [Tm.sub_any] at r
            exact (hL.ex ((TupEx.of e').trans ex)).snoc (r.ex ex)
        · obtain ⟨hS2, acc, hacc, hL⟩ := q
          rw [List.length_map, List.take_length] at hL
          have R2 := R1.same hS2
          refine ⟨D, c.asked.map σ, acc, rfl, hacc, hL, by omega, fun t ht => ?_, fun q5 us U3 hS3 hn3 hq3 hL3 => ?_⟩
          · obtain ⟨x, hx, rfl⟩ := List.mem_map.mp ht
            exact Nat.le_trans (σ x).depth_le_size (small x hx)
          · have R3 := R2.same hS3
            have hS03 := (hS.trans hS2).trans hS3
            obtain ⟨gv, hg, hgG⟩ := R3.given
            have hgvl : gv.length = s.given.length := hgG.1
            have hul := hL3.length
            have htl : (tolds (c.asked.map σ)).length = c.asked.length := by
              unfold tolds
              rw [List.length_map, List.length_map]
            refine s_push (rd_fld R6 (by simp) (rd_var rfl) R3.ins fl_given) hg (x_tupc ?_)
            refine ⟨.ref p, rfl, p, _, dx, _, .ref aa, rfl, R3.ins, R6.cls, R6.noat "asked" (by simp), fl_asked, .ref q5, rfl, aa, q5, c.asked.map V.str, us, rfl, hB U3 hS03, .inl (SqL.of hq3), by rw [List.length_map, hul, htl], fun q6 ts U4 hS4 hn6 hq6 htsl hts => ?_⟩
            have R4 := R3.same hS4
            refine ⟨.ref ew, rfl, sz (by simp), fun q7 hq7 => ?_⟩
            have s7 := same_new (o := HO.tup [.ref q6, .ref ew]) hq7
            have R5 := R4.same s7
            have hg5 := s7 _ _ (hS4 _ _ hg)
            have m0 := er_mono (S := [p, l, g]) (hS03.trans (hS4.trans s7))
            rw [List.length_map] at htsl
            have new : RepA (er (upd U4 q7 (.tup [.ref q6, .ref ew])) [p, l, g]) (c.asked.zip (tolds (c.asked.map σ)), way) (.ref q7) := by
              refine ⟨q7, q6, ew, ts.map V.ref, rfl, er_new R4.known hq7, er_mono s7 _ _ (er_at (fun hm => R3.known _ hm hn6) hq6), ⟨by rw [List.length_map, htsl, List.length_zip, htl]; omega, fun i x v hx hv => ?_⟩, m0 _ _ hw⟩
              rw [List.getElem?_map] at hv
              cases htv : ts[i]? with
              | none => rw [htv] at hv; cases hv
              | some t1 =>
                rw [htv] at hv
                cases hv
                obtain ⟨x1, x2⟩ := x
                rw [List.getElem?_zip_eq_some] at hx
                obtain ⟨hx1, hx2⟩ := hx
                obtain ⟨u, hu, hru⟩ := hL3.get i _ hx2
                have ht1 := hts i (.str x1) u t1 (by rw [List.getElem?_map, hx1]; rfl) hu htv
                refine ⟨t1, u, rfl, er_mono s7 _ _ (er_at (fun hm => R4.out' _ hm _ ht1) ht1), ?_⟩
                exact RepT.er R5.out' (hru.ex (.of (hS4.trans s7)))
            refine ⟨g, gv, .ref q7, rfl, rfl, hg5, szl (by omega), ?_⟩
            have R6' := R5.given_ hg5 new
            refine s_if (rdT_test (rd_eqI (rd_lenL (rd_fld R6 (by simp) (rd_var rfl) R6'.ins fl_given) upd_same) (rd_fld R6 (by simp) (rd_var rfl) R6'.ins fl_most))) (fun z => ?_) fun z => ?_
            · have z := of_decide_eq_true z
              have z : s.given.length + 1 = c.most := by
                injection z with z
                rw [List.length_append, List.length_singleton] at z
                omega
              rw [if_pos z] at k
              exact s_end (f := .enough) R6 R6' rfl (fun U t h => ⟨t, rfl, h⟩) fun H' ev' h => k H' l ev' h
            · have z : ¬ s.given.length + 1 = c.most := fun e => of_decide_eq_false z (by
                rw [List.length_append, List.length_singleton]
                congr 1
                omega)
              rw [if_neg z] at k
              rw [← hfin] at k
              exact k _ l ev R6'
end
end G35

/-! GRun9 -/
set_option Elab.async false
set_option linter.all false
set_option maxRecDepth 100000
set_option maxHeartbeats 4000000
namespace G35
open PySem PySem.Spec PyProof.Rows L2
/-! ### step -/
def spStep (K : PySem.W.Frag) : Sp := fun vs H Q _ => ∃ (B : Hp) (p dx ra aa l g : Addr) (ev : V) (c : Cfg) (s s' : SSt), vs = [.ref p] ∧ RunAt (He.ga K "Run") B H p dx ra aa l g ev c s ∧ RG c ∧ SG s ∧ s.fin = none ∧ c.asked.length ≤ 1000 ∧ stepF c s = some s' ∧ Out (He.ga K "Run") B p dx ra aa g c s' Q
theorem takeF_left (c : Cfg) (s : SSt) (low : List Ent) (g : PT) (h : Nat) (gs : List (Option PT × Nat)) (P : Puts) (way : List Nat) : takeF c { s with left := low } low g h gs P way = takeF c s low g h gs P way := rfl
theorem tellF_left (c : Cfg) (s : SSt) (low : List Ent) (P : Puts) (way : List Nat) : tellF c { s with left := low } low P way = tellF c s low P way := rfl
section
variable {P : Program} {w : World} {K : PySem.W.Frag} {mg : Str → Option Value} {base : Heap}
theorem sc_step : FnScope ["self", "goals", "puts", "way"] ["self"] d_Run_step.scope := ⟨rfl, rfl, rfl, by decide +kernel, rfl, by decide +kernel, by decide +kernel⟩
theorem ok_step (T : T36 K mg) (E6 : E36 K mg) (R6 : R36 K mg) : Mtd P w K mg base 52 "step" ["self"] (spStep K) := by
  have cT := ok_tell (P := P) (w := w) (base := base) T R6
  have cK := ok_take (P := P) (w := w) (base := base) T E6 R6
  refine mtd_of (d := d_Run_step) T.t 21 rfl rfl rfl rfl sc_step (fun vs H Q E h => ?_) (fun _ _ _ _ _ _ us hl => match us, hl with | [_], _ => rfl) (fun cdv A outer s0 H vs Q E hr h => ?_)
  · obtain ⟨B, p, dx, ra, aa, l, g, ev, c, s, s', rfl, _⟩ := h
    rfl
  · obtain ⟨B, p, dx, ra, aa, l, g, ev, c, s, s', rfl, R, hrg, hsg, hfin, hal, hst, k⟩ := h
    have hu := hu_of hr
    refine ⟨_, (pss_cons (ps_if (pt_cmpR (op_eqL0 hu) (pe_fld (pv 0) rfl) (pe_lst pa_nil) (nomark _)) (pss_cons (ps_fld (pv 0) (pe_tup (pa_cons pe_str pa_nil)) rfl) (pss_one ps_retN)) pss_nil) (pss_cons (ps_asg (pe_bm0 PySem.F.plainAttrs_list PySem.F.slot_list_pop PySem.F.type_list_pop mt_pop (pe_fld (pv 0) rfl)) (pg_tup (n := 3) rfl (pgs_cons (pg_name (i := 1) sc_step.nd rfl (Or.inl rfl)) (pgs_cons (pg_name (i := 2) sc_step.nd rfl (Or.inl rfl)) (pgs_cons (pg_name (i := 3) sc_step.nd rfl (Or.inl rfl)) pgs_nil))))) (pss_one (ps_if (pt_cmpR (op_eqL0 hu) (pv 1) (pe_lst pa_nil) (nomark _)) (pss_one (ps_expr (pe_mtd R6 cT (by decide +kernel) hr (by omega) (pv 0) (pa_cons (pv 2) (pa_cons (pv 3) pa_nil))))) (pss_one (ps_if (pt_cmpR op_isN (pe_ix ix_tup (pe_ix ix_list (pv 1) pe_int (fun _ _ => rfl)) pe_int (fun _ _ => rfl)) pe_non (nomark _)) (pss_one (ps_fld (pv 0) (pe_slice sl_list (pe_fld (pv 0) rfl) po_none (po_some (pe_ix ix_tup (pe_ix ix_list (pv 1) pe_int (fun _ _ => rfl)) pe_int (fun _ _ => rfl)))) rfl)) (pss_one (ps_expr (pe_mtd R6 cK (by decide +kernel) hr (by omega) (pv 0) (pa_cons (pe_ix ix_tup (pe_ix ix_list (pv 1) pe_int (fun _ _ => rfl)) pe_int (fun _ _ => rfl)) (pa_cons (pe_ix ix_tup (pe_ix ix_list (pv 1) pe_int (fun _ _ => rfl)) pe_int (fun _ _ => rfl)) (pa_cons (pe_tup (pa_cons (pe_slice sl_list (pv 1) (po_some pe_int) po_none) (pa_cons (pv 2) (pa_cons (pv 3) pa_nil)))) pa_nil)))))))))))), ?_⟩
    obtain ⟨lv, hl, hlen, hL⟩ := R.lft
    have hsl := hsg.len
    refine ⟨.ref p, rfl, p, _, dx, _, .ref l, rfl, R.ins, R6.cls, R6.noat "left" (by simp), fl_left, sz (by simp), fun q hq => ?_⟩
    have s1 := same_new (o := HO.lst []) hq
    have R1 := R.same s1
    refine ⟨l, q, lv, rfl, rfl, SqL.of (s1 _ _ hl), SqL.of upd_same, _, rfl, ?_⟩
    unfold stepF at hst
    cases hlast : s.left.getLast? with
    | none =>
      have hn : s.left = [] := List.getLast?_eq_none_iff.mp hlast
      rw [hlast] at hst
      rw [← Option.some.inj hst] at k
      rw [hn] at hlen
      have hlen : lv.length = 0 := hlen
      rw [decide_eq_true hlen]
      exact iteT (s_end (f := .all) R6 R1 rfl (fun U t h => ⟨t, rfl, h⟩) fun H' ev' h => k H' l ev' h)
    | some e =>
      have hle := last_of hlast
      rw [hlast] at hst
      simp only at hst
      generalize hlow : s.left.dropLast = low at hle hst
      rw [hle] at hL
      obtain ⟨lw, v, rfl, hL1, hE⟩ := hL.last
      have hne : ¬ (lw ++ [v]).length = 0 := by simp
      rw [decide_eq_false hne]
      refine iteF ?_
      have hl1 := s1 _ _ hl
      have heg := hsg.ents e (by rw [hle]; simp)
      have m1 := er_mono (S := [p, l, g]) s1
      have hlw : lw.length = low.length := hL1.1
      rw [List.length_append, List.length_singleton, hle, List.length_append, List.length_singleton] at hlen
      have hs2 : low.length + 1 ≤ 1000 := by
        rw [hle, List.length_append, List.length_singleton] at hsl
        exact hsl
      refine ⟨.ref p, rfl, p, _, dx, _, .ref l, rfl, R1.ins, R6.cls, R6.noat "left" (by simp), fl_left, .inl ⟨rfl, _, SqL.of hl1⟩, l, _, v, rfl, rfl, hl1, rd_popped.1, ?_⟩
      rw [rd_popped.2]
      have R2 := R1.left_ (left' := low) (lv' := lw) (hL1.ex fun _ _ z => z.ex m1)
      have eer : er (upd (upd H q (.lst [])) l (.lst lw)) [p, l, g] = er (upd H q (.lst [])) [p, l, g] := er_upd (by simp)
      have hE2 := hE.ex m1
      rw [← eer] at hE2
      generalize hH2 : upd (upd H q (.lst [])) l (.lst lw) = H2 at R2 hE2 ⊢
      obtain ⟨et, ea, ed, ew, egs, rfl, he1, he2, he3, he4, he5⟩ := hE2
      refine ⟨et, _, rfl, SqT.of (er_of he1).2, rfl, _, _, rfl, _, _, rfl, _, _, rfl, rfl, ?_⟩
      -- goals == []
      refine ⟨.ref ea, rfl, sz (by simp), fun q3 hq3 => ?_⟩
      have s3 := same_new (o := HO.lst []) hq3
      have R3 := R2.same s3
      have m3 := er_mono (S := [p, l, g]) s3
      refine ⟨ea, q3, egs, rfl, rfl, SqL.of (s3 _ _ (er_of he2).2), SqL.of upd_same, _, rfl, ?_⟩
      have hgl := he3.1
      have hgm := heg.glen
      cases hg : e.goals with
      | nil =>
        rw [hg] at hst hgl
        simp only at hst
        rw [← Option.some.inj hst] at k
        have hgl : egs.length = 0 := hgl
        rw [decide_eq_true hgl]
        refine iteT ?_
        refine x_mtd (rd_var rfl) R3.ins (fl_meth (by simp)) (ra_cons (rd_var rfl) (ra_cons (rd_var rfl) ra_nil)) ?_
        exact ⟨B, p, dx, ra, aa, l, g, ev, c, _, e.puts, e.way, ed, ew, rfl, R3, he4.same m3, m3 _ _ he5, heg.good, heg.shp, hal, hsg.giv, hfin, fun H' l' ev' h => k H' l' ev' h⟩
      | cons qg gs =>
        obtain ⟨og, h⟩ := qg
        rw [hg] at he3 hst hgl hgm
        have hgl : egs.length = gs.length + 1 := hgl
        have hne2 : ¬ egs.length = 0 := by omega
        rw [decide_eq_false hne2]
        refine iteF ?_
        obtain ⟨v0, r0, rfl, hv0, hr0⟩ := he3.un
        obtain ⟨t0, gv, rfl, ht0, hgv⟩ := hv0
        have ea3 := s3 _ _ (er_of he2).2
        have t03 := s3 _ _ (er_of ht0).2
        have key : ∀ Q', Q' gv (upd H2 q3 (.lst [])) → tOp (rIxT K) (tOp (rIxL K) (tVar 1) (tC (.int 0))) (tC (.int 0)) [some (.ref p), some (.ref ea), some (.ref ed), some (.ref ew)] (upd H2 q3 (.lst [])) Q' := rd_ixT (n := 0) (rd_ixL (n := 0) (rd_var rfl) rd_c ea3 rfl) rd_c t03 rfl
        have key2 : Rds (tOp (rIxT K) (tOp (rIxL K) (tVar 1) (tC (.int 0))) (tC (.int 1))) [some (.ref p), some (.ref ea), some (.ref ed), some (.ref ew)] (upd H2 q3 (.lst [])) (.int (h : Int)) := rd_ixT (n := 1) (rd_ixL (n := 0) (rd_var rfl) rd_c ea3 rfl) rd_c t03 rfl
        refine key _ ⟨rfl, _, rfl, ?_⟩
        cases og with
        | none =>
          have hgv : gv = .non := hgv
          subst hgv
          refine iteT ?_
          simp only at hst
          rw [← Option.some.inj hst] at k
          obtain ⟨lv3, hl3, hlen3, hL3⟩ := R3.lft
          refine x_fld (rd_fld R6 (by simp) (rd_var rfl) R3.ins fl_left _ (key2 _ ⟨_, rfl, l, lv3, rfl, SqL.of hl3, fun q4 hq4 => ?_⟩))
          rw [cutV_pre]
          have s4 := same_new (o := HO.lst (lv3.take h)) hq4
          have R4 := R3.newl (l' := q4) s4 hq4 upd_same ((hL3.take h).ex fun _ _ z => z.ex (er_moved (l := l) s4 (fun _ _ => trivial) hq4))
          refine ⟨.ref p, rfl, p, _, dx, _, rfl, (R3.same s4).ins, R6.cls, R6.noat "left" (by simp), fl_len, ?_⟩
          exact k _ q4 ev R4
        | some gg =>
          have hgv : RepT (er H2 [p, l, g]) gg gv := hgv
          obtain ⟨ga, _, rfl, _⟩ := hgv.at
          refine iteF ?_
          simp only at hst
          have hsg2 := heg.goals (some gg, h) (by rw [hg]; simp) gg rfl
          refine ⟨.ref p, rfl, p, dx, _, rfl, R3.ins, fl_meth (by simp), ?_⟩
          refine x_c (key _ (x_c (key2 _ (x_c (x_tupc ?_)))))
          refine ⟨.ref ea, rfl, 1, rfl, ea, _, rfl, SqL.of ea3, fun q4 hq4 => ?_⟩
          have cs := cutV_suf (V.ref t0 :: r0) 1
          have cs : cutV (V.ref t0 :: r0) (some 1) none = r0 := cs
          rw [cs]
          have s4 := same_new (o := HO.lst r0) hq4
          refine ⟨.ref ed, rfl, .ref ew, rfl, sz (by simp), fun q5 hq5 => ?_⟩
          have s5 := same_new (o := HO.tup [.ref q4, .ref ed, .ref ew]) hq5
          have R5 := (R3.same s4).same s5
          have m35 := er_mono (S := [p, l, g]) ((s3.trans s4).trans s5)
          refine ⟨B, p, dx, ra, aa, l, g, ev, c, _, gg, h, ⟨gs, e.puts, e.way⟩, .ref ga, .ref q5, s', rfl, R5, hgv.ex ((TupEx.of er_same).trans (.of ((s3.trans s4).trans s5))), hrg, ⟨heg.good, heg.shp, heg.plen, fun q hq => heg.goals q (by rw [hg]; exact List.mem_cons_of_mem _ hq), ?_, heg.wlen⟩, ?_, ?_, hsg.tak, hsg2.1, ?_, fun H' l' ev' h => k H' l' ev' h⟩
          · have : gs.length + 1 ≤ 1000 := hgm
            exact Nat.le_of_succ_le this
          · exact ⟨q5, q4, ed, ew, r0, rfl, er_new (R3.same s4).known hq5, er_mono s5 _ _ (er_new R3.known hq4), hr0.ex fun _ _ z => z.ex m35, he4.same m35, m35 _ _ he5⟩
          · exact Nat.le_of_succ_le hs2
          · rw [takeF_left]
            exact hst
end
end G35

/-! GRun10 -/
set_option Elab.async false
set_option linter.all false
set_option maxRecDepth 100000
set_option maxHeartbeats 4000000
namespace G35
open PySem PySem.Spec PyProof.Rows L2
/-! ### __init__ -/
theorem len_lt {α : Type} {l : List α} (n : Nat) (h : l.length = n) (hn : n < 1000 := by decide) : l.length < 1000 := by
  rw [h]
  exact hn
theorem RepR.exT {H H' : Hp} (s : TupEx H H') {q : Rule} {v : V} (h : RepR H q v) : RepR H' q v := by
  obtain ⟨t, b, u, bs, h1, h2, h3, h4, h5⟩ := h
  exact ⟨t, b, u, bs, h1, s _ _ h2, h3.ex s, s _ _ h4, h5.ex fun _ _ z => z.ex s⟩
def flds7 (ra aa : Addr) (b m : Int) (g : Addr) : List (Str × V) := [("rules", .ref ra), ("asked", .ref aa), ("bound", .int b), ("most", .int m), ("given", .ref g), ("taken", .int 0), ("end", .non)]
def spInit (K : PySem.W.Frag) : Sp := fun vs H Q _ => ∃ (x dx ra ga : Addr) (c : Cfg) (gs0 : List PT) (rv gv : List V), vs = [.ref x, .ref ra, .ref ga, .int (c.bound : Int), .int (c.most : Int)] ∧ H x = some (.ins (He.ga K "Run") dx []) ∧ H ra = some (.lst rv) ∧ Rp RepR H c.rules rv ∧ H ga = some (.lst gv) ∧ RepL H gs0 gv ∧ sizes gs0 ≤ 100000 ∧ gs0.length ≤ 1000 ∧ c.asked = firsts (varsT gs0) ∧
  ∀ (B H' : Hp) (aa l g : Addr), (∀ a o, a ≠ x → H a = some o → B a = some o) → RunAt (He.ga K "Run") B H' x dx ra aa l g .non c (startS gs0) → Q .non H'
section
variable {P : Program} {w : World} {K : PySem.W.Frag} {mg : Str → Option Value} {base : Heap}
theorem sc_init : FnScope ["self", "rules", "goals", "bound", "most", "goal"] ["self", "rules", "goals", "bound", "most"] d_Run_init.scope := ⟨rfl, rfl, rfl, by decide +kernel, rfl, by decide +kernel, by decide +kernel⟩
theorem ok_init (T : T35 K mg) (R6 : R36 K mg) : Mtd P w K mg base 2 "__init__" ["self", "rules", "goals", "bound", "most"] (spInit K) := by
  have cU := (ok_unknowns (P := P) (w := w) (base := base) T).cl
  refine mtd_of (d := d_Run_init) T 20 rfl rfl rfl rfl sc_init (fun vs H Q E h => ?_) (fun _ _ _ _ _ _ us hl => match us, hl with | [_, _, _, _, _], _ => rfl) (fun cdv A outer s0 H vs Q E hr h => ?_)
  · obtain ⟨x, dx, ra, ga, c, gs0, rv, gv, rfl, _⟩ := h
    rfl
  · obtain ⟨x, dx, ra, ga, c, gs0, rv, gv, rfl, hx, hra, hrv, hga, hgv, hz, hgl, hask, k⟩ := h
    refine ⟨_, (pss_cons (ps_fld (pv 0) (pv 1) rfl) (pss_cons (ps_fld (pv 0) (pe_cl cU hr (by omega) rfl (pa_cons (pv 2) pa_nil)) rfl) (pss_cons (ps_fld (pv 0) (pv 3) rfl) (pss_cons (ps_fld (pv 0) (pv 4) rfl) (pss_cons (ps_fld (pv 0) (pe_lst pa_nil) rfl) (pss_cons (ps_fld (pv 0) pe_int rfl) (pss_cons (ps_fld (pv 0) pe_non rfl) (pss_one (ps_fld (pv 0) (pe_lst (pa_cons (pe_tup (pa_cons (pe_lc (own := [("goal", 5)]) (g := gName 5) (tt := tYes) rfl sc_init.nd (pi_list (pv 2)) (blkOk_by (N := ["self", "rules", "goals", "bound", "most", "goal"]) (sc := d_Run_init.scope) (by decide +kernel)) (fun _ _ _ _ _ => (pg_name (i := 5) sc_init.nd rfl (Or.inl rfl))) (fun _ _ _ _ _ => pts_nil) (fun s2 H2 C2 cl2 fp2 => (pe_tup (pa_cons (pv 5) (pa_cons pe_int pa_nil))))) (pa_cons pe_dnewK (pa_cons (pe_lst pa_nil) pa_nil)))) pa_nil)) rfl))))))))), ?_⟩
    have nra : ra ≠ x := fun z => by rw [z, hx] at hra; cases hra
    have nga : ga ≠ x := fun z => by rw [z, hx] at hga; cases hga
    have noT : ∀ U : Hp, ∀ fs : List (Str × V), U x = some (.ins (He.ga K "Run") dx fs) → ∀ a ∈ [x], ∀ xs, U a ≠ some (.tup xs) := fun U fs h a ha xs => by
      rw [List.mem_singleton.mp ha, h]
      exact fun z => nomatch z
    have hra0 := er_at (S := [x]) (by simpa using nra) hra
    have hga0 := er_at (S := [x]) (by simpa using nga) hga
    have hrv0 : Rp RepR (er H [x]) c.rules rv := hrv.ex fun _ _ z => z.exT (tupex_er (noT H _ hx))
    have hgv0 : RepL (er H [x]) gs0 gv := hgv.ex (tupex_er (noT H _ hx))
    -- rules, asked
    refine ⟨.ref ra, rfl, .ref x, rfl, x, _, dx, _, rfl, hx, R6.cls, R6.noat "rules" (by simp), len_lt 0 rfl, ?_⟩
    have e1 : er (upd H x (.ins (He.ga K "Run") dx (putF ("rules" : Str) (.ref ra) []))) [x] = er H [x] := er_upd (by simp)
    generalize hU1 : upd H x (.ins (He.ga K "Run") dx (putF ("rules" : Str) (.ref ra) [])) = U1 at e1 ⊢
    have x1 : U1 x = some (.ins (He.ga K "Run") dx (putF ("rules" : Str) (.ref ra) [])) := by rw [← hU1]; exact upd_same
    rw [← e1] at hra0 hga0 hrv0 hgv0
    refine x_fld (x_cl (sp := spUnknowns) (ra_cons (rd_var rfl) ra_nil) ⟨ga, gs0, gv, rfl, (er_of hga0).2, hgv0.ex (.of er_same), hz, fun aa U2 hS2 hn2 haa => ?_⟩)
    have x2 := hS2 _ _ x1
    have naa : aa ≠ x := fun z => by rw [z, x1] at hn2; cases hn2
    have m2 := er_mono (S := [x]) hS2
    have hra2 := m2 _ _ hra0
    have hga2 := m2 _ _ hga0
    have hrv2 : Rp RepR (er U2 [x]) c.rules rv := hrv0.ex fun _ _ z => z.ex m2
    have hgv2 := hgv0.ex (.of m2)
    have haa2 := er_at (S := [x]) (by simpa using naa) haa
    have hbase' : ∀ a o, a ≠ x → H a = some o → er U2 [x] a = some o := fun a o n h => m2 _ _ (by
      rw [e1]
      exact er_at (by simpa using n) h)
    refine ⟨.ref x, rfl, x, _, dx, _, rfl, x2, R6.cls, R6.noat "asked" (by simp), len_lt 1 rfl, ?_⟩
    refine ⟨.int (c.bound : Int), rfl, .ref x, rfl, x, _, dx, _, rfl, upd_same, R6.cls, R6.noat "bound" (by simp), len_lt 2 rfl, ?_⟩
    refine ⟨.int (c.most : Int), rfl, .ref x, rfl, x, _, dx, _, rfl, upd_same, R6.cls, R6.noat "most" (by simp), len_lt 3 rfl, ?_⟩
    generalize hB : er U2 [x] = B at *
    refine ⟨sz (by simp), fun g hg => ⟨.ref x, rfl, x, _, dx, _, rfl, same_new hg _ _ upd_same, R6.cls, R6.noat "given" (by simp), len_lt 4 rfl, ?_⟩⟩
    refine ⟨.ref x, rfl, x, _, dx, _, rfl, upd_same, R6.cls, R6.noat "taken" (by simp), len_lt 5 rfl, ?_⟩
    refine ⟨.ref x, rfl, x, _, dx, _, rfl, upd_same, R6.cls, R6.noat "end" (by simp), len_lt 6 rfl, ?_⟩
    have fs7 : putF ("end" : Str) V.non (putF ("taken" : Str) (V.int 0) (putF ("given" : Str) (V.ref g) (putF ("most" : Str) (V.int (c.most : Int)) (putF ("bound" : Str) (V.int (c.bound : Int)) (putF ("asked" : Str) (V.ref aa) (putF ("rules" : Str) (V.ref ra) [])))))) = flds7 ra aa (c.bound : Int) (c.most : Int) g := rfl
    have f4 : ∃ U4, U4 = upd (upd (upd (upd (upd (upd (upd U2 x (.ins (He.ga K "Run") dx (putF ("asked" : Str) (V.ref aa) (putF ("rules" : Str) (V.ref ra) [])))) x (.ins (He.ga K "Run") dx (putF ("bound" : Str) (V.int (c.bound : Int)) (putF ("asked" : Str) (V.ref aa) (putF ("rules" : Str) (V.ref ra) []))))) x (.ins (He.ga K "Run") dx (putF ("most" : Str) (V.int (c.most : Int)) (putF ("bound" : Str) (V.int (c.bound : Int)) (putF ("asked" : Str) (V.ref aa) (putF ("rules" : Str) (V.ref ra) [])))))) g (.lst [])) x (.ins (He.ga K "Run") dx (putF ("given" : Str) (V.ref g) (putF ("most" : Str) (V.int (c.most : Int)) (putF ("bound" : Str) (V.int (c.bound : Int)) (putF ("asked" : Str) (V.ref aa) (putF ("rules" : Str) (V.ref ra) []))))))) x (.ins (He.ga K "Run") dx (putF ("taken" : Str) (V.int 0) (putF ("given" : Str) (V.ref g) (putF ("most" : Str) (V.int (c.most : Int)) (putF ("bound" : Str) (V.int (c.bound : Int)) (putF ("asked" : Str) (V.ref aa) (putF ("rules" : Str) (V.ref ra) [])))))))) x (.ins (He.ga K "Run") dx (putF ("end" : Str) V.non (putF ("taken" : Str) (V.int 0) (putF ("given" : Str) (V.ref g) (putF ("most" : Str) (V.int (c.most : Int)) (putF ("bound" : Str) (V.int (c.bound : Int)) (putF ("asked" : Str) (V.ref aa) (putF ("rules" : Str) (V.ref ra) [])))))))) := ⟨_, rfl⟩
    have gx : g ≠ x := fun z => by
      rw [z, upd_same] at hg
      cases hg
    rw [upd_ne gx, upd_ne gx, upd_ne gx] at hg
    obtain ⟨U4, eU4⟩ := f4
    rw [← eU4]
    have x4 : U4 x = some (.ins (He.ga K "Run") dx (flds7 ra aa (c.bound : Int) (c.most : Int) g)) := by
      rw [eU4, ← fs7]
      exact upd_same
    have g4 : U4 g = some (.lst []) := by
      rw [eU4, upd_ne gx, upd_ne gx, upd_ne gx]
      exact upd_same
    have a4 : ∀ a o, a ≠ x → U2 a = some o → a ≠ g ∧ U4 a = some o := fun a o n h => by
      have ng : a ≠ g := fun z => by rw [z, hg] at h; cases h
      refine ⟨ng, ?_⟩
      rw [eU4, upd_ne n, upd_ne n, upd_ne n, upd_ne ng, upd_ne n, upd_ne n, upd_ne n]
      exact h
    have hB4 : ∀ a o, B a = some o → a ≠ x ∧ a ≠ g ∧ U4 a = some o := fun a o h => by
      rw [← hB] at h
      obtain ⟨n, h⟩ := er_of h
      have n : a ≠ x := by simpa using n
      exact ⟨n, a4 a o n h⟩
    clear eU4
    have ga4 := (hB4 _ _ hga2).2.2
    have tB : TupEx B U4 := fun a xs h => (hB4 _ _ h).2.2
    have gv4 := hgv2.ex tB
    have gvl := gv4.length
    refine ⟨.ref ga, rfl, ga, rfl, ⟨_, SqL.of ga4⟩, fun D hD => ?_⟩
    refine lc_list (xs := gv) (fun j U => Same U4 U ∧ ∃ acc, U D = some (.lst acc) ∧ Rp RepG U ((gs0.take j).map fun t => (some t, 0)) acc) ⟨same_new hD, [], upd_same, Rp.nil⟩ (fun j U _ q => SqL.of (q.1 _ _ ga4)) (fun j y U hy q => ?_) (fun U q => ?_)
    · obtain ⟨hS, acc, hacc, hR⟩ := q
      obtain ⟨t, hti, hrt⟩ := gv4.got hy
      have hrl := hR.1
      rw [List.length_map, List.length_take] at hrl
      refine ⟨rfl, x_yes (x_tup (ra_cons (rd_var rfl) (ra_cons rd_c ra_nil)) (sz (by simp)) fun q hq => ?_)⟩
      have s1 := same_new (o := HO.tup [y, .int 0]) hq
      have tx := tupex_ls (o := .lst (acc ++ [.ref q])) (s1 _ _ hacc)
      refine ⟨acc, s1 _ _ hacc, szl (by omega), same_mut (hS.trans s1) hD, _, upd_same, ?_⟩
      rw [take_snoc hti, List.map_append]
      exact (hR.ex fun _ _ z => z.exT ((TupEx.of s1).trans tx)).snoc ⟨q, y, rfl, tx _ _ upd_same, (hrt.ex (.of (hS.trans s1))).ex tx⟩
    · obtain ⟨hS, acc, hacc, hR⟩ := q
      rw [gvl, List.take_length] at hR
      refine fun d hd => ⟨sz (by simp), fun w2 hw2 => ⟨sz (by simp), fun t ht => ⟨sz (by simp), fun l hl => ?_⟩⟩⟩
      have s1 := same_new (o := HO.dK []) hd
      have s2 := same_new (o := HO.lst []) hw2
      have s3 := same_new (o := HO.tup [.ref D, .ref d, .ref w2]) ht
      have s4 := same_new (o := HO.lst [.ref t]) hl
      have s14 := ((s1.trans s2).trans s3).trans s4
      have S8 := hS.trans ((s1.trans s2).trans s3)
      have S9 := hS.trans s14
      have x9 := S9 _ _ x4
      refine ⟨.ref x, rfl, x, _, dx, _, rfl, x9, R6.cls, R6.noat "left" (by simp), len_lt 7 rfl, ?_⟩
      have nlx : l ≠ x := fun z => by rw [z, S8 _ _ x4] at hl; cases hl
      have nlg : l ≠ g := fun z => by rw [z, S8 _ _ g4] at hl; cases hl
      have out : ∀ {q : Addr} {U' : Hp}, Same U4 U' → U' q = none → q ≠ x ∧ q ≠ g := fun {q U'} hs hn => ⟨(fun z => by rw [z, hs _ _ x4] at hn; exact nomatch hn), (fun z => by rw [z, hs _ _ g4] at hn; exact nomatch hn)⟩
      have e9 : ∀ fs, er (upd (upd (upd (upd (upd U d (.dK [])) w2 (.lst [])) t (.tup [.ref D, .ref d, .ref w2])) l (.lst [.ref t])) x (.ins (He.ga K "Run") dx fs)) [x, l, g] = er (upd (upd (upd (upd U d (.dK [])) w2 (.lst [])) t (.tup [.ref D, .ref d, .ref w2])) l (.lst [.ref t])) [x, l, g] := fun fs => er_upd (by simp)
      have U8l : ∀ a o, (upd (upd (upd U d (.dK [])) w2 (.lst [])) t (.tup [.ref D, .ref d, .ref w2])) a = some o → a ≠ l := fun a o h z => by rw [z, hl] at h; cases h
      have at9 : ∀ a o, a ≠ x → a ≠ g → (upd (upd (upd U d (.dK [])) w2 (.lst [])) t (.tup [.ref D, .ref d, .ref w2])) a = some o → er (upd (upd (upd (upd U d (.dK [])) w2 (.lst [])) t (.tup [.ref D, .ref d, .ref w2])) l (.lst [.ref t])) [x, l, g] a = some o := fun a o n1 n2 h => er_at (by simp [n1, n2, U8l a o h]) (s4 _ _ h)
      have o1 := out hS hd
      have o2 := out (hS.trans s1) hw2
      have o3 := out (hS.trans (s1.trans s2)) ht
      have o4 := out (Same.refl _) hD
      have noT9 : ∀ a ∈ [x, l, g], ∀ xs, (upd (upd (upd (upd U d (.dK [])) w2 (.lst [])) t (.tup [.ref D, .ref d, .ref w2])) l (.lst [.ref t])) a ≠ some (.tup xs) := fun a ha xs => by
        simp only [List.mem_cons, List.not_mem_nil, or_false] at ha
        rcases ha with rfl | rfl | rfl
        · rw [x9]; exact fun z => nomatch z
        · rw [upd_same]; exact fun z => nomatch z
        · rw [S9 _ _ g4]; exact fun z => nomatch z
      refine k B _ aa l g hbase' ⟨upd_same, rfl, ⟨[.ref t], by rw [upd_ne nlx]; exact upd_same, ?_⟩, ⟨[], by rw [upd_ne gx]; exact S9 _ _ g4, Rp.nil⟩, nlg, fun a o h => ?_, ⟨rv, hra2, hrv2⟩, ?_⟩
      · rw [e9]
        refine Rp.one ⟨t, D, d, w2, acc, rfl, at9 _ _ o3.1 o3.2 upd_same, at9 _ _ o4.1 o4.2 ((s1.trans s2).trans s3 _ _ hacc), hR.ex fun _ _ z => (z.exT (TupEx.of s14)).exT (tupex_er noT9), ⟨[], at9 _ _ o1.1 o1.2 ((s2.trans s3) _ _ upd_same), rfl⟩, at9 _ _ o2.1 o2.2 (s3 _ _ upd_same)⟩
      · rw [e9]
        obtain ⟨n1, n2, h4⟩ := hB4 a o h
        exact at9 _ _ n1 n2 (S8 _ _ h4)
      · rw [hask]
        exact haa2
end
end G35

/-! GRun11 -/
set_option Elab.async false
set_option linter.all false
set_option maxRecDepth 100000
set_option maxHeartbeats 4000000
namespace G35
open PySem PySem.Spec PyProof.Rows L2
/-! ### search -/
theorem pe_mk {X : Cx} {k j : Nat} {ps : List Str} {sp : Sp} {p pos : Pos} {e : Expr} {es : List Expr} {t : TA} (c : Mtd X.prog X.w X.K X.mg X.base k "__init__" ps sp) (hr : Room j X.A) (hk : k + 1 ≤ j) (R6 : R36 X.K X.mg) (hg : Gl X "Run") (ha : PA X (e :: es) t)
    (he : starEach (e :: es) X.env = (false, eval e X.env) :: starEach es X.env := by rfl) (hpl : (backTo pos (starEach es X.env)).any (·.1) = false := by rfl) :
    PE X (.Call (.Name "Run" p) (e :: es) [] pos) (tMake (He.ga X.K "Run") sp [] E0 t) := by
  obtain ⟨fd, F, b⟩ := c.ex
  exact pe_make R6.made F (hr.mono hk) hg R6.mgR b .nil pass0 ha (by decide) he hpl
/-- what search found, as it stands at t -/
def RepF (H : Hp) (s : SSt) (t : Addr) : Prop := ∃ (g : Addr) (ev : V) (gv : List V), H t = some (.tup [.ref g, ev, .int (s.taken : Int)]) ∧ H g = some (.lst gv) ∧ Rp RepA H s.given gv ∧ EndV H s.fin ev
def spSearch : Sp := fun vs H Q _ => ∃ (ra ga : Addr) (c : Cfg) (gs0 : List PT) (rv gv : List V) (n : Nat) (s' : SSt), vs = [.ref ra, .ref ga, .int (c.bound : Int), .int (c.most : Int)] ∧ H ra = some (.lst rv) ∧ Rp RepR H c.rules rv ∧ H ga = some (.lst gv) ∧ RepL H gs0 gv ∧ sizes gs0 ≤ 100000 ∧ gs0.length ≤ 1000 ∧ c.asked = firsts (varsT gs0) ∧ c.asked.length ≤ 1000 ∧ RG c ∧
  runF c n (startS gs0) = some s' ∧ s'.fin ≠ none ∧ ∀ t H', Same H H' → RepF H' s' t → Q (.ref t) H'
theorem endV_none {H : Hp} {f : Option Fin} {v : V} (h : EndV H f v) : decide (v = .non) = decide (f = none) := by
  match f, h with
  | none, h =>
    have h : v = .non := h
    rw [h]
    rfl
  | some .all, ⟨t, h, _⟩ => rw [h]; rfl
  | some .spent, ⟨t, h, _⟩ => rw [h]; rfl
  | some .big, ⟨t, h, _⟩ => rw [h]; rfl
  | some .enough, ⟨t, h, _⟩ => rw [h]; rfl
  | some (.fault _ _), ⟨t, _, h, _⟩ => rw [h]; rfl
section
variable {P : Program} {w : World} {K : PySem.W.Frag} {mg : Str → Option Value} {base : Heap}
theorem sc_search : FnScope ["rules", "goals", "bound", "most", "run"] ["rules", "goals", "bound", "most"] d_search.scope := ⟨rfl, rfl, rfl, by decide +kernel, rfl, by decide +kernel, by decide +kernel⟩
theorem ok_search (T : T36 K mg) (E6 : E36 K mg) (R6 : R36 K mg) : Cl P w K mg base CX0 53 "search" ["rules", "goals", "bound", "most"] spSearch := by
  have cI := ok_init (P := P) (w := w) (base := base) T.t R6
  have cS := ok_step (P := P) (w := w) (base := base) T E6 R6
  obtain ⟨⟨fd, F⟩, g0⟩ := T.t.def_ 28 d_search rfl
  have e1 : d_search.dvs K = [V.int 200, V.int 10] := rfl
  rw [e1] at F
  have b := FunD.binds1 (ps := ["rules", "goals", "bound", "most"]) F 4 2 (by simp) rfl (fun T' kV doc pm an cdv ct us its h1 h2 => ?_)
  · obtain ⟨ds, v, b⟩ := b
    have hds : ds = [] := by
      cases v
      rfl
    subst hds
    refine ⟨⟨fd, F.ok sc_search (fun vs H Q E h => ?_) fun cdv A outer s0 H vs Q E hr h => ?_, b⟩, g0 rfl, F.kp⟩
    · obtain ⟨ra, ga, c, gs0, rv, gv, n, s', rfl, _⟩ := h
      rfl
    · obtain ⟨ra, ga, c, gs0, rv, gv, n, s', rfl, hra, hrv, hga, hgv, hz, hgl, hask, hal, hrg, hrun, hfin, k⟩ := h
      refine ⟨_, PSs.nox (pss_cons (ps_set (i := 4) sc_search.nd rfl (Or.inl rfl) (pe_mk cI hr (by omega) R6 rfl (pa_cons (pv 0) (pa_cons (pv 1) (pa_cons (pv 2) (pa_cons (pv 3) pa_nil)))))) (pss_cons (ps_while PassesOwn.never (pt_cmpR op_isN (pe_fld (pv 4) rfl) pe_non (nomark _)) (pss_one (ps_expr (pe_mtd0 R6 cS (by decide +kernel) hr (by omega) (pv 4))))) (pss_one (ps_ret (pe_tup (pa_cons (pe_fld (pv 4) rfl) (pa_cons (pe_fld (pv 4) rfl) (pa_cons (pe_fld (pv 4) rfl) pa_nil)))))))), ?_⟩
      refine ⟨_, rfl, _, rfl, _, rfl, _, rfl, fun x dx hx hdx hne => ?_⟩
      have s1 : Same H (upd (upd H dx (.own x)) x (.ins (He.ga K "Run") dx [])) := fun a o h => by
        rw [upd_ne (ne_of_none h hx), upd_ne (ne_of_none h hdx)]
        exact h
      refine ⟨x, dx, ra, ga, c, gs0, rv, gv, rfl, upd_same, s1 _ _ hra, hrv.ex fun _ _ z => z.ex s1, s1 _ _ hga, hgv.ex (.of s1), hz, hgl, hask, fun B U aa l g hB R => ⟨rfl, ?_⟩⟩
      have hHB : Same H B := fun a o h => hB a o (ne_of_none h hx) (s1 a o h)
      refine s_while (fun m τ U => ∃ l ev s, τ = [some (.ref ra), some (.ref ga), some (.int (c.bound : Int)), some (.int (c.most : Int)), some (.ref x)] ∧ RunAt (He.ga K "Run") B U x dx ra aa l g ev c s ∧ runF c m s = some s') n ⟨l, .non, _, rfl, R, hrun⟩ (fun m τ U h => ?_)
      obtain ⟨l, ev, s, rfl, R, hr2⟩ := h
      cases m with
      | zero => unfold runF at hr2; cases hr2
      | succ m =>
        unfold runF at hr2
        by_cases hsg : SG s
        · rw [if_pos hsg] at hr2
          refine ⟨decide (s.fin = none), ?_, fun hb => ?_, fun hb => ?_⟩
          · rw [← endV_none R.fin]
            exact rdT_test (rd_op (rd_fld R6 (by simp) (rd_var rfl) R.ins fl_end) rd_c fun Q q => ⟨rfl, q⟩)
          · have hf := of_decide_eq_true hb
            rw [hf] at hr2
            simp only at hr2
            cases hst : stepF c s with
            | none => rw [hst] at hr2; cases hr2
            | some s2 =>
              rw [hst] at hr2
              refine x_mtd (rd_var rfl) R.ins (fl_meth (by simp)) ra_nil ?_
              exact ⟨B, x, dx, ra, aa, l, g, ev, c, s, s2, rfl, R, hrg, hsg, hf, hal, hst, fun U2 l2 ev2 R2 => ⟨m, Nat.lt_succ_self m, l2, ev2, s2, rfl, R2, hr2⟩⟩
          · have hf := of_decide_eq_false hb
            have hs : s = s' := by
              cases hff : s.fin with
              | none => exact absurd hff hf
              | some f =>
                rw [hff] at hr2
                exact Option.some.inj hr2
            subst hs
            refine x_tup (ra_cons (rd_fld R6 (by simp) (rd_var rfl) R.ins fl_given) (ra_cons (rd_fld R6 (by simp) (rd_var rfl) R.ins fl_end) (ra_cons (rd_fld R6 (by simp) (rd_var rfl) R.ins fl_taken) ra_nil))) (sz (by simp)) fun t ht => ?_
            have st := same_new (o := HO.tup [.ref g, ev, .int (s.taken : Int)]) ht
            obtain ⟨gv2, hg, hG⟩ := R.given
            refine k t _ ((hHB.trans R.sub).trans st) ⟨g, ev, gv2, upd_same, st _ _ hg, hG.ex fun _ _ z => (z.ex er_same).ex st, (R.fin.ex er_same).ex st⟩
        · rw [if_neg hsg] at hr2
          cases hr2
  · match us, h1, its, h2 with
    | [_, _, _, _], _, [_, _], _ => exact ⟨_, rfl, rfl⟩
end
end G35

/-! GLaw1 -/
set_option Elab.async false
set_option linter.all false
set_option maxRecDepth 100000
set_option maxHeartbeats 4000000
namespace G35
open PySem PySem.Spec PyProof.Rows L2
/-! ### the law's cells -/
theorem sqL_sm {K : PySem.W.Frag} {H H' : Hp} {a : Addr} {xs : List V} (h : SqL K H a xs) (e : Same H H') : SqL K H' a xs := by
  rcases h with (h | ⟨o, h⟩) | h
  · exact .inl (.inl (e _ _ h))
  · exact .inl (.inr ⟨o, e _ _ h⟩)
  · exact .inr h
theorem sqT_sm {K : PySem.W.Frag} {H H' : Hp} {a : Addr} {xs : List V} (h : SqT K H a xs) (e : Same H H') : SqT K H' a xs := by
  rcases h with (h | ⟨o, h⟩) | h
  · exact .inl (.inl (e _ _ h))
  · exact .inl (.inr ⟨o, e _ _ h⟩)
  · exact .inr h
section
variable {K : PySem.W.Frag} {σ : L2.St} {H : Hp} {ta tb : TE} {p : Addr} {xs : List V} {v : V}
theorem rd_ixS {n : Nat} (ha : Rds ta σ H (.ref p)) (hb : Rds tb σ H (.int (n : Int))) (h : SqL K H p xs) (e : xs[n]? = some v) : Rds (tOp (rIxL K) ta tb) σ H v :=
  rd_op ha hb fun _ q => ⟨p, xs, (n : Int), v, rfl, rfl, h, atI_nat e, q⟩
theorem rd_lenS (ha : Rds ta σ H (.ref p)) (h : SqL K H p xs) : Rds (tCB (fun xs H Q => ∃ p ys, xs = [.ref p] ∧ (SqL K H p ys ∨ SqT K H p ys) ∧ Q (.int ys.length) H) (tCons ta tNil)) σ H (.int (xs.length : Int)) := fun Q q =>
  ha _ ⟨p, xs, rfl, .inl h, q⟩
theorem rd_I {C : Int → Int → Prop} {g : Int → Int → V} {a b : Int} (ha : Rds ta σ H (.int a)) (hb : Rds tb σ H (.int b)) (hc : C a b) : Rds (tOp (rI C g) ta tb) σ H (g a b) := rd_op ha hb fun _ q => ⟨a, b, rfl, rfl, hc, q⟩
end
theorem mod_nat (i : Int) {m : Nat} (h : 0 < m) : ∃ r : Nat, r < m ∧ i % (m : Int) = (r : Int) := by
  have h1 : 0 ≤ i % (m : Int) := Int.emod_nonneg i (by omega)
  have h2 : i % (m : Int) < (m : Int) := Int.emod_lt_of_pos i (by omega)
  exact ⟨(i % (m : Int)).toNat, by omega, by omega⟩
def spCellAt (K : PySem.W.Frag) : Sp := fun vs H Q _ => ∃ (l : Addr) (ns : List Int) (k : Nat), vs = [.ref l, .int (k : Int)] ∧ SqL K H l (ns.map V.int) ∧ k ≤ 1000 ∧ ∀ i H', Same H H' → Q (.int i) H'
def spPick : Sp := fun vs H Q _ => ∃ (c : Int) (k m : Nat), vs = [.int c, .int (k : Int), .int (m : Int)] ∧ k ≤ 1000 ∧ 0 < m ∧ ∀ r : Nat, r < m → Q (.int (r : Int)) H
section
variable {P : Program} {w : World} {K : PySem.W.Frag} {mg : Str → Option Value} {base : Heap}
theorem sc_pick : FnScope ["_law_cell", "_law_k", "_law_many"] ["_law_cell", "_law_k", "_law_many"] d_law_pick.scope := ⟨rfl, rfl, rfl, by decide +kernel, rfl, by decide +kernel, by decide +kernel⟩
theorem sc_cell : FnScope ["_law_script", "_law_k", "_law_cell", "_law_number", "_law_mixed", "_law_turn"] ["_law_script", "_law_k"] d_law_cell_at.scope := ⟨rfl, rfl, rfl, by decide +kernel, rfl, by decide +kernel, by decide +kernel⟩
theorem ok_pick (T : T35 K mg) : Cl P w K mg base CX0 1 "_law_pick" ["_law_cell", "_law_k", "_law_many"] spPick := by
  refine cl_of (d := d_law_pick) T 30 rfl rfl rfl rfl sc_pick (fun vs H Q E h => ?_) (fun _ _ _ _ _ _ us hl => match us, hl with | [_, _, _], _ => rfl) (fun cdv A outer s0 H vs Q E hr h => ?_)
  · obtain ⟨c, k, m, rfl, _⟩ := h
    rfl
  · obtain ⟨c, k, m, rfl, hk, hm, q⟩ := h
    refine ⟨_, (pss_one (ps_ret (pe_op op_mod (pe_op op_shr (pv 0) (pe_op op_mul pe_int (pv 1))) (pv 2)))), ?_⟩
    refine s_ret (v := .int ((c / 2 ^ (6 * (k : Int)).toNat) % (m : Int))) (rd_I (g := fun i j => .int (i % j)) (rd_I (g := fun i j => .int (i / 2 ^ j.toNat)) (rd_var rfl) (rd_I (g := fun i j => .int (i * j)) rd_c (rd_var rfl) (.inl ⟨by omega, by omega⟩)) (by omega)) (rd_var rfl) (by omega)) ?_
    obtain ⟨r, h1, h2⟩ := mod_nat (c / 2 ^ (6 * (k : Int)).toNat) hm
    rw [h2]
    exact q _ h1
theorem ok_cell (T : T35 K mg) : Cl P w K mg base CX0 1 "_law_cell_at" ["_law_script", "_law_k"] (spCellAt K) := by
  refine cl_of (d := d_law_cell_at) T 29 rfl rfl rfl rfl sc_cell (fun vs H Q E h => ?_) (fun _ _ _ _ _ _ us hl => match us, hl with | [_, _], _ => rfl) (fun cdv A outer s0 H vs Q E hr h => ?_)
  · obtain ⟨l, ns, k, rfl, _⟩ := h
    rfl
  · obtain ⟨l, ns, k, rfl, hl, hk, q⟩ := h
    refine ⟨_, (pss_cons (ps_set (i := 2) sc_cell.nd rfl (Or.inl rfl) (pe_op op_add (pe_op op_mul pe_int (pv 1)) (pe_callB (cr_sum rfl) rfl (T.free 10 _ rfl) PyProof.Rows.boot_sum (pa_cons (pe_slice sl_list (pv 0) po_none (po_some pe_int)) pa_nil)))) (pss_cons (ps_if (pt_cmpR op_lt (pv 1) (pe_callB call_len_seq rfl (T.free 0 _ rfl) PySem.boot_len (pa_cons (pv 0) pa_nil)) (nomark _)) (pss_one (ps_set (i := 2) sc_cell.nd rfl (Or.inl rfl) (pe_ix ix_list (pv 0) (pv 1) (fun _ _ => rfl)))) pss_nil) (pss_cons (ps_if (PW.pt (pw_and (pt_cmpR op_gt (pe_callB call_len_seq rfl (T.free 0 _ rfl) PySem.boot_len (pa_cons (pv 0) pa_nil)) pe_int (nomark _)) (pw_and1 (pt_cmpR op_eq (pe_op op_mod (pe_ix ix_list (pv 0) pe_int (fun _ _ => rfl)) pe_int) pe_int (nomark _))))) (pss_one (ps_ret (pv 2))) pss_nil) (pss_cons (ps_set (i := 3) sc_cell.nd rfl (Or.inl rfl) (pe_op op_mod (pe_op op_add (pe_op op_add (pe_op op_mul (pe_op op_mod (pv 2) pe_int) pe_int) (pe_op op_mul pe_int (pv 1))) pe_int) pe_int)) (pss_cons (ps_set (i := 4) sc_cell.nd rfl (Or.inl rfl) pe_int) (pss_cons (ps_for PassesOwn.never rfl (pi_range1 rfl (T.free 11 _ rfl) (pa_cons pe_int pa_nil)) (pg_name (i := 5) sc_cell.nd rfl (Or.inl rfl)) (pss_cons (ps_set (i := 3) sc_cell.nd rfl (Or.inl rfl) (pe_op op_mod (pe_op op_add (pe_op op_add (pe_op op_mul (pv 3) pe_int) pe_int) (pv 5)) pe_int)) (pss_one (ps_set (i := 4) sc_cell.nd rfl (Or.inl rfl) (pe_op op_add (pe_op op_mul (pv 4) pe_int) (pe_op op_mod (pe_op op_mod (pe_op op_mul (pv 3) (pv 3)) pe_int) pe_int)))))) (pss_one (ps_ret (pv 4))))))))), ?_⟩
    refine ⟨_, rfl, 31, (k : Int), rfl, rfl, .inl ⟨by omega, by omega⟩, _, rfl, 5, rfl, l, _, rfl, hl, fun r hr' => ?_⟩
    have s1 := same_new (o := HO.lst (cutV (ns.map V.int) none (some 5))) hr'
    have hl1 := sqL_sm hl s1
    have e5 : cutV (ns.map V.int) none (some 5) = (ns.take 5).map V.int := by
      rw [List.map_take]
      exact cutV_pre _ 5
    refine ⟨r, ns.take 5, rfl, SqL.of (by rw [upd_same, e5]), _, _, rfl, rfl, ?_⟩
    generalize hH1 : upd H r (.lst (cutV (ns.map V.int) none (some 5))) = H1 at s1 hl1 ⊢
    have hH : Same H H1 := s1
    have hv : (ns.map V.int).length = ns.length := List.length_map ..
    -- behind the second statement
    have rest : ∀ (c : Int) (Z : TS), (tSeq (tIfS (tAnd (tTest (tOp (rI0 fun i j => .bl (decide (j < i))) (tCB (fun xs H Q => ∃ p ys, xs = [V.ref p] ∧ (SqL K H p ys ∨ SqT K H p ys) ∧ Q (.int ys.length) H) (tCons (tVar 0) tNil)) (tC (.int 0)))) (tTest (tOp rEq (tOp (rI (fun _ j => 0 < j) fun i j => .int (i % j)) (tOp (rIxL K) (tVar 0) (tC (.int 0))) (tC (.int 2))) (tC (.int 1))))) (tRet (tVar 2)) tNext)
        (tSeq (tAsg (tOp (rI (fun _ j => 0 < j) fun i j => .int (i % j)) (tOp (rI0 fun i j => .int (i + j)) (tOp (rI0 fun i j => .int (i + j)) (tOp (rI CMul fun i j => .int (i * j)) (tOp (rI (fun _ j => 0 < j) fun i j => .int (i % j)) (tVar 2) (tC (.int 2147483647))) (tC (.int 48271))) (tOp (rI CMul fun i j => .int (i * j)) (tC (.int 7919)) (tVar 1))) (tC (.int 13))) (tC (.int 2147483629))) (gName 3))
          (tSeq (tAsg (tC (.int 0)) (gName 4)) (tSeq (tFor (iRng1 (tCons (tC (.int 20)) tNil)) (gName 5) (tSeq (tAsg (tOp (rI (fun _ j => 0 < j) fun i j => .int (i % j)) (tOp (rI0 fun i j => .int (i + j)) (tOp (rI0 fun i j => .int (i + j)) (tOp (rI CMul fun i j => .int (i * j)) (tVar 3) (tC (.int 69621))) (tC (.int 104729))) (tVar 5)) (tC (.int 2147483587))) (gName 3))
            (tAsg (tOp (rI0 fun i j => .int (i + j)) (tOp (rI CMul fun i j => .int (i * j)) (tVar 4) (tC (.int 1000003))) (tOp (rI (fun _ j => 0 < j) fun i j => .int (i % j)) (tOp (rI (fun _ j => 0 < j) fun i j => .int (i % j)) (tOp (rI CMul fun i j => .int (i * j)) (tVar 3) (tVar 3)) (tC (.int 2147483579))) (tC (.int 1000003)))) (gName 4)))) (tRet (tVar 4))))))
        { nx := fun _ H' => Q .non H', rt := Q } [some (.ref l), some (.int (k : Int)), some (.int c), none, none, none] H1 := by
      intro c _
      refine s_if (rdT_and (b := decide (V.int (ns.getD 0 0 % 2) = V.int 1)) (rdT_test (rd_I0 (g := fun i j => .bl (decide (j < i))) (rd_lenS (rd_var rfl) hl1) rd_c)) fun z => ?_) (fun _ => ?_) fun _ => ?_
      · have z := of_decide_eq_true z
        rw [hv] at z
        have h0 : 0 < ns.length := by omega
        have e0 : ns.getD 0 0 = ns[0] := by
          rw [List.getD_eq_getElem?_getD, List.getElem?_eq_getElem h0]
          rfl
        exact rdT_test (rd_eqI (rd_I (g := fun i j => .int (i % j)) (rd_ixS (n := 0) (rd_var rfl) rd_c hl1 (by rw [List.getElem?_map, List.getElem?_eq_getElem h0, e0]; rfl)) rd_c (by decide)) rd_c)
      · exact s_ret (v := .int c) (rd_var rfl) (q c H1 hH)
      · have hk1 : CMul 7919 (k : Int) := .inl ⟨by omega, by omega⟩
        refine s_set (v := .int (((c % 2147483647 * 48271 + 7919 * (k : Int)) + 13) % 2147483629)) (rd_I (g := fun i j => .int (i % j)) (rd_I0 (g := fun i j => .int (i + j)) (rd_I0 (g := fun i j => .int (i + j)) (rd_I (g := fun i j => .int (i * j)) (rd_I (g := fun i j => .int (i % j)) (rd_var rfl) rd_c (by decide)) rd_c (.inr ⟨by omega, by omega⟩)) (rd_I (g := fun i j => .int (i * j)) rd_c (rd_var rfl) hk1)) rd_c) rd_c (by decide)) ?_
        refine s_set rd_c ?_
        refine ⟨20, rfl, by omega, by omega, ?_⟩
        refine for_range (fun i τ U => ∃ n m x5, τ = [some (.ref l), some (.int (k : Int)), some (.int c), some (.int n), some (.int m), x5] ∧ (0 ≤ n ∧ n < 4294967296) ∧ U = H1) ⟨_, _, _, rfl, ⟨Int.emod_nonneg _ (by decide), ?_⟩, rfl⟩ (fun i τ U hi hJ => ?_) (fun τ U hJ => ?_)
        · exact Int.lt_trans (Int.emod_lt_of_pos _ (by decide)) (by decide)
        · obtain ⟨n, m, x5, rfl, ⟨hn1, hn2⟩, rfl⟩ := hJ
          refine s_set (v := .int ((n * 69621 + 104729 + (0 + (i : Int))) % 2147483587)) (rd_I (g := fun i j => .int (i % j)) (rd_I0 (g := fun i j => .int (i + j)) (rd_I0 (g := fun i j => .int (i + j)) (rd_I (g := fun i j => .int (i * j)) (rd_var rfl) rd_c (.inr ⟨by omega, by omega⟩)) rd_c) (rd_var rfl)) rd_c (by decide)) ?_
          have g1 : 0 ≤ (n * 69621 + 104729 + (0 + (i : Int))) % 2147483587 := Int.emod_nonneg _ (by decide)
          have g2 : (n * 69621 + 104729 + (0 + (i : Int))) % 2147483587 < 2147483587 := Int.emod_lt_of_pos _ (by decide)
          generalize (n * 69621 + 104729 + (0 + (i : Int))) % 2147483587 = n2 at g1 g2 ⊢
          refine s_set (v := .int (m * 1000003 + n2 * n2 % 2147483579 % 1000003)) (rd_I0 (g := fun i j => .int (i + j)) (rd_I (g := fun i j => .int (i * j)) (rd_var rfl) rd_c (.inr ⟨by omega, by omega⟩)) (rd_I (g := fun i j => .int (i % j)) (rd_I (g := fun i j => .int (i % j)) (rd_I (g := fun i j => .int (i * j)) (rd_var rfl) (rd_var rfl) (.inl ⟨by omega, by omega⟩)) rd_c (by decide)) rd_c (by decide))) ?_
          exact ⟨n2, _, _, rfl, ⟨g1, by omega⟩, rfl⟩
        · obtain ⟨n, m, x5, rfl, _, rfl⟩ := hJ
          exact s_ret (v := .int m) (rd_var rfl) (q m U hH)
    refine s_if (rdT_test (rd_I0 (g := fun i j => .bl (decide (i < j))) (rd_var rfl) (rd_lenS (rd_var rfl) hl1))) (fun z => ?_) fun _ => ?_
    · have z := of_decide_eq_true z
      rw [hv] at z
      have hk2 : k < ns.length := by omega
      refine s_set (rd_ixS (rd_var rfl) (rd_var rfl) hl1 (v := .int ns[k]) (by rw [List.getElem?_map, List.getElem?_eq_getElem hk2]; rfl)) ?_
      exact rest _ tNext
    · exact rest _ tNext
end
end G35

/-! GLaw2 -/
set_option Elab.async false
set_option linter.all false
set_option maxRecDepth 100000
set_option maxHeartbeats 4000000
namespace G35
open PySem PySem.Spec PyProof.Rows L2
/-! ### the law's words -/
def wc (c : Nat) : Prop := (97 ≤ c ∧ c ≤ 122) ∨ c = 51
structure WOk (w : Str) : Prop where
  chars : ∀ c ∈ w.cps.toList, wc c
  len : w.length ≤ 20
  keep : w ≠ wKeep
  not_ : w ≠ wNot
def abc : Str := "abcdefghijklmnopqrstuvwxyz"
theorem abc_at : ∀ r : _root_.Fin 26, abc.cps.toList[r.val]? = some (97 + r.val) := by decide +kernel
theorem len_app (x y : Str) : (x ++ y).length = x.length + y.length := by
  show (x.cps ++ y.cps).size = x.cps.size + y.cps.size
  exact Array.size_append
theorem wOk_three {w : Str} (h : ∀ c ∈ w.cps.toList, wc c) (hl : w.length ≤ 10) : WOk (w ++ Str.ofString "3") := by
  have e3 : (Str.ofString "3").cps.toList = [51] := by decide +kernel
  have h51 : 51 ∈ (w ++ Str.ofString "3").cps.toList := by
    rw [cps_app, e3]
    simp
  have k1 : 51 ∉ wKeep.cps.toList := by decide +kernel
  have k2 : 51 ∉ wNot.cps.toList := by decide +kernel
  refine ⟨fun c hc => ?_, ?_, fun z => k1 (by rw [← z]; exact h51), fun z => k2 (by rw [← z]; exact h51)⟩
  · rw [cps_app, e3] at hc
    rcases List.mem_append.mp hc with q | q
    · exact h c q
    · exact .inr (List.mem_singleton.mp q)
  · rw [len_app]
    have : (Str.ofString "3").length = 1 := by decide +kernel
    omega
def spWords : Sp := fun vs H Q _ => ∃ (c : Int), vs = [.int c] ∧ ∀ (q : Addr) (ws : List Str) (H' : Hp), Same H H' → H' q = some (.lst (ws.map V.str)) → ws.length = 5 → (∀ w ∈ ws, WOk w) → Q (.ref q) H'
section
variable {P : Program} {w : World} {K : PySem.W.Frag} {mg : Str → Option Value} {base : Heap}
theorem sc_words : FnScope ["_law_cell", "_law_letters", "_law_base", "_law_at", "_law_words_here", "_law_k", "_law_word", "_law_j"] ["_law_cell"] d_law_words.scope := ⟨rfl, rfl, rfl, by decide +kernel, rfl, by decide +kernel, by decide +kernel⟩
theorem ok_words (T : T35 K mg) : Cl P w K mg base CX0 2 "_law_words" ["_law_cell"] spWords := by
  have cP := ok_pick (P := P) (w := w) (base := base) T
  refine cl_of (d := d_law_words) T 31 rfl rfl rfl rfl sc_words (fun vs H Q E h => ?_) (fun _ _ _ _ _ _ us hl => match us, hl with | [_], _ => rfl) (fun cdv A outer s0 H vs Q E hr h => ?_)
  · obtain ⟨c, rfl, _⟩ := h
    rfl
  · obtain ⟨c, rfl, k⟩ := h
    refine ⟨_, (pss_cons (ps_set (i := 1) sc_words.nd rfl (Or.inl rfl) pe_str) (pss_cons (ps_setLc (i := 2) (own := [("_law_k", 5)]) (g := gName 5) (tt := tYes) rfl sc_words.nd rfl rfl (sw_true rfl rfl rfl (by decide +kernel)) (pi_range1 rfl (T.free 11 _ rfl) (pa_cons (pe_op op_add pe_int (pe_cl cP hr (by omega) rfl (pa_cons (pv 0) (pa_cons pe_int (pa_cons pe_int pa_nil))))) pa_nil)) (blkOk_by (N := ["_law_cell", "_law_letters", "_law_base", "_law_at", "_law_words_here", "_law_k", "_law_word", "_law_j"]) (sc := d_law_words.scope) (by decide +kernel)) (fun _ _ _ _ _ => (pg_name (i := 5) sc_words.nd rfl (Or.inl rfl))) (fun _ _ _ _ _ => pts_nil) (fun s2 H2 C2 cl2 fp2 => (pe_cl cP hr (by omega) rfl (pa_cons (pv 0) (pa_cons (pv 5) (pa_cons pe_int pa_nil)))))) (pss_cons (ps_set (i := 3) sc_words.nd rfl (Or.inl rfl) (pe_cl cP hr (by omega) rfl (pa_cons (pv 0) (pa_cons pe_int (pa_cons (pe_callB call_len_seq rfl (T.free 0 _ rfl) PySem.boot_len (pa_cons (pv 2) pa_nil)) pa_nil))))) (pss_cons (ps_set (i := 4) sc_words.nd rfl (Or.inl rfl) (pe_lst pa_nil)) (pss_cons (ps_for PassesOwn.never rfl (pi_range1 rfl (T.free 11 _ rfl) (pa_cons pe_int pa_nil)) (pg_name (i := 5) sc_words.nd rfl (Or.inl rfl)) (pss_cons (ps_set (i := 6) sc_words.nd rfl (Or.inl rfl) pe_str) (pss_cons (ps_for PassesOwn.never rfl (pi_range1 rfl (T.free 11 _ rfl) (pa_cons (pe_callB call_len_seq rfl (T.free 0 _ rfl) PySem.boot_len (pa_cons (pv 2) pa_nil)) pa_nil)) (pg_name (i := 7) sc_words.nd rfl (Or.inl rfl)) (pss_one (ps_set (i := 6) sc_words.nd rfl (Or.inl rfl) (pe_op op_add_str (pv 6) (pe_ix ix_str (pv 1) (pe_op op_mod (pe_op op_add (pe_ix ix_list (pv 2) (pv 7) (fun _ _ => rfl)) (pe_op op_mul (pv 5) (pe_callTy call_int1 rfl (T.free 12 _ rfl) PyProof.Rows.boot_int (pa_cons (pe_cmpR op_eq (pv 7) (pv 3) (nomark _)) pa_nil)))) pe_int) (fun _ _ => rfl)))))) (pss_cons (ps_if (pt_cmpR op_in_seq (pv 6) (pe_tup (pa_cons pe_str (pa_cons pe_str (pa_cons pe_str pa_nil)))) rfl) (pss_one (ps_set (i := 6) sc_words.nd rfl (Or.inl rfl) (pe_op op_add_str (pv 6) pe_str))) pss_nil) (pss_one (ps_expr (pe_bm PySem.F.plainAttrs_list PySem.F.slot_list_append PySem.F.type_list_append mt_append (pv 4) (pa_cons (pv 6) pa_nil)))))))) (pss_one (ps_ret (pv 4)))))))), ?_⟩
    refine s_set rd_c ?_
    refine ⟨_, rfl, c, 9, 8, rfl, by omega, by omega, fun r hr2 => ⟨1, (r : Int), rfl, rfl, 1 + (r : Int), rfl, by omega, by omega, fun D hD => ?_⟩⟩
    refine lc_range (n := (1 + (r : Int)).toNat) (fun j U => Same H U ∧ ∃ acc : List Nat, U D = some (.lst (acc.map fun (x : Nat) => V.int (x : Int))) ∧ acc.length = j ∧ ∀ x ∈ acc, x < 26) ⟨same_new hD, [], upd_same, rfl, (fun x hx => nomatch hx)⟩ (fun j U hj q => ?_) (fun U q => ?_)
    · obtain ⟨hS, acc, hacc, hal, hab⟩ := q
      refine ⟨rfl, x_yes (x_cl (sp := spPick) (ra_cons (rd_var rfl) (ra_cons (rd_var rfl) (ra_cons rd_c ra_nil))) ⟨c, j, 26, by rw [Int.zero_add]; rfl, by omega, by omega, fun r3 hr3 => ?_⟩)⟩
      refine ⟨_, hacc, szl (by rw [List.length_map]; omega), same_mut hS hD, acc ++ [r3], ?_, by rw [List.length_append, hal]; rfl, fun x hx => ?_⟩
      · rw [upd_same, List.map_append]
        rfl
      · rcases List.mem_append.mp hx with q | q
        · exact hab x q
        · rw [List.mem_singleton.mp q]
          exact hr3
    · obtain ⟨hS, acc, hacc, hal, hab⟩ := q
      have hnb : (acc.map fun (x : Nat) => V.int (x : Int)).length = acc.length := List.length_map ..
      refine x_cl (sp := spPick) (ra_cons (rd_var rfl) (ra_cons rd_c (ra_cons (rd_lenL (rd_var rfl) hacc) ra_nil))) ⟨c, 10, acc.length, by rw [hnb]; rfl, by omega, by omega, fun at_ hat => ?_⟩
      refine ⟨sz (by simp), fun W hW => ?_⟩
      have s1 := same_new (o := HO.lst []) hW
      refine ⟨5, rfl, by omega, by omega, ?_⟩
      refine for_range (n := 5) (fun i τ U2 => ∃ x5 x6 x7, τ = [some (.int c), some (.str abc), some (.ref D), some (.int (at_ : Int)), some (.ref W), x5, x6, x7] ∧ Same U U2 ∧ ∃ ws : List Str, U2 W = some (.lst (ws.map V.str)) ∧ ws.length = i ∧ ∀ w ∈ ws, WOk w) ⟨_, _, _, rfl, s1, [], upd_same, rfl, (fun x hx => nomatch hx)⟩ (fun i τ U2 hi hJ => ?_) (fun τ U2 hJ => ?_)
      · obtain ⟨x5, x6, x7, rfl, hS2, ws, hws, hwl, hwo⟩ := hJ
        refine s_set rd_c ?_
        have hD2 := hS2 _ _ hacc
        refine ⟨.ref D, rfl, D, _, rfl, .inl (SqL.of hD2), _, rfl, by omega, by rw [hnb]; omega, ?_⟩
        refine for_range (n := ((acc.map fun (x : Nat) => V.int (x : Int)).length : Int).toNat) (fun j τ U3 => U3 = U2 ∧ ∃ wd x7, τ = [some (.int c), some (.str abc), some (.ref D), some (.int (at_ : Int)), some (.ref W), some (.int (0 + (i : Int))), some (.str wd), x7] ∧ (∀ ch ∈ wd.cps.toList, wc ch) ∧ wd.length = j) ⟨rfl, _, _, rfl, (fun x hx => nomatch hx), rfl⟩ (fun j τ U3 hj hJ => ?_) (fun τ U3 hJ => ?_)
        · obtain ⟨rfl, wd, x8, rfl, hch, hwdl⟩ := hJ
          have hja : j < acc.length := by omega
          have ej : (acc.map fun (x : Nat) => V.int (x : Int))[j]? = some (.int ((acc[j] : Nat) : Int)) := by
            rw [List.getElem?_map, List.getElem?_eq_getElem hja]
            rfl
          obtain ⟨r4, hr4, er4⟩ := mod_nat (((acc[j] : Nat) : Int) + (0 + (i : Int)) * (if decide (V.int (0 + (j : Int)) = V.int (at_ : Int)) = true then 1 else 0)) (m := 26) (by omega)
          have hcm : CMul (0 + (i : Int)) (if decide (V.int (0 + (j : Int)) = V.int (at_ : Int)) = true then 1 else 0) := .inl ⟨by omega, by omega⟩
          have ech := abc_at ⟨r4, hr4⟩
          have ix : Rds (tOp rIxS (tVar 1) (tOp (rI (fun _ j => 0 < j) fun i j => .int (i % j)) (tOp (rI0 fun i j => .int (i + j)) (tOp (rIxL K) (tVar 2) (tVar 7)) (tOp (rI CMul fun i j => .int (i * j)) (tVar 5) (tCB (fun xs H Q => (∃ i, xs = [V.int i] ∧ Q (.int i) H) ∨ ∃ k, xs = [V.bl k] ∧ Q (.int (if k = true then 1 else 0)) H) (tCons (tOp rEq (tVar 7) (tVar 3)) tNil)))) (tC (.int 26))))
              [some (.int c), some (.str abc), some (.ref D), some (.int (at_ : Int)), some (.ref W), some (.int (0 + (i : Int))), some (.str wd), some (.int (0 + (j : Int)))] U3 (.str ⟨#[97 + r4]⟩) := by
            refine rd_op (rd_var rfl) (y := .int (r4 : Int)) ?_ fun Q q => ⟨abc, (r4 : Int), 97 + r4, rfl, rfl, sz (by decide +kernel), atI_nat ech, q⟩
            have e26 : ((26 : Nat) : Int) = 26 := rfl
            rw [← er4, e26]
            refine rd_I (g := fun i j => .int (i % j)) (rd_I0 (g := fun i j => .int (i + j)) (rd_ixS (n := j) (rd_var rfl) (rd_var (v := .int (j : Int)) (by rw [Int.zero_add (j : Int)]; rfl)) (SqL.of hD2) ej) (rd_I (g := fun i j => .int (i * j)) (rd_var rfl) (fun Q q => ?_) hcm)) rd_c (by decide)
            exact rd_eqI (rd_var rfl) (rd_var rfl) _ (.inr ⟨_, rfl, q⟩)
          refine s_set (v := .str (wd ++ ⟨#[97 + r4]⟩)) (rd_op (rd_var rfl) ix fun Q q => ⟨wd, _, rfl, rfl, sz (by show wd.length + 1 ≤ _; omega), q⟩) ?_
          refine ⟨rfl, wd ++ ⟨#[97 + r4]⟩, _, rfl, fun ch hc => ?_, by rw [len_app, hwdl]; rfl⟩
          rw [cps_app] at hc
          rcases List.mem_append.mp hc with q | q
          · exact hch ch q
          · have : ch = 97 + r4 := List.mem_singleton.mp q
            rw [this]
            exact .inl ⟨by omega, by omega⟩
        · obtain ⟨rfl, wd, x8, rfl, hch, hwdl⟩ := hJ
          have hwd10 : wd.length ≤ 10 := by omega
          refine ⟨.str wd, rfl, sz (by simp), fun q3 hq3 => ⟨q3, _, rfl, .inr (SqT.of upd_same), rfl, rfl, _, rfl, ?_⟩⟩
          have s3 := same_new (o := HO.tup [.str "keep", .str "not", .str "infix"]) hq3
          have hS3 := hS2.trans s3
          have hws3 := s3 _ _ hws
          have hin : inV (.str wd) [.str "keep", .str "not", .str "infix"] = decide (wd ∈ (["keep", "not", "infix"] : List Str)) := inV_strs wd ["keep", "not", "infix"]
          rw [hin]
          have push : ∀ (Z : Prop) (w2 : Str) (x7 : Option V), WOk w2 → tDrop (tBM K "list" rAppend (tVar 4) (tCons (tVar 6) tNil)) { nx := fun τ U2 => ∃ x5 x6 x7, τ = [some (.int c), some (.str abc), some (.ref D), some (.int (at_ : Int)), some (.ref W), x5, x6, x7] ∧ Same U U2 ∧ ∃ ws : List Str, U2 W = some (.lst (ws.map V.str)) ∧ ws.length = i + 1 ∧ ∀ w ∈ ws, WOk w, rt := Q } [some (.int c), some (.str abc), some (.ref D), some (.int (at_ : Int)), some (.ref W), some (.int (0 + (i : Int))), some (.str w2), x7] (upd U3 q3 (.tup [.str "keep", .str "not", .str "infix"])) := by
            intro _ w2 x7 hw2
            refine s_push (rd_var (i := 4) rfl) hws3 ⟨.str w2, rfl, W, _, .str w2, rfl, rfl, hws3, szl (by rw [List.length_map]; omega), _, _, _, rfl, same_mut hS3 hW, ws ++ [w2], ?_, by rw [List.length_append, hwl]; rfl, fun x hx => ?_⟩
            · rw [upd_same, List.map_append]
              rfl
            · rcases List.mem_append.mp hx with q | q
              · exact hwo x q
              · rw [List.mem_singleton.mp q]
                exact hw2
          by_cases hm : wd ∈ (["keep", "not", "infix"] : List Str)
          · rw [decide_eq_true hm]
            have h3l : (Str.ofString "3").length = 1 := by decide +kernel
            refine iteT ?_
            refine s_set (v := .str (wd ++ Str.ofString "3")) (rd_op (rd_var rfl) rd_c fun Q q => ⟨wd, _, rfl, rfl, sz (by omega), q⟩) ?_
            exact push True _ _ (wOk_three hch hwd10)
          · rw [decide_eq_false hm]
            refine iteF ?_
            refine push True _ _ ⟨hch, by omega, fun z => hm (by rw [z]; exact List.mem_cons_self ..), fun z => hm (by rw [z]; exact List.mem_cons_of_mem _ (List.mem_cons_self ..))⟩
      · obtain ⟨x5, x6, x7, rfl, hS2, ws, hws, hwl, hwo⟩ := hJ
        exact s_ret (v := .ref W) (rd_var rfl) (k W ws U2 (hS.trans hS2) hws hwl hwo)
end
end G35

/-! GLaw3 -/
set_option Elab.async false
set_option linter.all false
set_option maxRecDepth 100000
set_option maxHeartbeats 4000000
namespace G35
open PySem PySem.Spec PyProof.Rows L2
/-! ### the law's names -/
structure NOk (x : Str) : Prop where
  dot : NoDot x
  len : x.length ≤ 100
theorem upper_ok {w : Str} (h : WOk w) : NOk (Txt.upper w) ∧ (Txt.upper w).length ≤ 20 := by
  have hall : w.cps.toList.all (· < 128) = true := List.all_eq_true.mpr fun c hc => by
    have := h.chars c hc
    unfold wc at this
    simp only [decide_eq_true_eq]
    omega
  have e : w = SX.S w.cps.toList := by
    apply str_ext
    rfl
  have e2 : Txt.upper w = SX.S (w.cps.toList.map PyProof.Rows.up1) := by
    conv => lhs; rw [e]
    exact SX.upper_S hall
  have hlen : (Txt.upper w).length = w.length := by
    rw [e2]
    show (w.cps.toList.map PyProof.Rows.up1).toArray.size = w.cps.size
    simp
  have hl := h.len
  refine ⟨⟨fun hm => ?_, by omega⟩, by omega⟩
  rw [e2] at hm
  have hm : 46 ∈ (w.cps.toList.map PyProof.Rows.up1) := by simpa using hm
  obtain ⟨c, hc, ec⟩ := List.mem_map.mp hm
  have := h.chars c hc
  unfold wc at this
  unfold PyProof.Rows.up1 at ec
  split at ec <;> omega
theorem istr_small : ∀ k : _root_.Fin 42, 46 ∉ (istr (k.val : Int)).cps.toList ∧ (istr (k.val : Int)).length ≤ 10 := by decide +kernel
theorem nok_num {x : Str} (h : NOk x) (hl : x.length ≤ 20) (k : Nat) (hk : k < 42) : NOk (x ++ istr (k : Int)) := by
  obtain ⟨h1, h2⟩ := istr_small ⟨k, hk⟩
  refine ⟨fun hm => ?_, by rw [len_app]; have : (istr (k : Int)).length ≤ 10 := h2; omega⟩
  rw [cps_app] at hm
  rcases List.mem_append.mp hm with q | q
  · exact h.dot q
  · exact h1 q
def spNames : Sp := fun vs H Q _ => ∃ (a : Addr) (ws : List Str) (c : Int), vs = [.ref a, .int c] ∧ H a = some (.lst (ws.map V.str)) ∧ ws.length = 5 ∧ (∀ w ∈ ws, WOk w) ∧
  ∀ (q : Addr) (N : List Str) (H' : Hp), Same H H' → H' q = some (.lst (N.map V.str)) → N.length = 3 → (∀ x ∈ N, NOk x) → Q (.ref q) H'
theorem rd_upper {σ : L2.St} {H : Hp} {te : TE} {z : Str} (h : Rds te σ H (.str z)) (hz : z.length ≤ 5592405) : Rds (tM0 (fun x xs H Q => ∃ a, x = V.str a ∧ xs = [] ∧ a.length ≤ 5592405 ∧ Q (.str (Txt.upper a)) H) te) σ H (.str (Txt.upper z)) := fun Q q => h _ ⟨⟨z, rfl⟩, z, rfl, rfl, hz, q⟩
section
variable {P : Program} {w : World} {K : PySem.W.Frag} {mg : Str → Option Value} {base : Heap}
theorem sc_names : FnScope ["_law_words_here", "_law_cell", "_law_one_here", "_law_first", "_law_some", "_law_word"] ["_law_words_here", "_law_cell"] d_law_names.scope := ⟨rfl, rfl, rfl, by decide +kernel, rfl, by decide +kernel, by decide +kernel⟩
theorem ok_names (T : T35 K mg) : Cl P w K mg base CX0 2 "_law_names" ["_law_words_here", "_law_cell"] spNames := by
  have cP := ok_pick (P := P) (w := w) (base := base) T
  refine cl_of (d := d_law_names) T 32 rfl rfl rfl rfl sc_names (fun vs H Q E h => ?_) (fun _ _ _ _ _ _ us hl => match us, hl with | [_, _], _ => rfl) (fun cdv A outer s0 H vs Q E hr h => ?_)
  · obtain ⟨a, ws, c, rfl, _⟩ := h
    rfl
  · obtain ⟨a, ws, c, rfl, ha, hwl, hwo, k⟩ := h
    refine ⟨_, (pss_cons (ps_set (i := 2) sc_names.nd rfl (Or.inl rfl) (pe_upper (pe_ix ix_list (pv 0) pe_int (fun _ _ => rfl)))) (pss_cons (ps_set (i := 3) sc_names.nd rfl (Or.inl rfl) (pe_cl cP hr (by omega) rfl (pa_cons (pv 1) (pa_cons pe_int (pa_cons pe_int pa_nil))))) (pss_cons (ps_set (i := 4) sc_names.nd rfl (Or.inl rfl) (pe_lst (pa_cons (pe_lc (own := [("_law_word", 5)]) (g := gName 5) (tt := tYes) rfl sc_names.nd (pi_list (pe_slice sl_list (pv 0) po_none (po_some pe_int))) (blkOk_by (N := ["_law_words_here", "_law_cell", "_law_one_here", "_law_first", "_law_some", "_law_word"]) (sc := d_law_names.scope) (by decide +kernel)) (fun _ _ _ _ _ => (pg_name (i := 5) sc_names.nd rfl (Or.inl rfl))) (fun _ _ _ _ _ => pts_nil) (fun s2 H2 C2 cl2 fp2 => (pe_upper (pv 5)))) (pa_cons (pe_lst (pa_cons (pv 2) (pa_cons (pe_op op_add_str (pv 2) (pe_callTy call_str_int rfl (T.free 4 _ rfl) PyProof.Rows.boot_str (pa_cons (pv 3) pa_nil))) (pa_cons (pe_op op_add_str (pv 2) (pe_callTy call_str_int rfl (T.free 4 _ rfl) PyProof.Rows.boot_str (pa_cons (pe_op op_add (pv 3) pe_int) pa_nil))) pa_nil)))) pa_nil)))) (pss_cons (ps_expr (pe_bm PySem.F.plainAttrs_list PySem.F.slot_list_append PySem.F.type_list_append mt_append (pv 4) (pa_cons (pe_lst (pa_cons pe_str (pa_cons pe_str (pa_cons pe_str pa_nil)))) pa_nil))) (pss_one (ps_ret (pe_ix ix_list (pv 4) (pe_ix ix_list (pe_lst (pa_cons pe_int (pa_cons pe_int (pa_cons pe_int (pa_cons pe_int (pa_cons pe_int (pa_cons pe_int pa_nil))))))) (pe_cl cP hr (by omega) rfl (pa_cons (pv 1) (pa_cons pe_int (pa_cons pe_int pa_nil)))) (fun _ _ => rfl)) (fun _ _ => rfl)))))))), ?_⟩
    have h0 : ws[0]? = some ws[0] := List.getElem?_eq_getElem (by omega)
    have w0 := hwo _ (List.mem_of_getElem? h0)
    obtain ⟨u0, ul⟩ := upper_ok w0
    have hl0 := w0.len
    refine s_set (rd_upper (rd_ixL (n := 0) (rd_var rfl) rd_c ha (by rw [List.getElem?_map, h0]; rfl)) (by omega)) ?_
    generalize Txt.upper ws[0] = one at u0 ul ⊢
    refine x_cl (sp := spPick) (ra_cons (rd_var rfl) (ra_cons rd_c (ra_cons rd_c ra_nil))) ⟨c, 3, 40, rfl, by omega, by omega, fun f hf => ?_⟩
    refine ⟨.ref a, rfl, 3, rfl, a, _, rfl, SqL.of ha, fun q hq => ⟨q, rfl, ⟨_, SqL.of upd_same⟩, fun D hD => ?_⟩⟩
    have e3 : cutV (ws.map V.str) none (some 3) = (ws.take 3).map V.str := by
      rw [List.map_take]
      exact cutV_pre _ 3
    have s1 := same_new (o := HO.lst (cutV (ws.map V.str) none (some 3))) hq
    rw [e3] at s1 hD ⊢
    have hq1 : (upd H q (.lst ((ws.take 3).map V.str))) q = some (.lst ((ws.take 3).map V.str)) := upd_same
    generalize hH1 : upd H q (.lst ((ws.take 3).map V.str)) = H1 at s1 hD hq1 ⊢
    refine lc_list (xs := (ws.take 3).map V.str) (fun j U => Same H1 U ∧ ∃ acc : List Str, U D = some (.lst (acc.map V.str)) ∧ acc.length = j ∧ ∀ x ∈ acc, NOk x) ⟨same_new hD, [], upd_same, rfl, (fun x hx => nomatch hx)⟩ (fun j U _ q => SqL.of (q.1 _ _ hq1)) (fun j y U hy q => ?_) (fun U q => ?_)
    · obtain ⟨hS, acc, hacc, hal, hab⟩ := q
      rw [List.getElem?_map] at hy
      cases hz : (ws.take 3)[j]? with
      | none => rw [hz] at hy; cases hy
      | some wj =>
        rw [hz] at hy
        cases hy
        have wo := hwo _ (List.mem_of_mem_take (List.mem_of_getElem? hz))
        have hjl := (List.getElem?_eq_some_iff.mp hz).1
        rw [List.length_take] at hjl
        have wol := wo.len
        refine ⟨rfl, x_yes (rd_upper (rd_var rfl) (by omega) _ ?_)⟩
        refine ⟨_, hacc, szl (by rw [List.length_map]; omega), same_mut hS hD, acc ++ [Txt.upper wj], ?_, by rw [List.length_append, hal]; rfl, fun x hx => ?_⟩
        · rw [upd_same, List.map_append]
          rfl
        · rcases List.mem_append.mp hx with q | q
          · exact hab x q
          · rw [List.mem_singleton.mp q]
            exact (upper_ok wo).1
    · obtain ⟨hS, acc, hacc, hal, hab⟩ := q
      rw [List.length_map, List.length_take, hwl] at hal
      have lg1 : (f : Int).natAbs.log2 < 1920 := lg f (by omega)
      have lg2 : ((f : Int) + 1).natAbs.log2 < 1920 := lg (f + 1) (by omega)
      have n1 := nok_num u0 ul f (by omega)
      have n2 := nok_num u0 ul (f + 1) (by omega)
      have il1 : (istr (f : Int)).length ≤ 10 := (istr_small ⟨f, by omega⟩).2
      have il2 : (istr ((f + 1 : Nat) : Int)).length ≤ 10 := (istr_small ⟨f + 1, by omega⟩).2
      have ap : ∀ (σ : L2.St) (U : Hp) (te : TE) (i : Nat), σ[2]? = some (some (.str one)) → i < 42 → Rds te σ U (.int (i : Int)) → Rds (tOp (fun x y H Q => ∃ i j, x = V.str i ∧ y = V.str j ∧ i.length + j.length ≤ sizeLine ∧ Q (.str (i ++ j)) H) (tVar 2) (tCB (fun xs H Q => ∃ i, xs = [V.int i] ∧ i.natAbs.log2 < 1920 ∧ Q (.str (toString i)) H) (tCons te tNil))) σ U (.str (one ++ istr (i : Int))) := by
        intro σ U te i h2 hi hte
        have il : (istr (i : Int)).length ≤ 10 := (istr_small ⟨i, hi⟩).2
        refine rd_op (rd_var h2) (y := .str (istr (i : Int))) (fun Q q => hte _ ⟨(i : Int), rfl, lg i (by omega), q⟩) fun Q q => ⟨one, istr (i : Int), rfl, rfl, sz (by omega), q⟩
      have apI : ∀ (σ : L2.St) (U : Hp), σ[3]? = some (some (.int (f : Int))) → Rds (tOp (rI0 fun i j => .int (i + j)) (tVar 3) (tC (.int 1))) σ U (.int ((f + 1 : Nat) : Int)) := by
        intro σ U h3
        rw [Int.natCast_add]
        exact rd_I0 (g := fun i j => .int (i + j)) (rd_var h3) rd_c
      refine x_lst (ra_cons (rd_var rfl) (ra_cons (ap _ _ _ f rfl (by omega) (rd_var rfl)) (ra_cons (ap _ _ _ (f + 1) rfl (by omega) (apI _ _ rfl)) ra_nil))) (sz (by simp)) fun q2 hq2 => ?_
      have s2 := same_new (o := HO.lst [.str one, .str (one ++ istr (f : Int)), .str (one ++ istr ((f + 1 : Nat) : Int))]) hq2
      refine ⟨sz (by simp), fun q3 hq3 => ?_⟩
      have s3 := same_new (o := HO.lst [.ref D, .ref q2]) hq3
      have S3 := (hS.trans s2).trans s3
      refine s_push (rd_var (i := 4) rfl) upd_same ?_
      refine x_lst (ra_cons rd_c (ra_cons rd_c (ra_cons rd_c ra_nil))) (sz (by simp)) fun q4 hq4 => ?_
      have s4 := same_new (o := HO.lst [.str "U1", .str "U2", .str "U"]) hq4
      have hq34 := s4 _ _ (upd_same (H := upd U q2 (.lst [.str one, .str (one ++ istr (f : Int)), .str (one ++ istr ((f + 1 : Nat) : Int))])) (a := q3) (o := HO.lst [.ref D, .ref q2]))
      refine ⟨q3, _, .ref q4, rfl, rfl, hq34, szl (by simp), ?_⟩
      have n34 : q3 ≠ q4 := fun z => by rw [z, upd_same] at hq34; cases hq34
      generalize hU4 : upd (upd (upd U q2 (.lst [.str one, .str (one ++ istr (f : Int)), .str (one ++ istr ((f + 1 : Nat) : Int))])) q3 (.lst [.ref D, .ref q2])) q4 (.lst [.str "U1", .str "U2", .str "U"]) = U4 at s4 hq34
      have hq3H : H q3 = none := s1.free ((hS.trans s2).free hq3)
      have SH : Same H U4 := (s1.trans S3).trans s4
      have SF : Same H (upd U4 q3 (.lst ([.ref D, .ref q2] ++ [.ref q4]))) := same_mut SH hq3H
      have nD : D ≠ q3 := fun z => by
        have := s2 _ _ hacc
        rw [z, hq3] at this
        cases this
      have hD4 : (upd U4 q3 (.lst ([.ref D, .ref q2] ++ [.ref q4]))) D = some (.lst (acc.map V.str)) := by
        rw [upd_ne nD]
        exact s4 _ _ ((s2.trans s3) _ _ hacc)
      have n2 : q2 ≠ q3 := fun z => by
        rw [← z, upd_same] at hq3
        cases hq3
      have h24 : (upd U4 q3 (.lst ([.ref D, .ref q2] ++ [.ref q4]))) q2 = some (.lst [.str one, .str (one ++ istr (f : Int)), .str (one ++ istr ((f + 1 : Nat) : Int))]) := by
        rw [upd_ne n2]
        exact s4 _ _ (s3 _ _ upd_same)
      have h44 : (upd U4 q3 (.lst ([.ref D, .ref q2] ++ [.ref q4]))) q4 = some (.lst [.str "U1", .str "U2", .str "U"]) := by
        rw [upd_ne n34.symm, ← hU4]
        exact upd_same
      generalize hU5 : upd U4 q3 (.lst ([.ref D, .ref q2] ++ [.ref q4])) = U5 at SF hD4 h24 h44
      have h35 : U5 q3 = some (.lst [.ref D, .ref q2, .ref q4]) := by
        rw [← hU5]
        exact upd_same
      refine ⟨.ref q3, rfl, sz (by simp), fun q6 hq6 => ?_⟩
      have s6 := same_new (o := HO.lst [.int 0, .int 0, .int 1, .int 1, .int 1, .int 2]) hq6
      refine ⟨_, rfl, c, 4, 6, rfl, by omega, by omega, fun r hr6 => ?_⟩
      have hf := SF.trans s6
      have three : ∀ j : Nat, j < 3 → [V.int 0, .int 0, .int 1, .int 1, .int 1, .int 2][r]? = some (.int (j : Int)) → tRet (tOp (rIxL K) (tVar 4) (tC (.int (j : Int)))) { nx := fun _ H' => Q .non H', rt := Q } [some (.ref a), some (.int c), some (.str one), some (.int (f : Int)), some (.ref q3), none] (upd U5 q6 (.lst [.int 0, .int 0, .int 1, .int 1, .int 1, .int 2])) := by
        intro j hj _
        have hq3' := s6 _ _ h35
        match j, hj with
        | 0, _ => exact s_ret (rd_ixL (n := 0) (rd_var rfl) rd_c hq3' rfl) (k D acc _ hf (s6 _ _ hD4) (by omega) hab)
        | 1, _ =>
          refine s_ret (rd_ixL (n := 1) (rd_var rfl) rd_c hq3' rfl) (k q2 [one, one ++ istr (f : Int), one ++ istr ((f + 1 : Nat) : Int)] _ hf (s6 _ _ h24) rfl fun x hx => ?_)
          simp only [List.mem_cons, List.not_mem_nil, or_false] at hx
          rcases hx with rfl | rfl | rfl
          · exact u0
          · exact n1
          · exact nok_num u0 ul (f + 1) (by omega)
        | 2, _ =>
          refine s_ret (rd_ixL (n := 2) (rd_var rfl) rd_c hq3' rfl) (k q4 ["U1", "U2", "U"] _ hf (s6 _ _ h44) rfl fun x hx => ?_)
          simp only [List.mem_cons, List.not_mem_nil, or_false] at hx
          rcases hx with rfl | rfl | rfl
          · exact ⟨by unfold NoDot; decide +kernel, by decide +kernel⟩
          · exact ⟨by unfold NoDot; decide +kernel, by decide +kernel⟩
          · exact ⟨by unfold NoDot; decide +kernel, by decide +kernel⟩
      have vals : ∀ r' : _root_.Fin 6, ∃ j : Nat, j < 3 ∧ [V.int 0, .int 0, .int 1, .int 1, .int 1, .int 2][r'.val]? = some (.int (j : Int)) := fun r' => match r' with
        | ⟨0, _⟩ => ⟨0, by decide, rfl⟩
        | ⟨1, _⟩ => ⟨0, by decide, rfl⟩
        | ⟨2, _⟩ => ⟨1, by decide, rfl⟩
        | ⟨3, _⟩ => ⟨1, by decide, rfl⟩
        | ⟨4, _⟩ => ⟨1, by decide, rfl⟩
        | ⟨5, _⟩ => ⟨2, by decide, rfl⟩
      obtain ⟨j, hj, hjr⟩ := vals ⟨r, hr6⟩
      refine ⟨q6, _, (r : Int), .int (j : Int), rfl, rfl, SqL.of upd_same, atI_nat hjr, ?_⟩
      obtain ⟨v, h1, h2⟩ := three j hj hjr
      cases h1
      exact h2
end
end G35

/-! GLaw4 -/
set_option Elab.async false
set_option linter.all false
set_option maxRecDepth 100000
set_option maxHeartbeats 4000000
namespace G35
open PySem PySem.Spec PyProof.Rows L2
/-! ### what a reading makes, whatever it is -/
def Tms (te : TE) (σ : L2.St) (H0 : Hp) (Φ : PT → Prop) : Prop := ∀ H, Same H0 H → ∀ Q : VK, (∀ t v H', Same H H' → RepT H' t v → Φ t → Q v H') → te σ H Q
def Nats (te : TE) (σ : L2.St) (H0 : Hp) (Φ : Nat → Prop) : Prop := ∀ H, Same H0 H → ∀ Q : VK, (∀ (n : Nat) H', Same H H' → Φ n → Q (.int (n : Int)) H') → te σ H Q
def Strs (te : TE) (σ : L2.St) (H0 : Hp) (Φ : Str → Prop) : Prop := ∀ H, Same H0 H → ∀ Q : VK, (∀ z H', Same H H' → Φ z → Q (.str z) H') → te σ H Q
theorem x_tupk {σ : L2.St} {H : Hp} {c : V} {tr : TA} {Q : VK} (h : tr σ H fun vs H2 => (c :: vs).length ≤ sizeLine ∧ ∀ p, H2 p = none → Q (.ref p) (upd H2 p (.tup (c :: vs)))) : tTup (tCons (tC c) tr) σ H Q := h
section
variable {K : PySem.W.Frag} {σ : L2.St} {H0 : Hp} {ta tb ts ti tc : TE} {Φ Ψ : PT → Prop} {φ ψ : Nat → Prop} {ρ : Str → Prop}
theorem Tms.imp (h : Tms ta σ H0 Φ) (i : ∀ t, Φ t → Ψ t) : Tms ta σ H0 Ψ := fun H hS Q q => h H hS Q fun t v H' s r f => q t v H' s r (i t f)
theorem Nats.imp (h : Nats ta σ H0 φ) (i : ∀ t, φ t → ψ t) : Nats ta σ H0 ψ := fun H hS Q q => h H hS Q fun t H' s f => q t H' s (i t f)
theorem Tms.mono {H1 : Hp} (h : Tms ta σ H0 Φ) (s : Same H0 H1) : Tms ta σ H1 Φ := fun H hS Q q => h H (s.trans hS) Q q
theorem tm_var {i : Nat} {t : PT} {v : V} (h : σ[i]? = some (some v)) (r : RepT H0 t v) : Tms (tVar i) σ H0 fun u => u = t := fun H hS Q q => ⟨v, h, q t v H (Same.refl _) (r.ex (.of hS)) rfl⟩
theorem nt_c {n : Nat} : Nats (tC (.int (n : Int))) σ H0 fun u => u = n := fun H hS Q q => q n H (Same.refl _) rfl
theorem nt_pick {c : Int} {k m : Nat} (hc : ∀ H, Rds tc σ H (.int c)) (hk : k ≤ 1000) (hm : 0 < m) {tk tm : TE} (h1 : ∀ H, Rds tk σ H (.int (k : Int))) (h2 : ∀ H, Rds tm σ H (.int (m : Int))) : Nats (tCall spPick [] E0 (tCons tc (tCons tk (tCons tm tNil)))) σ H0 fun r => r < m := fun H hS Q q =>
  x_cl (sp := spPick) (ra_cons (hc H) (ra_cons (h1 H) (ra_cons (h2 H) ra_nil))) ⟨c, k, m, rfl, hk, hm, fun r hr => q r H (Same.refl _) hr⟩
theorem st_c {z : Str} : Strs (tC (.str z)) σ H0 fun u => u = z := fun H hS Q q => q z H (Same.refl _) rfl
theorem st_ix {i : Nat} {a : Addr} {ws : List Str} (h : σ[i]? = some (some (.ref a))) (ha : H0 a = some (.lst (ws.map V.str))) (hi : Nats ti σ H0 fun n => n < ws.length) : Strs (tOp (rIxL K) (tVar i) ti) σ H0 fun z => z ∈ ws := fun H hS Q q =>
  ⟨.ref a, h, hi H hS _ fun n H' s hn => ⟨a, ws.map V.str, (n : Int), .str ws[n], rfl, rfl, SqL.of (s _ _ (hS _ _ ha)), atI_nat (by rw [List.getElem?_map, List.getElem?_eq_getElem hn]; rfl), q _ H' s (List.getElem_mem hn)⟩⟩
/-- a list shown, one of its texts taken -/
theorem st_pick {tr : TA} {ws : List Str} (h : ∀ H, RdA tr σ H (ws.map V.str)) (hl : ws.length ≤ 1000) (hi : Nats ti σ H0 fun n => n < ws.length) : Strs (tOp (rIxL K) (tLst tr) ti) σ H0 fun z => z ∈ ws := fun H hS Q q => by
  refine x_op (x_lst (h H) (sz (by rw [List.length_map]; omega)) fun p hp => ?_)
  have s1 := same_new (o := HO.lst (ws.map V.str)) hp
  exact hi _ (hS.trans s1) _ fun n H' s hn => ⟨p, ws.map V.str, (n : Int), .str ws[n], rfl, rfl, SqL.of (s _ _ upd_same), atI_nat (by rw [List.getElem?_map, List.getElem?_eq_getElem hn]; rfl), q _ H' (s1.trans s) (List.getElem_mem hn)⟩
theorem nt_two (h1 : Nats ta σ H0 φ) (h2 : Nats tb σ H0 ψ) (hi : Nats ti σ H0 fun n => n < 2) : Nats (tOp (rIxL K) (tLst (tCons ta (tCons tb tNil))) ti) σ H0 fun n => φ n ∨ ψ n := fun H hS Q q => by
  refine x_op (x_lstc (h1 H hS _ fun n H1 s1 f1 => x_c (h2 H1 (hS.trans s1) _ fun m H2 s2 f2 => ⟨sz (by simp), fun p hp => ?_⟩)))
  have s3 := same_new (o := HO.lst [.int (n : Int), .int (m : Int)]) hp
  have s12 := (s1.trans s2).trans s3
  refine hi _ (hS.trans s12) _ fun j H' s hj => ?_
  match j, hj with
  | 0, _ => exact ⟨p, _, ((0 : Nat) : Int), .int (n : Int), rfl, rfl, SqL.of (s _ _ upd_same), atI_nat rfl, q _ H' (s12.trans s) (.inl f1)⟩
  | 1, _ => exact ⟨p, _, ((1 : Nat) : Int), .int (m : Int), rfl, rfl, SqL.of (s _ _ upd_same), atI_nat rfl, q _ H' (s12.trans s) (.inr f2)⟩
theorem tm_two (h1 : Tms ta σ H0 Φ) (h2 : Tms tb σ H0 Ψ) (hi : Nats ti σ H0 fun n => n < 2) : Tms (tOp (rIxL K) (tLst (tCons ta (tCons tb tNil))) ti) σ H0 fun n => Φ n ∨ Ψ n := fun H hS Q q => by
  refine x_op (x_lstc (h1 H hS _ fun n v1 H1 s1 r1 f1 => x_c (h2 H1 (hS.trans s1) _ fun m v2 H2 s2 r2 f2 => ⟨sz (by simp), fun p hp => ?_⟩)))
  have s3 := same_new (o := HO.lst [v1, v2]) hp
  have s12 := (s1.trans s2).trans s3
  refine hi _ (hS.trans s12) _ fun j H' s hj => ?_
  match j, hj with
  | 0, _ => exact ⟨p, _, ((0 : Nat) : Int), v1, rfl, rfl, SqL.of (s _ _ upd_same), atI_nat rfl, q n _ H' (s12.trans s) (r1.ex (.of ((s2.trans s3).trans s))) (.inl f1)⟩
  | 1, _ => exact ⟨p, _, ((1 : Nat) : Int), v2, rfl, rfl, SqL.of (s _ _ upd_same), atI_nat rfl, q m _ H' (s12.trans s) (r2.ex (.of (s3.trans s))) (.inr f2)⟩
theorem tm_num (h : Nats ta σ H0 φ) : Tms (tTup (tCons (tC (.str "num")) (tCons ta tNil))) σ H0 fun t => ∃ n : Nat, φ n ∧ t = .num (n : Int) := fun H hS Q q => by
  refine x_tupk (x_c (h H hS _ fun n H1 s1 f1 => ⟨sz (by simp), fun p hp => ?_⟩))
  exact q (.num (n : Int)) _ _ (s1.trans (same_new hp)) ⟨p, rfl, upd_same⟩ ⟨n, f1, rfl⟩
theorem tm_any (h : Strs ta σ H0 ρ) : Tms (tTup (tCons (tC (.str "any")) (tCons ta tNil))) σ H0 fun t => ∃ x, ρ x ∧ t = .any x := fun H hS Q q => by
  refine x_tupk (x_c (h H hS _ fun n H1 s1 f1 => ⟨sz (by simp), fun p hp => ?_⟩))
  exact q (.any n) _ _ (s1.trans (same_new hp)) ⟨p, rfl, upd_same⟩ ⟨n, f1, rfl⟩
theorem tm_app0 (h : Strs ts σ H0 ρ) : Tms (tTup (tCons (tC (.str "app")) (tCons ts (tCons (tTup tNil) tNil)))) σ H0 fun t => ∃ f, ρ f ∧ t = .app f [] := fun H hS Q q => by
  refine x_tupk (x_c (h H hS _ fun n H1 s1 f1 => ⟨sz (by simp), fun p1 hp1 => ⟨sz (by simp), fun p hp => ?_⟩⟩))
  have s2 := same_new (o := HO.tup []) hp1
  have s3 := same_new (o := HO.tup [.str "app", .str n, .ref p1]) hp
  exact q (.app n []) _ _ ((s1.trans s2).trans s3) ⟨p, p1, [], rfl, upd_same, s3 _ _ upd_same, RepL.nil⟩ ⟨n, f1, rfl⟩
theorem tm_app1 (h : Strs ts σ H0 ρ) (h1 : Tms ta σ H0 Φ) : Tms (tTup (tCons (tC (.str "app")) (tCons ts (tCons (tTup (tCons ta tNil)) tNil)))) σ H0 fun t => ∃ f a, ρ f ∧ Φ a ∧ t = .app f [a] := fun H hS Q q => by
  refine x_tupk (x_c (h H hS _ fun n H1 s1 f1 => x_c (x_tupc (h1 H1 (hS.trans s1) _ fun a v1 H2 s2 r2 f2 => ⟨sz (by simp), fun p1 hp1 => ⟨sz (by simp), fun p hp => ?_⟩⟩))))
  have s3 := same_new (o := HO.tup [v1]) hp1
  have s4 := same_new (o := HO.tup [.str "app", .str n, .ref p1]) hp
  exact q (.app n [a]) _ _ (((s1.trans s2).trans s3).trans s4) ⟨p, p1, [v1], rfl, upd_same, s4 _ _ upd_same, .cons (r2.ex (.of (s3.trans s4))) RepL.nil⟩ ⟨n, a, f1, f2, rfl⟩
theorem tm_app2 (h : Strs ts σ H0 ρ) (h1 : Tms ta σ H0 Φ) (h2 : Tms tb σ H0 Ψ) : Tms (tTup (tCons (tC (.str "app")) (tCons ts (tCons (tTup (tCons ta (tCons tb tNil))) tNil)))) σ H0 fun t => ∃ f a b, ρ f ∧ Φ a ∧ Ψ b ∧ t = .app f [a, b] := fun H hS Q q => by
  refine x_tupk (x_c (h H hS _ fun n H1 s1 f1 => x_c (x_tupc (h1 H1 (hS.trans s1) _ fun a v1 H2 s2 r2 f2 => x_c (h2 H2 ((hS.trans s1).trans s2) _ fun b v2 H3 s3 r3 f3 => ⟨sz (by simp), fun p1 hp1 => ⟨sz (by simp), fun p hp => ?_⟩⟩)))))
  have s4 := same_new (o := HO.tup [v1, v2]) hp1
  have s5 := same_new (o := HO.tup [.str "app", .str n, .ref p1]) hp
  exact q (.app n [a, b]) _ _ ((((s1.trans s2).trans s3).trans s4).trans s5) ⟨p, p1, [v1, v2], rfl, upd_same, s5 _ _ upd_same, .cons (r2.ex (.of ((s3.trans s4).trans s5))) (.cons (r3.ex (.of (s4.trans s5))) RepL.nil)⟩ ⟨n, a, b, f1, f2, f3, rfl⟩
end
/-! ### shapes -/
instance : DecidablePred wc := fun c => by
  unfold wc
  infer_instance
theorem signs_not : ∀ f ∈ sumW ++ [wEq, wAsg, wLt, wLe], ∃ c ∈ f.cps.toList, ¬ wc c := by decide +kernel
theorem WOk.sign {w f : Str} (h : WOk w) (hf : f ∈ sumW ++ [wEq, wAsg, wLt, wLe]) : w ≠ f := fun e => by
  obtain ⟨c, hc, hn⟩ := signs_not f hf
  rw [← e] at hc
  exact hn (h.chars c hc)
theorem WOk.notSum {w : Str} (h : WOk w) : w ∉ sumW := fun hm => h.sign (List.mem_append_left _ hm) rfl
theorem WOk.named {w : Str} (h : WOk w) : Named w := fun hm => by
  simp only [List.mem_cons, List.not_mem_nil, or_false] at hm
  rcases hm with e | e | e | e | e | e
  · exact h.sign (f := wEq) (by simp) e
  · exact h.sign (f := wAsg) (by simp) e
  · exact h.sign (f := wLt) (by simp) e
  · exact h.sign (f := wLe) (by simp) e
  · exact h.not_ e
  · exact h.keep e
def NoRem {α : Type} (t : Tm α) : Prop := ∀ f ks, Tm.app f ks ∈ t.apps → f ≠ wMod
theorem wMod_in : wMod ∈ sumW := by decide +kernel
theorem NoRem.any {α : Type} (x : α) : NoRem (.any x) := fun f ks h => by rw [Tm.apps_any] at h; cases h
theorem NoRem.num {α : Type} (n : Int) : NoRem (.num n : Tm α) := fun f ks h => by rw [Tm.apps_num] at h; cases h
theorem NoRem.app {α : Type} {f : Str} {ks : List (Tm α)} (hf : f ≠ wMod) (h : ∀ k ∈ ks, NoRem k) : NoRem (.app f ks) := fun g ls hu => by
  rw [Tm.apps_app] at hu
  rcases List.mem_cons.mp hu with e | hu
  · injection e with e1 e2
    rw [e1]
    exact hf
  · obtain ⟨k, hk, hu⟩ := List.mem_flatMap.mp hu
    exact h k hk g ls hu
/-- a term as the law draws it: n sums or words, s parts -/
structure Th (N : List Str) (n s : Nat) (t : PT) : Prop where
  shp : Shp t
  rem : NoRem t
  vars : ∀ x ∈ t.vars, x ∈ N
  apps : t.apps.length ≤ n
  size : t.size ≤ s
theorem Th.mono {N : List Str} {n m s r : Nat} {t : PT} (h : Th N n s t) (h1 : n ≤ m) (h2 : s ≤ r) : Th N m r t := ⟨h.shp, h.rem, h.vars, Nat.le_trans h.apps h1, Nat.le_trans h.size h2⟩
theorem th_any {N : List Str} {x : Str} (h : x ∈ N) : Th N 0 1 (.any x) := ⟨Shp.any x, NoRem.any x, fun y hy => by rw [Tm.vars_any] at hy; rw [List.mem_singleton.mp hy]; exact h, by rw [Tm.apps_any]; exact Nat.le_refl _, by rw [Tm.size_any]; exact Nat.le_refl _⟩
theorem th_num {N : List Str} {n : Int} : Th N 0 1 (.num n) := ⟨Shp.num n, NoRem.num n, fun y hy => absurd hy (by simp [Tm.vars_num]), by rw [Tm.apps_num]; exact Nat.le_refl _, by rw [Tm.size_num]; exact Nat.le_refl _⟩
theorem th_app0 {N : List Str} {f : Str} (hf : f ∉ sumW) : Th N 1 1 (.app f []) :=
  ⟨Shp.app hf (by simp) (fun k hk => nomatch hk), NoRem.app (fun e => hf (by rw [e]; exact wMod_in)) (fun k hk => nomatch hk), fun y hy => absurd hy (by simp [Tm.vars_app]), by rw [Tm.apps_app]; simp, by rw [Tm.size_app]; simp⟩
theorem th_app1 {N : List Str} {f : Str} {a : PT} {n s : Nat} (hf : f ∉ sumW) (h : Th N n s a) : Th N (n + 1) (s + 1) (.app f [a]) :=
  ⟨Shp.app hf (by simp) fun k hk => by rw [List.mem_singleton.mp hk]; exact h.shp, NoRem.app (fun e => hf (by rw [e]; exact wMod_in)) fun k hk => by rw [List.mem_singleton.mp hk]; exact h.rem, fun y hy => h.vars y (by
    rw [Tm.vars_app] at hy
    simpa using hy), by
    rw [Tm.apps_app]
    have := h.apps
    simpa using this, by
    rw [Tm.size_app]
    have := h.size
    simp
    omega⟩
theorem th_app2 {N : List Str} {f : Str} {a b : PT} {n m s r : Nat} (hf : f ∉ sumW) (h : Th N n s a) (h' : Th N m r b) : Th N (n + m + 1) (s + r + 1) (.app f [a, b]) := by
  refine ⟨Shp.app hf (by simp) fun k hk => ?_, NoRem.app (fun e => hf (by rw [e]; exact wMod_in)) fun k hk => ?_, fun y hy => ?_, ?_, ?_⟩
  · simp only [List.mem_cons, List.not_mem_nil, or_false] at hk
    rcases hk with e | e
    · rw [e]; exact h.shp
    · rw [e]; exact h'.shp
  · simp only [List.mem_cons, List.not_mem_nil, or_false] at hk
    rcases hk with e | e
    · rw [e]; exact h.rem
    · rw [e]; exact h'.rem
  · rw [Tm.vars_app] at hy
    simp only [List.flatMap_cons, List.flatMap_nil, List.append_nil, List.mem_append] at hy
    exact hy.elim (h.vars y) (h'.vars y)
  · rw [Tm.apps_app]
    have := h.apps
    have := h'.apps
    simp
    omega
  · rw [Tm.size_app]
    have := h.size
    have := h'.size
    simp
    omega
/-- a sum of two small numbers -/
theorem th_sum {N : List Str} {f : Str} {a b : Nat} (hf : f ≠ wMod) (ha : a < 3) (hb : b < 2) : Th N 1 3 (.app f [.num (a : Int), .num (b : Int)]) := by
  refine ⟨Shp.sum ⟨by omega, by omega⟩ ⟨by omega, by omega⟩, NoRem.app hf fun k hk => ?_, fun y hy => ?_, ?_, ?_⟩
  · simp only [List.mem_cons, List.not_mem_nil, or_false] at hk
    rcases hk with e | e
    · rw [e]; exact NoRem.num _
    · rw [e]; exact NoRem.num _
  · rw [Tm.vars_app] at hy
    simp [Tm.vars_num] at hy
  · rw [Tm.apps_app]
    simp [Tm.apps_num]
  · rw [Tm.size_app]
    simp [Tm.size_num]
end G35

/-! GLaw5 -/
set_option Elab.async false
set_option linter.all false
set_option maxRecDepth 100000
set_option maxHeartbeats 4000000
namespace G35
open PySem PySem.Spec PyProof.Rows L2
/-! ### _law_thing -/
theorem s_ifAny {σ : L2.St} {H : Hp} {te : TE} {tu tw : TS} {D : Ends} (h : te σ H fun x H1 => ∃ b, x = .bl b ∧ (if b = true then tu D σ H1 else tw D σ H1)) : tIfS (tTest te) tu tw D σ H := h
theorem iteB {b : Bool} {A B : Prop} (h1 : A) (h2 : B) : if b = true then A else B := by
  split <;> assumption
theorem rdT_tru {K : PySem.W.Frag} {σ : L2.St} {H : Hp} {te : TE} {b : Bool} (h : Rds te σ H (.bl b)) : RdT (fun σ H Q => te σ H fun x H' => ∃ k, TruV K x H' k ∧ Q k H') σ H b := fun Q q => h _ ⟨b, rfl, q⟩
/-- the names and the words as they stand -/
structure NW (H : Hp) (na wa : Addr) (N ws : List Str) : Prop where
  n : H na = some (.lst (N.map V.str))
  nl : N.length = 3
  w : H wa = some (.lst (ws.map V.str))
  wl : ws.length = 5
  ok : ∀ w ∈ ws, WOk w
theorem NW.sm {H H' : Hp} {na wa : Addr} {N ws : List Str} (h : NW H na wa N ws) (s : Same H H') : NW H' na wa N ws := ⟨s _ _ h.n, h.nl, s _ _ h.w, h.wl, h.ok⟩
def spThing : Sp := fun vs H Q _ => ∃ (c : Int) (na wa : Addr) (N ws : List Str) (often : Nat) (deep : Bool), vs = [.int c, .ref na, .ref wa, .int (often : Int), .bl deep] ∧ NW H na wa N ws ∧
  ∀ t v H', Same H H' → RepT H' t v → Th N (if deep then 2 else 1) (if deep then 3 else 1) t → Q v H'
section
variable {P : Program} {w : World} {K : PySem.W.Frag} {mg : Str → Option Value} {base : Heap}
theorem sc_thing : FnScope ["_law_cell", "_law_names_here", "_law_words_here", "_law_often", "_law_deep", "_law_kind", "_law_name", "_law_some", "_law_thing_here"] ["_law_cell", "_law_names_here", "_law_words_here", "_law_often", "_law_deep"] d_law_thing.scope := ⟨rfl, rfl, rfl, by decide +kernel, rfl, by decide +kernel, by decide +kernel⟩
theorem ok_thing (T : T35 K mg) : Cl P w K mg base CX0 2 "_law_thing" ["_law_cell", "_law_names_here", "_law_words_here", "_law_often", "_law_deep"] spThing := by
  have cP := ok_pick (P := P) (w := w) (base := base) T
  refine cl_of (d := d_law_thing) T 33 rfl rfl rfl rfl sc_thing (fun vs H Q E h => ?_) (fun _ _ _ _ _ _ us hl => match us, hl with | [_, _, _, _, _], _ => rfl) (fun cdv A outer s0 H vs Q E hr h => ?_)
  · obtain ⟨c, na, wa, N, ws, often, deep, rfl, _⟩ := h
    rfl
  · obtain ⟨c, na, wa, N, ws, often, deep, rfl, nw, k⟩ := h
    refine ⟨_, (pss_cons (ps_set (i := 5) sc_thing.nd rfl (Or.inl rfl) (pe_cl cP hr (by omega) rfl (pa_cons (pv 0) (pa_cons pe_int (pa_cons pe_int pa_nil))))) (pss_cons (ps_set (i := 6) sc_thing.nd rfl (Or.inl rfl) (pe_tup (pa_cons pe_str (pa_cons (pe_ix ix_list (pv 1) (pe_cl cP hr (by omega) rfl (pa_cons (pv 0) (pa_cons pe_int (pa_cons pe_int pa_nil)))) (fun _ _ => rfl)) pa_nil)))) (pss_cons (ps_if (pt_cmpR op_lt (pv 5) (pv 3) (nomark _)) (pss_one (ps_ret (pv 6))) pss_nil) (pss_cons (ps_set (i := 7) sc_thing.nd rfl (Or.inl rfl) (pe_lst (pa_cons (pe_tup (pa_cons pe_str (pa_cons (pe_ix ix_list (pv 2) pe_int (fun _ _ => rfl)) (pa_cons (pe_tup pa_nil) pa_nil)))) (pa_cons (pe_tup (pa_cons pe_str (pa_cons (pe_ix ix_list (pv 2) pe_int (fun _ _ => rfl)) (pa_cons (pe_tup pa_nil) pa_nil)))) pa_nil)))) (pss_cons (ps_expr (pe_bm PySem.F.plainAttrs_list PySem.F.slot_list_append PySem.F.type_list_append mt_append (pv 7) (pa_cons (pe_tup (pa_cons pe_str (pa_cons (pe_ix ix_list (pe_lst (pa_cons (pe_cl cP hr (by omega) rfl (pa_cons (pv 0) (pa_cons pe_int (pa_cons pe_int pa_nil)))) (pa_cons (pe_cl cP hr (by omega) rfl (pa_cons (pv 0) (pa_cons pe_int (pa_cons (pe_op op_pow pe_int pe_int) pa_nil)))) pa_nil))) (pe_cl cP hr (by omega) rfl (pa_cons (pv 0) (pa_cons pe_int (pa_cons pe_int pa_nil)))) (fun _ _ => rfl)) pa_nil))) pa_nil))) (pss_cons (ps_set (i := 8) sc_thing.nd rfl (Or.inl rfl) (pe_ix ix_list (pv 7) (pe_cl cP hr (by omega) rfl (pa_cons (pv 0) (pa_cons pe_int (pa_cons pe_int pa_nil)))) (fun _ _ => rfl))) (pss_cons (ps_if (PW.pt (pw_and (pt_cmpR op_eq (pv 5) pe_int (nomark _)) (pw_and1 (pt_truth (pv 4) (fun _ => rfl))))) (pss_cons (ps_if (pt_cmpR op_eq (pe_cl cP hr (by omega) rfl (pa_cons (pv 0) (pa_cons pe_int (pa_cons pe_int pa_nil)))) pe_int (nomark _)) (pss_one (ps_ret (pe_tup (pa_cons pe_str (pa_cons pe_str (pa_cons (pe_tup (pa_cons (pv 8) (pa_cons (pv 6) pa_nil))) pa_nil)))))) pss_nil) (pss_one (ps_ret (pe_tup (pa_cons pe_str (pa_cons (pe_ix ix_list (pv 2) pe_int (fun _ _ => rfl)) (pa_cons (pe_tup (pa_cons (pe_ix ix_list (pe_lst (pa_cons (pv 8) (pa_cons (pv 6) pa_nil))) (pe_cl cP hr (by omega) rfl (pa_cons (pv 0) (pa_cons pe_int (pa_cons pe_int pa_nil)))) (fun _ _ => rfl)) pa_nil)) pa_nil))))))) pss_nil) (pss_one (ps_ret (pv 8)))))))))), ?_⟩
    have hwl := nw.wl
    have hnl := nw.nl
    refine s_asg (x_cl (sp := spPick) (ra_cons (rd_var rfl) (ra_cons rd_c (ra_cons rd_c ra_nil))) ⟨c, 0, 8, rfl, by omega, by omega, fun kd hkd => ?_⟩)
    refine s_asg (tm_any (st_ix rfl nw.n (by rw [nw.nl]; exact nt_pick (c := c) (k := 1) (m := 3) (fun _ => rd_var rfl) (by omega) (by omega) (fun _ => rd_c) (fun _ => rd_c))) H (Same.refl _) _ fun tn vn H1 s1 rn fn => ?_)
    obtain ⟨x, hx, rfl⟩ := fn
    have thn := th_any hx
    refine s_if (rdT_test (rd_I0 (g := fun i j => .bl (decide (i < j))) (rd_var rfl) (rd_var rfl))) (fun _ => ?_) fun _ => ?_
    · exact s_ret (rd_var rfl) (k _ _ _ s1 rn (thn.mono (by omega) (by split <;> omega)))
    · refine s_asg (x_lstc (tm_app0 (st_ix rfl (s1 _ _ nw.w) ((nt_c (n := 3)).imp fun n e => by omega)) H1 (Same.refl _) _ fun t1 v1 H2 s2 r1 f1 => x_c (tm_app0 (st_ix rfl (s1 _ _ nw.w) ((nt_c (n := 4)).imp fun n e => by omega)) H2 s2 _ fun t2 v2 H3 s3 r2 f2 => ⟨sz (by simp), fun S hS => ?_⟩)))
      obtain ⟨f1, hf1, rfl⟩ := f1
      obtain ⟨f2, hf2, rfl⟩ := f2
      have s4 := same_new (o := HO.lst [v1, v2]) hS
      refine s_push (rd_var (i := 7) rfl) upd_same (tm_num (nt_two (nt_pick (c := c) (k := 2) (m := 3) (fun _ => rd_var rfl) (by omega) (by omega) (fun _ => rd_c) (fun _ => rd_c)) (nt_pick (c := c) (k := 8) (m := 10 ^ 30) (fun _ => rd_var rfl) (by omega) (Nat.pow_pos (by omega)) (fun _ => rd_c) (fun _ => rd_I (C := CPow) (g := fun i j => .int (i ^ j.toNat)) rd_c rd_c ⟨by decide, by decide, by decide⟩)) (nt_pick (c := c) (k := 3) (m := 2) (fun _ => rd_var rfl) (by omega) (by omega) (fun _ => rd_c) (fun _ => rd_c))) _ (Same.refl _) _ fun t3 v3 H5 s5 r3 f3 => ?_)
      obtain ⟨n3, _, rfl⟩ := f3
      have hS5 := s5 _ _ (upd_same (H := H3) (a := S) (o := HO.lst [v1, v2]))
      refine ⟨S, _, v3, rfl, rfl, hS5, szl (by simp), ?_⟩
      have s36 : Same H3 (upd H5 S (.lst ([v1, v2] ++ [v3]))) := same_mut (s4.trans s5) hS
      have tx := tupex_ls (o := .lst ([v1, v2] ++ [v3])) hS5
      have S6 : Same H (upd H5 S (.lst ([v1, v2] ++ [v3]))) := ((s1.trans s2).trans s3).trans s36
      have h6 : (upd H5 S (.lst ([v1, v2] ++ [v3]))) S = some (.lst ([v1, v2] ++ [v3])) := upd_same
      have r1' := r1.ex (.of (s3.trans s36))
      have r2' := r2.ex (.of s36)
      have r3' := r3.ex tx
      have rn' := rn.ex (.of ((s2.trans s3).trans s36))
      generalize hH6 : upd H5 S (.lst ([v1, v2] ++ [v3])) = H6 at S6 h6 r1' r2' r3' rn' ⊢
      have pickd : ∀ r, r < 3 → ∃ t v, [v1, v2, v3][r]? = some v ∧ RepT H6 t v ∧ Th N 1 1 t := fun r hr => match r, hr with
        | 0, _ => ⟨_, v1, rfl, r1', th_app0 (nw.ok _ hf1).notSum⟩
        | 1, _ => ⟨_, v2, rfl, r2', th_app0 (nw.ok _ hf2).notSum⟩
        | 2, _ => ⟨_, v3, rfl, r3', th_num.mono (by omega) (Nat.le_refl _)⟩
      refine ⟨.ref S, rfl, _, rfl, c, 4, 3, rfl, by omega, by omega, fun r hr => ?_⟩
      obtain ⟨t, v, htv, hrt, hth⟩ := pickd r hr
      refine ⟨S, _, (r : Int), v, rfl, rfl, SqL.of h6, atI_nat htv, ?_⟩
      refine s_if (rdT_and (rdT_test (rd_eqI (rd_var rfl) rd_c)) fun _ => rdT_tru (rd_var rfl)) (fun z => ?_) fun _ => ?_
      · have hdeep : deep = true := (Bool.and_eq_true_iff.mp z).2
        subst hdeep
        refine ⟨_, rfl, c, 5, 2, rfl, by omega, by omega, fun r2 hr2 => ⟨rfl, _, rfl, ?_⟩⟩
        refine iteB ?_ ?_
        · refine tm_app2 (st_c (z := "[|]")) (tm_var rfl hrt) (tm_var rfl rn') H6 (Same.refl _) _ fun u vu H7 s7 ru fu => ?_
          obtain ⟨f, a, b, rfl, rfl, rfl, rfl⟩ := fu
          have hns : (Str.ofString "[|]") ∉ sumW := by decide +kernel
          exact k _ _ _ (S6.trans s7) ru ((th_app2 hns hth thn).mono (Nat.le_refl _) (Nat.le_refl _))
        · refine tm_app1 (st_ix rfl (S6 _ _ nw.w) ((nt_c (n := 4)).imp fun n e => by omega)) (tm_two (tm_var rfl hrt) (tm_var rfl rn') (nt_pick (c := c) (k := 6) (m := 2) (fun _ => rd_var rfl) (by omega) (by omega) (fun _ => rd_c) (fun _ => rd_c))) H6 (Same.refl _) _ fun u vu H7 s7 ru fu => ?_
          obtain ⟨f, a, hf, ha, rfl⟩ := fu
          have hna : Th N 1 1 a := by
            rcases ha with rfl | rfl
            · exact hth
            · exact thn.mono (by omega) (Nat.le_refl _)
          exact k _ _ _ (S6.trans s7) ru ((th_app1 (nw.ok _ hf).notSum hna).mono (Nat.le_refl _) (by decide))
      · exact s_ret (rd_var rfl) (k _ _ _ S6 hrt (hth.mono (by split <;> omega) (by split <;> omega)))
end
end G35

/-! GLaw6 -/
set_option Elab.async false
set_option linter.all false
set_option maxRecDepth 100000
set_option maxHeartbeats 4000000
namespace G35
open PySem PySem.Spec PyProof.Rows L2
/-! ### _law_deed_goal, _law_goal -/
section
variable {K : PySem.W.Frag} {σ : L2.St} {H0 : Hp} {ta tb ts ti tc : TE} {Φ Ψ : PT → Prop} {φ ψ : Nat → Prop} {ρ : Str → Prop}
theorem tm_thing {c : Int} {na wa : Addr} {N ws : List Str} {often : Nat} {deep : Bool} (nw : NW H0 na wa N ws) (h1 : ∀ H, Rds ta σ H (.int c)) {t2 t3 t4 t5 : TE} (h2 : ∀ H, Rds t2 σ H (.ref na)) (h3 : ∀ H, Rds t3 σ H (.ref wa)) (h4 : ∀ H, Rds t4 σ H (.int (often : Int))) (h5 : ∀ H, Rds t5 σ H (.bl deep)) :
    Tms (tCall spThing [] E0 (tCons ta (tCons t2 (tCons t3 (tCons t4 (tCons t5 tNil)))))) σ H0 (Th N (if deep then 2 else 1) (if deep then 3 else 1)) := fun H hS Q q =>
  x_cl (sp := spThing) (ra_cons (h1 H) (ra_cons (h2 H) (ra_cons (h3 H) (ra_cons (h4 H) (ra_cons (h5 H) ra_nil))))) ⟨c, na, wa, N, ws, often, deep, rfl, nw.sm hS, fun t v H' s r f => q t v H' s r f⟩
theorem nt_eq0 (h : Nats ta σ H0 φ) : Nats (tCB (fun xs H Q => (∃ i, xs = [V.int i] ∧ Q (.int i) H) ∨ ∃ k, xs = [V.bl k] ∧ Q (.int (if k = true then 1 else 0)) H) (tCons (tOp rEq ta (tC (.int 0))) tNil)) σ H0 fun n => n < 2 := fun H hS Q q => by
  refine x_op (h H hS _ fun n H' s f => ⟨rfl, .inr ⟨_, rfl, ?_⟩⟩)
  by_cases hb : decide (V.int (n : Int) = V.int 0) = true
  · rw [if_pos hb]
    exact q 1 H' s (by omega)
  · rw [if_neg hb]
    exact q 0 H' s (by omega)
theorem nt_min (h : Nats ta σ H0 φ) : Nats (tCB (fun xs H Q => ∃ i j, xs = [V.int i, V.int j] ∧ Q (.int (if j < i then j else i)) H) (tCons (tC (.int 1)) (tCons ta tNil))) σ H0 fun n => n < 2 := fun H hS Q q => by
  refine h H hS _ fun n H' s f => ⟨1, (n : Int), rfl, ?_⟩
  by_cases hb : (n : Int) < 1
  · rw [if_pos hb]
    exact q n H' s (by omega)
  · rw [if_neg hb]
    exact q 1 H' s (by omega)
theorem nt_add {k : Nat} (h : Nats ta σ H0 φ) : Nats (tOp (rI0 fun i j => .int (i + j)) (tC (.int (k : Int))) ta) σ H0 fun n => ∃ m, φ m ∧ n = k + m := fun H hS Q q =>
  h H hS _ fun n H' s f => ⟨(k : Int), (n : Int), rfl, rfl, q (k + n) H' s ⟨n, f, rfl⟩⟩
theorem tm_appT {i : Nat} {p : Addr} {ks : List PT} {vs : List V} (h : Strs ts σ H0 ρ) (hi : σ[i]? = some (some (.ref p))) (hp : H0 p = some (.tup vs)) (hr : RepL H0 ks vs) : Tms (tTup (tCons (tC (.str "app")) (tCons ts (tCons (tVar i) tNil)))) σ H0 fun t => ∃ f, ρ f ∧ t = .app f ks := fun H hS Q q => by
  refine x_tupk (x_c (h H hS _ fun n H1 s1 f1 => ⟨.ref p, hi, sz (by simp), fun q' hq' => ?_⟩))
  have s2 := same_new (o := HO.tup [.str "app", .str n, .ref p]) hq'
  exact q (.app n ks) _ _ (s1.trans s2) ⟨q', p, vs, rfl, upd_same, s2 _ _ (s1 _ _ (hS _ _ hp)), hr.ex (.of ((hS.trans s1).trans s2))⟩ ⟨n, f1, rfl⟩
end
theorem rd_div64 {σ : L2.St} {H : Hp} {te : TE} {c : Int} {n : Nat} (hn : n < 1000) (h : Rds te σ H (.int c)) : Rds (tOp (rI CDivW fun i j => .int (i / j)) te (tOp (rI CPow fun i j => .int (i ^ j.toNat)) (tC (.int 64)) (tC (.int (n : Int))))) σ H (.int (c / 64 ^ (n : Int).toNat)) := by
  refine rd_I (g := fun i j => .int (i / j)) h (rd_I (g := fun i j => .int (i ^ j.toNat)) rd_c rd_c ⟨by omega, by omega, by decide⟩) ?_
  have e : (64 : Int) ^ (n : Int).toNat = ((2 ^ (6 * n) : Nat) : Int) := by
    rw [Int.toNat_natCast, Nat.pow_mul]
    rfl
  rw [e]
  refine ⟨?_, ?_⟩
  · have : 0 < 2 ^ (6 * n) := Nat.pow_pos (by omega)
    omega
  · rw [Int.natAbs_natCast, Nat.log2_two_pow]
    omega
structure GO (N : List Str) (t : PT) : Prop where
  th : Th N 4 7 t
  ok : GoalOk t
theorem th_deed {N : List Str} {f : Str} {a b : PT} (hf : f ∈ deedW) (h : Th N 1 1 a) {n s : Nat} (h' : Th N n s b) (hn : n ≤ 2) (hs : s ≤ 3) : GO N (.app f [a, b]) := by
  have hns : ∀ g ∈ deedW, g ∉ sumW := by decide +kernel
  exact ⟨(th_app2 (hns f hf) h h').mono (by omega) (by omega), f, [a, b], rfl, .inr (.inr (.inl ⟨hf, a, b, rfl⟩))⟩
def spDGoal : Sp := fun vs H Q _ => ∃ (c : Int) (na wa : Addr) (N ws : List Str), vs = [.int c, .ref na, .ref wa] ∧ NW H na wa N ws ∧ ∀ t v H', Same H H' → RepT H' t v → GO N t → Q v H'
section
variable {P : Program} {w : World} {K : PySem.W.Frag} {mg : Str → Option Value} {base : Heap}
theorem sc_dgoal : FnScope ["_law_cell", "_law_names_here", "_law_words_here", "_law_kind", "_law_one_here", "_law_numbers", "_law_total", "_law_left", "_law_thing_here"] ["_law_cell", "_law_names_here", "_law_words_here"] d_law_deed_goal.scope := ⟨rfl, rfl, rfl, by decide +kernel, rfl, by decide +kernel, by decide +kernel⟩
theorem sc_goal : FnScope ["_law_cell", "_law_names_here", "_law_words_here", "_law_one_here", "_law_other", "_law_kind"] ["_law_cell", "_law_names_here", "_law_words_here"] d_law_goal.scope := ⟨rfl, rfl, rfl, by decide +kernel, rfl, by decide +kernel, by decide +kernel⟩
theorem ok_dgoal (T : T35 K mg) : Cl P w K mg base CX0 3 "_law_deed_goal" ["_law_cell", "_law_names_here", "_law_words_here"] spDGoal := by
  have cP := ok_pick (P := P) (w := w) (base := base) T
  have cT := ok_thing (P := P) (w := w) (base := base) T
  refine cl_of (d := d_law_deed_goal) T 34 rfl rfl rfl rfl sc_dgoal (fun vs H Q E h => ?_) (fun _ _ _ _ _ _ us hl => match us, hl with | [_, _, _], _ => rfl) (fun cdv A outer s0 H vs Q E hr h => ?_)
  · obtain ⟨c, na, wa, N, ws, rfl, _⟩ := h
    rfl
  · obtain ⟨c, na, wa, N, ws, rfl, nw, k⟩ := h
    refine ⟨_, (pss_cons (ps_set (i := 3) sc_dgoal.nd rfl (Or.inl rfl) (pe_cl cP hr (by omega) rfl (pa_cons (pv 0) (pa_cons pe_int (pa_cons pe_int pa_nil))))) (pss_cons (ps_set (i := 4) sc_dgoal.nd rfl (Or.inl rfl) (pe_cl cT hr (by omega) rfl (pa_cons (pe_op op_fdivW (pv 0) (pe_op op_pow pe_int pe_int)) (pa_cons (pv 1) (pa_cons (pv 2) (pa_cons pe_int (pa_cons pe_bl pa_nil))))))) (pss_cons (ps_set (i := 5) sc_dgoal.nd rfl (Or.inl rfl) (pe_tup (pa_cons (pe_tup (pa_cons pe_str (pa_cons (pe_cl cP hr (by omega) rfl (pa_cons (pv 0) (pa_cons pe_int (pa_cons pe_int pa_nil)))) pa_nil))) (pa_cons (pe_tup (pa_cons pe_str (pa_cons (pe_cl cP hr (by omega) rfl (pa_cons (pv 0) (pa_cons pe_int (pa_cons pe_int pa_nil)))) pa_nil))) pa_nil)))) (pss_cons (ps_set (i := 6) sc_dgoal.nd rfl (Or.inl rfl) (pe_tup (pa_cons pe_str (pa_cons (pe_ix ix_list (pe_lst (pa_cons pe_str (pa_cons pe_str (pa_cons pe_str (pa_cons pe_str pa_nil))))) (pe_cl cP hr (by omega) rfl (pa_cons (pv 0) (pa_cons pe_int (pa_cons pe_int pa_nil)))) (fun _ _ => rfl)) (pa_cons (pv 5) pa_nil))))) (pss_cons (ps_if (pt_cmpR op_eq (pv 3) pe_int (nomark _)) (pss_one (ps_ret (pe_tup (pa_cons pe_str (pa_cons pe_str (pa_cons (pe_tup (pa_cons (pv 4) (pa_cons (pe_cl cT hr (by omega) rfl (pa_cons (pe_op op_fdivW (pv 0) (pe_op op_pow pe_int pe_int)) (pa_cons (pv 1) (pa_cons (pv 2) (pa_cons pe_int (pa_cons pe_bl pa_nil)))))) pa_nil))) pa_nil)))))) pss_nil) (pss_cons (ps_if (pt_cmpR op_eq (pv 3) pe_int (nomark _)) (pss_one (ps_ret (pe_tup (pa_cons pe_str (pa_cons pe_str (pa_cons (pe_tup (pa_cons (pv 4) (pa_cons (pv 6) pa_nil))) pa_nil)))))) pss_nil) (pss_cons (ps_if (pt_cmpR op_eq (pv 3) pe_int (nomark _)) (pss_cons (ps_set (i := 7) sc_dgoal.nd rfl (Or.inl rfl) (pe_ix ix_list (pe_lst (pa_cons (pe_tup (pa_cons pe_str (pa_cons (pe_cl cP hr (by omega) rfl (pa_cons (pv 0) (pa_cons pe_int (pa_cons pe_int pa_nil)))) pa_nil))) (pa_cons (pv 4) pa_nil))) (pe_callTy call_int1 rfl (T.free 12 _ rfl) PyProof.Rows.boot_int (pa_cons (pe_cmpR op_eq (pe_cl cP hr (by omega) rfl (pa_cons (pv 0) (pa_cons pe_int (pa_cons pe_int pa_nil)))) pe_int (nomark _)) pa_nil)) (fun _ _ => rfl))) (pss_one (ps_ret (pe_tup (pa_cons pe_str (pa_cons (pe_ix ix_list (pe_lst (pa_cons pe_str (pa_cons pe_str pa_nil))) (pe_cl cP hr (by omega) rfl (pa_cons (pv 0) (pa_cons pe_int (pa_cons pe_int pa_nil)))) (fun _ _ => rfl)) (pa_cons (pe_tup (pa_cons (pv 7) (pa_cons (pv 6) pa_nil))) pa_nil))))))) pss_nil) (pss_cons (ps_if (pt_cmpR op_eq (pv 3) pe_int (nomark _)) (pss_cons (ps_set (i := 8) sc_dgoal.nd rfl (Or.inl rfl) (pe_ix ix_list (pe_lst (pa_cons (pv 4) (pa_cons (pe_tup (pa_cons pe_str (pa_cons (pe_ix ix_list (pv 2) (pe_op op_add pe_int (pe_cl cP hr (by omega) rfl (pa_cons (pv 0) (pa_cons pe_int (pa_cons pe_int pa_nil))))) (fun _ _ => rfl)) (pa_cons (pe_tup pa_nil) pa_nil)))) pa_nil))) (pe_callB (call_min2 rfl) rfl (T.free 13 _ rfl) PyProof.Rows.boot_min (pa_cons pe_int (pa_cons (pe_cl cP hr (by omega) rfl (pa_cons (pv 0) (pa_cons pe_int (pa_cons pe_int pa_nil)))) pa_nil))) (fun _ _ => rfl))) (pss_one (ps_ret (pe_tup (pa_cons pe_str (pa_cons pe_str (pa_cons (pe_tup (pa_cons (pe_tup (pa_cons pe_str (pa_cons (pe_ix ix_list (pv 2) pe_int (fun _ _ => rfl)) (pa_cons (pe_tup (pa_cons (pv 8) pa_nil)) pa_nil)))) pa_nil)) pa_nil))))))) pss_nil) (pss_one (ps_ret (pe_tup (pa_cons pe_str (pa_cons pe_str (pa_cons (pe_tup pa_nil) pa_nil)))))))))))))), ?_⟩
    have hwl := nw.wl
    have hnl := nw.nl
    refine s_asg (x_cl (sp := spPick) (ra_cons (rd_var rfl) (ra_cons rd_c (ra_cons rd_c ra_nil))) ⟨c, 0, 5, rfl, by omega, by omega, fun kd hkd => ?_⟩)
    have dv : ∀ (n : Nat) (σ : L2.St) (H : Hp), n < 1000 → σ[0]? = some (some (.int c)) → Rds (tOp (rI CDivW fun i j => .int (i / j)) (tVar 0) (tOp (rI CPow fun i j => .int (i ^ j.toNat)) (tC (.int 64)) (tC (.int (n : Int))))) σ H (.int (c / 64 ^ (n : Int).toNat)) := fun n σ H hn h0 => rd_div64 hn (rd_var h0)
    refine s_asg (tm_thing (deep := false) (often := 6) nw (fun _ => dv 8 _ _ (by omega) rfl) (fun _ => rd_var rfl) (fun _ => rd_var rfl) (fun _ => rd_c) (fun _ => rd_c) H (Same.refl _) _ fun one v1 H1 s1 r1 th1 => ?_)
    have nw1 := nw.sm s1
    have th1 : Th N 1 1 one := th1
    refine s_asg (x_tupc (tm_num (nt_pick (c := c) (k := 2) (m := 3) (fun _ => rd_var rfl) (by omega) (by omega) (fun _ => rd_c) (fun _ => rd_c)) H1 (Same.refl _) _ fun ta va H2 s2 ra fa => x_c (tm_num (nt_pick (c := c) (k := 3) (m := 2) (fun _ => rd_var rfl) (by omega) (by omega) (fun _ => rd_c) (fun _ => rd_c)) H2 (Same.refl _) _ fun tb vb H3 s3 rb fb => ⟨sz (by simp), fun pn hpn => ?_⟩)))
    obtain ⟨na', ha, rfl⟩ := fa
    obtain ⟨nb', hb, rfl⟩ := fb
    have s4 := same_new (o := HO.tup [va, vb]) hpn
    have s14 := (s2.trans s3).trans s4
    have hL : RepL (upd H3 pn (.tup [va, vb])) [.num (na' : Int), .num (nb' : Int)] [va, vb] := .cons (ra.ex (.of (s3.trans s4))) (.cons (rb.ex (.of s4)) RepL.nil)
    refine s_asg (tm_appT (st_pick (ws := ["+", "-", "*", "/"]) (fun _ => ra_cons rd_c (ra_cons rd_c (ra_cons rd_c (ra_cons rd_c ra_nil)))) (by simp) (nt_pick (c := c) (k := 1) (m := 4) (fun _ => rd_var rfl) (by omega) (by omega) (fun _ => rd_c) (fun _ => rd_c))) rfl upd_same hL _ (Same.refl _) _ fun tt vt H5 s5 rt ft => ?_)
    obtain ⟨fs, hfs, rfl⟩ := ft
    have hfs2 : ∀ f ∈ (["+", "-", "*", "/"] : List Str), f ≠ wMod := by decide +kernel
    have thT : Th N 1 3 (.app fs [.num (na' : Int), .num (nb' : Int)]) := by
      have hsum := hfs2 fs hfs
      exact th_sum hsum ha hb
    have s15 := s14.trans s5
    have S5 := s1.trans s15
    have nw5 := nw.sm S5
    have r1' := r1.ex (.of s15)
    have ret : ∀ {σ' : L2.St} {te : TE} {Φ : PT → Prop}, Tms te σ' H5 Φ → (∀ t, Φ t → GO N t) → tRet te { nx := fun _ H' => Q .non H', rt := Q } σ' H5 := fun h i => h H5 (Same.refl _) _ fun t v H' s r f => k t v H' (S5.trans s) r (i t f)
    refine s_if (rdT_test (rd_eqI (rd_var rfl) rd_c)) (fun _ => ?_) fun _ => ?_
    · refine ret (tm_app2 (st_c (z := "=")) (tm_var rfl r1') (tm_thing (deep := true) (often := 2) nw5 (fun _ => dv 34 _ _ (by omega) rfl) (fun _ => rd_var rfl) (fun _ => rd_var rfl) (fun _ => rd_c) (fun _ => rd_c))) ?_
      rintro t ⟨f, a, b, rfl, rfl, hb, rfl⟩
      exact th_deed (by decide +kernel) th1 (n := 2) (s := 3) hb (by omega) (by omega)
    refine s_if (rdT_test (rd_eqI (rd_var rfl) rd_c)) (fun _ => ?_) fun _ => ?_
    · refine ret (tm_app2 (st_c (z := ":=")) (tm_var rfl r1') (tm_var rfl rt)) ?_
      rintro t ⟨f, a, b, rfl, rfl, rfl, rfl⟩
      exact th_deed (by decide +kernel) th1 thT (by omega) (by omega)
    refine s_if (rdT_test (rd_eqI (rd_var rfl) rd_c)) (fun _ => ?_) fun _ => ?_
    · refine s_asg (tm_two (tm_num (nt_pick (c := c) (k := 4) (m := 3) (fun _ => rd_var rfl) (by omega) (by omega) (fun _ => rd_c) (fun _ => rd_c))) (tm_var rfl r1') (nt_eq0 (nt_pick (c := c) (k := 5) (m := 4) (fun _ => rd_var rfl) (by omega) (by omega) (fun _ => rd_c) (fun _ => rd_c))) H5 (Same.refl _) _ fun tl vl H6 s6 rl fl => ?_)
      have thl : Th N 1 1 tl := by
        rcases fl with ⟨n, _, rfl⟩ | rfl
        · exact th_num.mono (by omega) (Nat.le_refl _)
        · exact th1
      refine tm_app2 (st_pick (ws := ["<", "<="]) (fun _ => ra_cons rd_c (ra_cons rd_c ra_nil)) (by simp) (nt_pick (c := c) (k := 6) (m := 2) (fun _ => rd_var rfl) (by omega) (by omega) (fun _ => rd_c) (fun _ => rd_c))) (tm_var rfl rl) (tm_var rfl (rt.ex (.of s6))) H6 (Same.refl _) _ fun t v H' s r f => k t v H' ((S5.trans s6).trans s) r ?_
      obtain ⟨f, a, b, hf, rfl, rfl, rfl⟩ := f
      have hfd : ∀ f ∈ (["<", "<="] : List Str), f ∈ deedW := by decide +kernel
      exact th_deed (hfd f hf) thl thT (by omega) (by omega)
    refine s_if (rdT_test (rd_eqI (rd_var rfl) rd_c)) (fun _ => ?_) fun _ => ?_
    · refine s_asg (tm_two (tm_var rfl r1') (tm_app0 (st_ix rfl nw5.w ((nt_add (k := 3) (nt_pick (c := c) (k := 4) (m := 2) (fun _ => rd_var rfl) (by omega) (by omega) (fun _ => rd_c) (fun _ => rd_c))).imp fun n e => by
        obtain ⟨m, h1, h2⟩ := e
        omega))) (nt_min (nt_pick (c := c) (k := 5) (m := 5) (fun _ => rd_var rfl) (by omega) (by omega) (fun _ => rd_c) (fun _ => rd_c))) H5 (Same.refl _) _ fun tl vl H6 s6 rl fl => ?_)
      have thl : Th N 1 1 tl := by
        rcases fl with rfl | ⟨f, hf, rfl⟩
        · exact th1
        · exact th_app0 (nw.ok _ hf).notSum
      refine tm_app1 (st_c (z := "not")) (tm_app1 (st_ix rfl (nw5.sm s6).w ((nt_c (n := 2)).imp fun n e => by omega)) (tm_var rfl rl)) H6 (Same.refl _) _ fun t v H' s r f => k t v H' ((S5.trans s6).trans s) r ?_
      obtain ⟨f, a, rfl, ⟨g, b, hg, rfl, rfl⟩, rfl⟩ := f
      have wo := nw.ok _ hg
      refine ⟨(th_app1 (by decide +kernel) (th_app1 wo.notSum thl)).mono (by omega) (by omega), wNot, [.app g [b]], rfl, .inr (.inl ⟨rfl, g, [b], rfl, wo.named⟩)⟩
    · refine ret (tm_app0 (st_c (z := "keep"))) ?_
      rintro t ⟨f, rfl, rfl⟩
      exact ⟨(th_app0 (by decide +kernel)).mono (by omega) (by omega), wKeep, [], rfl, .inl ⟨rfl, rfl⟩⟩
theorem ok_goal (T : T35 K mg) : Cl P w K mg base CX0 4 "_law_goal" ["_law_cell", "_law_names_here", "_law_words_here"] spDGoal := by
  have cP := ok_pick (P := P) (w := w) (base := base) T
  have cT := ok_thing (P := P) (w := w) (base := base) T
  have cD := ok_dgoal (P := P) (w := w) (base := base) T
  refine cl_of (d := d_law_goal) T 35 rfl rfl rfl rfl sc_goal (fun vs H Q E h => ?_) (fun _ _ _ _ _ _ us hl => match us, hl with | [_, _, _], _ => rfl) (fun cdv A outer s0 H vs Q E hr h => ?_)
  · obtain ⟨c, na, wa, N, ws, rfl, _⟩ := h
    rfl
  · obtain ⟨c, na, wa, N, ws, rfl, nw, k⟩ := h
    refine ⟨_, (pss_cons (ps_set (i := 3) sc_goal.nd rfl (Or.inl rfl) (pe_cl cT hr (by omega) rfl (pa_cons (pe_op op_fdiv (pv 0) pe_int) (pa_cons (pv 1) (pa_cons (pv 2) (pa_cons pe_int (pa_cons pe_bl pa_nil))))))) (pss_cons (ps_set (i := 4) sc_goal.nd rfl (Or.inl rfl) (pe_cl cT hr (by omega) rfl (pa_cons (pe_op op_fdivW (pv 0) (pe_op op_pow pe_int pe_int)) (pa_cons (pv 1) (pa_cons (pv 2) (pa_cons pe_int (pa_cons pe_bl pa_nil))))))) (pss_cons (ps_set (i := 5) sc_goal.nd rfl (Or.inl rfl) (pe_cl cP hr (by omega) rfl (pa_cons (pv 0) (pa_cons pe_int (pa_cons pe_int pa_nil))))) (pss_cons (ps_if (pt_cmpR op_lt (pv 5) pe_int (nomark _)) (pss_one (ps_ret (pe_cl cD hr (by omega) rfl (pa_cons (pe_op op_fdiv (pv 0) pe_int) (pa_cons (pv 1) (pa_cons (pv 2) pa_nil)))))) pss_nil) (pss_cons (ps_if (pt_cmpR op_lt (pv 5) pe_int (nomark _)) (pss_one (ps_ret (pe_tup (pa_cons pe_str (pa_cons (pe_ix ix_list (pv 2) pe_int (fun _ _ => rfl)) (pa_cons (pe_tup (pa_cons (pv 3) (pa_cons (pv 4) pa_nil))) pa_nil)))))) pss_nil) (pss_one (ps_ret (pe_tup (pa_cons pe_str (pa_cons (pe_ix ix_list (pv 2) (pe_op op_mul pe_int (pe_callTy call_int1 rfl (T.free 12 _ rfl) PyProof.Rows.boot_int (pa_cons (pe_cmpR op_lt (pv 5) pe_int (nomark _)) pa_nil))) (fun _ _ => rfl)) (pa_cons (pe_tup (pa_cons (pv 3) pa_nil)) pa_nil))))))))))), ?_⟩
    have hwl := nw.wl
    have dv0 : ∀ (σ : L2.St) (H : Hp), σ[0]? = some (some (.int c)) → Rds (tOp (rI CDiv fun i j => .int (i / j)) (tVar 0) (tC (.int 64))) σ H (.int (c / 64)) := fun σ H h0 => rd_I (g := fun i j => .int (i / j)) (rd_var h0) rd_c ⟨by omega, by omega⟩
    have dv : ∀ (n : Nat) (σ : L2.St) (H : Hp), n < 1000 → σ[0]? = some (some (.int c)) → Rds (tOp (rI CDivW fun i j => .int (i / j)) (tVar 0) (tOp (rI CPow fun i j => .int (i ^ j.toNat)) (tC (.int 64)) (tC (.int (n : Int))))) σ H (.int (c / 64 ^ (n : Int).toNat)) := fun n σ H hn h0 => rd_div64 hn (rd_var h0)
    refine s_asg (tm_thing (deep := false) (often := 6) nw (fun _ => dv0 _ _ rfl) (fun _ => rd_var rfl) (fun _ => rd_var rfl) (fun _ => rd_c) (fun _ => rd_c) H (Same.refl _) _ fun one v1 H1 s1 r1 th1 => ?_)
    have nw1 := nw.sm s1
    have th1 : Th N 1 1 one := th1
    refine s_asg (tm_thing (deep := true) (often := 6) nw1 (fun _ => dv 27 _ _ (by omega) rfl) (fun _ => rd_var rfl) (fun _ => rd_var rfl) (fun _ => rd_c) (fun _ => rd_c) H1 (Same.refl _) _ fun oth v2 H2 s2 r2 th2 => ?_)
    have th2 : Th N 2 3 oth := th2
    have S2 := s1.trans s2
    have nw2 := nw.sm S2
    have r1' := r1.ex (.of s2)
    refine s_asg (x_cl (sp := spPick) (ra_cons (rd_var rfl) (ra_cons rd_c (ra_cons rd_c ra_nil))) ⟨c, 0, 11, rfl, by omega, by omega, fun kd hkd => ?_⟩)
    have ret : ∀ {σ' : L2.St} {te : TE} {Φ : PT → Prop}, Tms te σ' H2 Φ → (∀ t, Φ t → GO N t) → tRet te { nx := fun _ H' => Q .non H', rt := Q } σ' H2 := fun h i => h H2 (Same.refl _) _ fun t v H' s r f => k t v H' (S2.trans s) r (i t f)
    refine s_if (rdT_test (rd_I0 (g := fun i j => .bl (decide (i < j))) (rd_var rfl) rd_c)) (fun _ => ?_) fun _ => ?_
    · exact x_cl (sp := spDGoal) (ra_cons (dv0 _ _ rfl) (ra_cons (rd_var rfl) (ra_cons (rd_var rfl) ra_nil))) ⟨c / 64, na, wa, N, ws, rfl, nw2, fun t v H' s r f => k t v H' (S2.trans s) r f⟩
    refine s_if (rdT_test (rd_I0 (g := fun i j => .bl (decide (i < j))) (rd_var rfl) rd_c)) (fun _ => ?_) fun _ => ?_
    · refine ret (tm_app2 (st_ix rfl nw2.w ((nt_c (n := 1)).imp fun n e => by omega)) (tm_var rfl r1') (tm_var rfl r2)) ?_
      rintro t ⟨f, a, b, hf, rfl, rfl, rfl⟩
      exact ⟨(th_app2 (nw.ok _ hf).notSum th1 th2).mono (by omega) (by omega), f, [a, b], rfl, .inr (.inr (.inr (nw.ok _ hf).named))⟩
    · refine ret (tm_app1 (st_ix rfl nw2.w fun H3 hS Q' q => ?_) (tm_var rfl r1')) ?_
      · refine x_op (rd_I0 (g := fun i j => .bl (decide (i < j))) (rd_var rfl) rd_c _ (.inr ⟨_, rfl, ?_⟩))
        by_cases hb : decide ((kd : Int) < 10) = true
        · rw [if_pos hb]
          exact ⟨2, 1, rfl, rfl, .inl ⟨by omega, by omega⟩, q 2 H3 (Same.refl _) (by omega)⟩
        · rw [if_neg hb]
          exact ⟨2, 0, rfl, rfl, .inl ⟨by omega, by omega⟩, q 0 H3 (Same.refl _) (by omega)⟩
      · rintro t ⟨f, a, hf, rfl, rfl⟩
        exact ⟨(th_app1 (nw.ok _ hf).notSum th1).mono (by omega) (by omega), f, [a], rfl, .inr (.inr (.inr (nw.ok _ hf).named))⟩
end
end G35

/-! GLaw7 -/
set_option Elab.async false
set_option linter.all false
set_option maxRecDepth 100000
set_option maxHeartbeats 4000000
namespace G35
open PySem PySem.Spec PyProof.Rows L2
/-! ### _law_rule -/
section
variable {K : PySem.W.Frag} {σ : L2.St} {H0 : Hp} {ta tb ti : TE} {φ ψ : Nat → Prop}
theorem nt_list {tr : TA} {xs : List Nat} (h : ∀ H, RdA tr σ H (xs.map fun (n : Nat) => V.int (n : Int))) (hl : xs.length ≤ 1000) (hi : Nats ti σ H0 fun n => n < xs.length) : Nats (tOp (rIxL K) (tLst tr) ti) σ H0 fun z => z ∈ xs := fun H hS Q q => by
  refine x_op (x_lst (h H) (sz (by rw [List.length_map]; omega)) fun p hp => ?_)
  have s1 := same_new (o := HO.lst (xs.map fun (n : Nat) => V.int (n : Int))) hp
  exact hi _ (hS.trans s1) _ fun n H' s hn => ⟨p, _, (n : Int), .int (xs[n] : Int), rfl, rfl, SqL.of (s _ _ upd_same), atI_nat (by rw [List.getElem?_map, List.getElem?_eq_getElem hn]; rfl), q _ H' (s1.trans s) (List.getElem_mem hn)⟩
theorem nt_var {i n : Nat} (h : σ[i]? = some (some (.int (n : Int)))) : Nats (tVar i) σ H0 fun m => m = n := fun H hS Q q => ⟨_, h, q n H (Same.refl _) rfl⟩
theorem nt_gt0 (h : Nats ta σ H0 φ) : Nats (tCB (fun xs H Q => (∃ i, xs = [V.int i] ∧ Q (.int i) H) ∨ ∃ k, xs = [V.bl k] ∧ Q (.int (if k = true then 1 else 0)) H) (tCons (tOp (rI0 fun i j => .bl (decide (j < i))) ta (tC (.int 0))) tNil)) σ H0 fun n => n < 2 := fun H hS Q q => by
  refine x_op (h H hS _ fun n H' s f => ⟨(n : Int), 0, rfl, rfl, .inr ⟨_, rfl, ?_⟩⟩)
  by_cases hb : decide ((0 : Int) < (n : Int)) = true
  · rw [if_pos hb]
    exact q 1 H' s (by omega)
  · rw [if_neg hb]
    exact q 0 H' s (by omega)
theorem nt_mul (h : Nats ta σ H0 φ) (h' : Nats tb σ H0 ψ) (hφ : ∀ n, φ n → n < 1000) : Nats (tOp (rI CMul fun i j => .int (i * j)) ta tb) σ H0 fun n => ∃ a b, φ a ∧ ψ b ∧ n = a * b := fun H hS Q q =>
  h H hS _ fun n H1 s1 f1 => h' H1 (hS.trans s1) _ fun m H2 s2 f2 => by
    have := hφ n f1
    refine ⟨(n : Int), (m : Int), rfl, rfl, .inl ⟨by omega, by omega⟩, ?_⟩
    have e : (n : Int) * (m : Int) = ((n * m : Nat) : Int) := (Int.natCast_mul n m).symm
    show Q (.int ((n : Int) * (m : Int))) H2
    rw [e]
    exact q (n * m) H2 (s1.trans s2) ⟨n, m, f1, f2, rfl⟩
end
theorem Th.wide {N : List Str} {n s : Nat} {t : PT} (h : Th N n s t) : Th N n s t := h

theorem go_sum {N : List Str} : ∀ {gs : List PT}, (∀ g ∈ gs, GO N g) → (gs.map fun g => g.apps.length).sum ≤ 4 * gs.length
  | [], _ => by simp
  | g :: gs, h => by
    rw [List.map_cons, List.sum_cons, List.length_cons]
    have h1 := (h g (List.mem_cons_self ..)).th.apps
    have h2 := go_sum (gs := gs) fun x hx => h x (List.mem_cons_of_mem _ hx)
    omega
structure RO (N : List Str) (r : Rule) : Prop where
  head : ∃ f us, r.1 = .app f us ∧ Named f
  th : Th N 5 7 r.1
  len : r.2.length ≤ 2
  body : ∀ g ∈ r.2, GO N g
  apps : r.1.apps.length + (r.2.map fun g => g.apps.length).sum ≤ 12
def spRule (K : PySem.W.Frag) : Sp := fun vs H Q _ => ∃ (l : Addr) (ns : List Int) (k : Nat) (na wa : Addr) (N ws : List Str), vs = [.ref l, .int (k : Int), .ref na, .ref wa] ∧ SqL K H l (ns.map V.int) ∧ k ≤ 100 ∧ NW H na wa N ws ∧ ∀ r v H', Same H H' → RepR H' r v → RO N r → Q v H'
section
variable {P : Program} {w : World} {K : PySem.W.Frag} {mg : Str → Option Value} {base : Heap}
theorem sc_rule : FnScope ["_law_script", "_law_k", "_law_names_here", "_law_words_here", "_law_cell", "_law_more", "_law_kind", "_law_many", "_law_often", "_law_one_here", "_law_other", "_law_kids", "_law_goals", "_law_j"] ["_law_script", "_law_k", "_law_names_here", "_law_words_here"] d_law_rule.scope := ⟨rfl, rfl, rfl, by decide +kernel, rfl, by decide +kernel, by decide +kernel⟩
theorem ok_rule (T : T35 K mg) : Cl P w K mg base CX0 5 "_law_rule" ["_law_script", "_law_k", "_law_names_here", "_law_words_here"] (spRule K) := by
  have cP := ok_pick (P := P) (w := w) (base := base) T
  have cC := ok_cell (P := P) (w := w) (base := base) T
  have cT := ok_thing (P := P) (w := w) (base := base) T
  have cG := ok_goal (P := P) (w := w) (base := base) T
  refine cl_of (d := d_law_rule) T 36 rfl rfl rfl rfl sc_rule (fun vs H Q E h => ?_) (fun _ _ _ _ _ _ us hl => match us, hl with | [_, _, _, _], _ => rfl) (fun cdv A outer s0 H vs Q E hr h => ?_)
  · obtain ⟨l, ns, k, na, wa, N, ws, rfl, _⟩ := h
    rfl
  · obtain ⟨l, ns, k, na, wa, N, ws, rfl, hl, hk, nw, q⟩ := h
    refine ⟨_, (pss_cons (ps_set (i := 4) sc_rule.nd rfl (Or.inl rfl) (pe_cl cC hr (by omega) rfl (pa_cons (pv 0) (pa_cons (pe_op op_add pe_int (pe_op op_mul pe_int (pv 1))) pa_nil)))) (pss_cons (ps_set (i := 5) sc_rule.nd rfl (Or.inl rfl) (pe_cl cC hr (by omega) rfl (pa_cons (pv 0) (pa_cons (pe_op op_add pe_int (pe_op op_mul pe_int (pv 1))) pa_nil)))) (pss_cons (ps_set (i := 6) sc_rule.nd rfl (Or.inl rfl) (pe_cl cP hr (by omega) rfl (pa_cons (pv 4) (pa_cons pe_int (pa_cons pe_int pa_nil))))) (pss_cons (ps_set (i := 7) sc_rule.nd rfl (Or.inl rfl) (pe_op op_mul (pe_ix ix_list (pe_lst (pa_cons pe_int (pa_cons pe_int (pa_cons pe_int (pa_cons pe_int pa_nil))))) (pe_cl cP hr (by omega) rfl (pa_cons (pv 4) (pa_cons pe_int (pa_cons pe_int pa_nil)))) (fun _ _ => rfl)) (pe_callTy call_int1 rfl (T.free 12 _ rfl) PyProof.Rows.boot_int (pa_cons (pe_cmpR op_gt (pv 1) pe_int (nomark _)) pa_nil)))) (pss_cons (ps_set (i := 8) sc_rule.nd rfl (Or.inl rfl) (pe_ix ix_list (pe_lst (pa_cons pe_int (pa_cons pe_int pa_nil))) (pe_callTy call_int1 rfl (T.free 12 _ rfl) PyProof.Rows.boot_int (pa_cons (pe_cmpR op_gt (pv 7) pe_int (nomark _)) pa_nil)) (fun _ _ => rfl))) (pss_cons (ps_set (i := 9) sc_rule.nd rfl (Or.inl rfl) (pe_cl cT hr (by omega) rfl (pa_cons (pv 5) (pa_cons (pv 2) (pa_cons (pv 3) (pa_cons (pv 8) (pa_cons pe_bl pa_nil))))))) (pss_cons (ps_set (i := 10) sc_rule.nd rfl (Or.inl rfl) (pe_cl cT hr (by omega) rfl (pa_cons (pe_op op_fdivW (pv 5) (pe_op op_pow pe_int pe_int)) (pa_cons (pv 2) (pa_cons (pv 3) (pa_cons (pv 8) (pa_cons (pe_cmpR op_eq (pv 7) pe_int (nomark _)) pa_nil))))))) (pss_cons (ps_set (i := 11) sc_rule.nd rfl (Or.inl rfl) (pe_ix ix_list (pe_lst (pa_cons (pe_tup (pa_cons (pv 9) pa_nil)) (pa_cons (pe_tup (pa_cons (pv 9) (pa_cons (pv 10) pa_nil))) (pa_cons (pe_tup (pa_cons (pv 10) pa_nil)) pa_nil)))) (pv 6) (fun _ _ => rfl))) (pss_cons (ps_setLc (i := 12) (own := [("_law_j", 13)]) (g := gName 13) (tt := tYes) rfl sc_rule.nd rfl rfl (sw_true rfl rfl rfl (by decide +kernel)) (pi_range1 rfl (T.free 11 _ rfl) (pa_cons (pv 7) pa_nil)) (blkOk_by (N := ["_law_script", "_law_k", "_law_names_here", "_law_words_here", "_law_cell", "_law_more", "_law_kind", "_law_many", "_law_often", "_law_one_here", "_law_other", "_law_kids", "_law_goals", "_law_j"]) (sc := d_law_rule.scope) (by decide +kernel)) (fun _ _ _ _ _ => (pg_name (i := 13) sc_rule.nd rfl (Or.inl rfl))) (fun _ _ _ _ _ => pts_nil) (fun s2 H2 C2 cl2 fp2 => (pe_cl cG hr (by omega) rfl (pa_cons (pe_cl cC hr (by omega) rfl (pa_cons (pv 0) (pa_cons (pe_op op_add (pe_op op_add pe_int (pe_op op_mul pe_int (pv 1))) (pv 13)) pa_nil))) (pa_cons (pv 2) (pa_cons (pv 3) pa_nil)))))) (pss_one (ps_ret (pe_tup (pa_cons (pe_tup (pa_cons pe_str (pa_cons (pe_ix ix_list (pv 3) (pv 6) (fun _ _ => rfl)) (pa_cons (pv 11) pa_nil)))) (pa_cons (pe_tupleOf rfl (T.free 3 _ rfl) (pv 12)) pa_nil)))))))))))))), ?_⟩
    have hwl := nw.wl
    have at4 : ∀ (b : Nat) (σ : L2.St) (H : Hp), σ[1]? = some (some (.int (k : Int))) → Rds (tOp (rI0 fun i j => .int (i + j)) (tC (.int (b : Int))) (tOp (rI CMul fun i j => .int (i * j)) (tC (.int 4)) (tVar 1))) σ H (.int ((b + 4 * k : Nat) : Int)) := by
      intro b σ H h1
      have e : ((b + 4 * k : Nat) : Int) = (b : Int) + 4 * (k : Int) := by omega
      rw [e]
      exact rd_I0 (g := fun i j => .int (i + j)) rd_c (rd_I (g := fun i j => .int (i * j)) rd_c (rd_var h1) (.inl ⟨by omega, by omega⟩))
    refine s_asg (x_cl (sp := spCellAt K) (ra_cons (rd_var rfl) (ra_cons (at4 6 _ _ rfl) ra_nil)) ⟨l, ns, 6 + 4 * k, rfl, hl, by omega, fun cv H1 s1 => ?_⟩)
    have hl1 := sqL_sm hl s1
    refine s_asg (x_cl (sp := spCellAt K) (ra_cons (rd_var rfl) (ra_cons (at4 7 _ _ rfl) ra_nil)) ⟨l, ns, 7 + 4 * k, rfl, hl1, by omega, fun cm H2 s2 => ?_⟩)
    refine s_asg (x_cl (sp := spPick) (ra_cons (rd_var rfl) (ra_cons rd_c (ra_cons rd_c ra_nil))) ⟨cv, 0, 3, rfl, by omega, by omega, fun kd hkd => ?_⟩)
    have S2 := s1.trans s2
    have nw2 := nw.sm S2
    refine s_asg (nt_mul (nt_list (xs := [0, 0, 1, 2]) (fun _ => ra_cons rd_c (ra_cons rd_c (ra_cons rd_c (ra_cons rd_c ra_nil)))) (by simp) (nt_pick (c := cv) (k := 1) (m := 4) (fun _ => rd_var rfl) (by omega) (by omega) (fun _ => rd_c) (fun _ => rd_c))) (nt_gt0 (nt_var rfl)) (fun n hn => by
      simp only [List.mem_cons, List.not_mem_nil, or_false] at hn
      omega) H2 (Same.refl _) _ fun many H3 s3 hm => ?_)
    have hmany : many ≤ 2 := by
      obtain ⟨a, b, ha, hb, rfl⟩ := hm
      simp only [List.mem_cons, List.not_mem_nil, or_false] at ha
      have : b = 0 ∨ b = 1 := by omega
      rcases this with rfl | rfl <;> omega
    have nw3 := nw2.sm s3
    refine s_asg (nt_list (xs := [2, 6]) (fun _ => ra_cons rd_c (ra_cons rd_c ra_nil)) (by simp) (nt_gt0 (nt_var rfl)) H3 (Same.refl _) _ fun often H4 s4 ho => ?_)
    have nw4 := nw3.sm s4
    refine s_asg (tm_thing (deep := true) (often := often) nw4 (fun _ => rd_var rfl) (fun _ => rd_var rfl) (fun _ => rd_var rfl) (fun _ => rd_var rfl) (fun _ => rd_c) H4 (Same.refl _) _ fun one v1 H5 s5 r1 th1 => ?_)
    have th1 : Th N 2 3 one := th1
    have nw5 := nw4.sm s5
    refine s_asg (tm_thing (deep := decide (V.int (many : Int) = V.int 0)) (often := often) nw5 (fun _ => rd_div64 (n := 26) (by omega) (rd_var rfl)) (fun _ => rd_var rfl) (fun _ => rd_var rfl) (fun _ => rd_var rfl) (fun _ => rd_eqI (rd_var rfl) rd_c) H5 (Same.refl _) _ fun oth v2 H6 s6 r2 th2 => ?_)
    have r1' := r1.ex (.of s6)
    have th2' : Th N 2 3 oth := th2.mono (by split <;> omega) (by split <;> omega)
    have th2m : many ≠ 0 → Th N 1 3 oth := fun hne => by
      rw [decide_eq_false (fun z => hne (by injection z with z; omega))] at th2
      exact th2.mono (by simp) (by simp)
    have S6 := (((S2.trans s3).trans s4).trans s5).trans s6
    -- kids
    refine ⟨v1, rfl, sz (by simp), fun p1 hp1 => ⟨v1, rfl, v2, rfl, sz (by simp), fun p2 hp2 => ⟨v2, rfl, sz (by simp), fun p3 hp3 => ⟨sz (by simp), fun pl hpl => ?_⟩⟩⟩⟩
    have t1 := same_new (o := HO.tup [v1]) hp1
    have t2 := same_new (o := HO.tup [v1, v2]) hp2
    have t3 := same_new (o := HO.tup [v2]) hp3
    have t4 := same_new (o := HO.lst [.ref p1, .ref p2, .ref p3]) hpl
    have S7 := S6.trans (((t1.trans t2).trans t3).trans t4)
    have r1'' := r1'.ex (.of (((t1.trans t2).trans t3).trans t4))
    have r2'' := r2.ex (.of (((t1.trans t2).trans t3).trans t4))
    have a1 := ((t2.trans t3).trans t4) _ _ (upd_same (H := H6) (a := p1) (o := HO.tup [v1]))
    have a2 := (t3.trans t4) _ _ (upd_same (H := upd H6 p1 (.tup [v1])) (a := p2) (o := HO.tup [v1, v2]))
    have a3 := t4 _ _ (upd_same (H := upd (upd H6 p1 (.tup [v1])) p2 (.tup [v1, v2])) (a := p3) (o := HO.tup [v2]))
    have a4 : (upd (upd (upd (upd H6 p1 (.tup [v1])) p2 (.tup [v1, v2])) p3 (.tup [v2])) pl (.lst [.ref p1, .ref p2, .ref p3])) pl = some (.lst [.ref p1, .ref p2, .ref p3]) := upd_same
    generalize hH7 : upd (upd (upd (upd H6 p1 (.tup [v1])) p2 (.tup [v1, v2])) p3 (.tup [v2])) pl (.lst [.ref p1, .ref p2, .ref p3]) = H7 at *
    have hsz : ∀ f, f ∈ ws → (Th N (1 + 2 + (if many = 0 then 2 else 1)) 7 (.app f [one])) ∧ (Th N (1 + 2 + (if many = 0 then 2 else 1)) 7 (.app f [oth])) ∧ Th N (1 + 2 + (if many = 0 then 2 else 1)) 7 (.app f [one, oth]) := fun f hf => by
      have hns := (nw.ok f hf).notSum
      refine ⟨(th_app1 hns th1).mono (by split <;> omega) (by omega), (th_app1 hns th2').mono (by split <;> omega) (by omega), ?_⟩
      by_cases h0 : many = 0
      · rw [if_pos h0]
        exact (th_app2 hns th1 th2').mono (by omega) (by omega)
      · rw [if_neg h0]
        exact (th_app2 hns th1 (th2m h0)).mono (by omega) (by omega)
    have pickd : ∀ r, r < 3 → ∃ pk us vs, [V.ref p1, .ref p2, .ref p3][r]? = some (.ref pk) ∧ H7 pk = some (.tup vs) ∧ RepL H7 us vs ∧ ∀ f ∈ ws, Th N (1 + 2 + (if many = 0 then 2 else 1)) 7 (.app f us) := fun r hr => match r, hr with
      | 0, _ => ⟨p1, [one], [v1], rfl, a1, .cons r1'' RepL.nil, fun f hf => (hsz f hf).1⟩
      | 1, _ => ⟨p2, [one, oth], [v1, v2], rfl, a2, .cons r1'' (.cons r2'' RepL.nil), fun f hf => (hsz f hf).2.2⟩
      | 2, _ => ⟨p3, [oth], [v2], rfl, a3, .cons r2'' RepL.nil, fun f hf => (hsz f hf).2.1⟩
    obtain ⟨pk, us, vs', hpk, hpkt, hus, hTh⟩ := pickd kd hkd
    refine ⟨_, rfl, pl, _, (kd : Int), .ref pk, rfl, rfl, SqL.of a4, atI_nat hpk, ?_⟩
    -- goals
    have hl7 := sqL_sm hl S7
    have nw7 := nw.sm S7
    refine ⟨_, rfl, (many : Int), rfl, by omega, by omega, fun D hD => ?_⟩
    refine lc_range (n := (many : Int).toNat) (fun j U => Same H7 U ∧ ∃ gs acc, U D = some (.lst acc) ∧ Rp RepT U gs acc ∧ gs.length = j ∧ ∀ g ∈ gs, GO N g) ⟨same_new hD, [], [], upd_same, Rp.nil, rfl, (fun g hg => nomatch hg)⟩ (fun j U hj hJ => ?_) (fun U hJ => ?_)
    · obtain ⟨hS, gs, acc, hacc, hR, hgl, hgo⟩ := hJ
      have hal := hR.1
      have ej : ((8 + 4 * k + j : Nat) : Int) = ((8 + 4 * k : Nat) : Int) + (0 + (j : Int)) := by omega
      refine ⟨rfl, x_yes (x_clc ?_)⟩
      refine x_cl (sp := spCellAt K) (ra_cons (rd_var rfl) (ra_cons (x := .int ((8 + 4 * k + j : Nat) : Int)) (by rw [ej]; exact rd_I0 (g := fun i j => .int (i + j)) (at4 8 _ _ rfl) (rd_var rfl)) ra_nil)) ⟨l, ns, 8 + 4 * k + j, rfl, sqL_sm hl7 hS, by omega, fun cg U2 sg => ?_⟩
      refine ra_cons (rd_var rfl) (ra_cons (rd_var rfl) ra_nil) _ ⟨cg, na, wa, N, ws, rfl, nw7.sm (hS.trans sg), fun g v U3 s3' r3 go => ?_⟩
      have hS3 := hS.trans (sg.trans s3')
      have hacc3 := (sg.trans s3') _ _ hacc
      have tx := tupex_ls (o := .lst (acc ++ [v])) hacc3
      refine ⟨acc, hacc3, szl (by omega), same_mut hS3 hD, gs ++ [g], acc ++ [v], upd_same, ?_, by rw [List.length_append, hgl]; rfl, fun x hx => ?_⟩
      · exact (hR.ex fun _ _ z => z.ex ((TupEx.of (sg.trans s3')).trans tx)).snoc (r3.ex tx)
      · rcases List.mem_append.mp hx with z | z
        · exact hgo x z
        · rw [List.mem_singleton.mp z]
          exact go
    · obtain ⟨hS, gs, acc, hacc, hR, hgl, hgo⟩ := hJ
      have hgl2 : gs.length = many := by omega
      have S8 := S7.trans hS
      have hw0 : ws[kd]? = some ws[kd] := List.getElem?_eq_getElem (by omega)
      have hwm := List.mem_of_getElem? hw0
      refine x_tupc (x_tup (ra_cons rd_c (ra_cons (rd_ixL (n := kd) (rd_var rfl) (rd_var rfl) (nw7.sm hS).w (by rw [List.getElem?_map, hw0]; rfl)) (ra_cons (rd_var rfl) ra_nil))) (sz (by simp)) fun ph hph => ?_)
      have sh := same_new (o := HO.tup [.str "app", .str ws[kd], .ref pk]) hph
      refine ⟨.ref D, rfl, .inl ⟨D, acc, rfl, SqL.of (sh _ _ hacc), fun pb hpb => ⟨sz (by simp), fun pr hpr => ?_⟩⟩⟩
      have sb := same_new (o := HO.tup acc) hpb
      have sr := same_new (o := HO.tup [.ref ph, .ref pb]) hpr
      have sAll := (sh.trans sb).trans sr
      have thr := hTh _ hwm
      have hsum := go_sum hgo
      refine q (.app ws[kd] us, gs) _ _ (S8.trans sAll) ⟨pr, pb, .ref ph, acc, rfl, upd_same, ⟨ph, pk, vs', rfl, (sb.trans sr) _ _ upd_same, (hS.trans sAll) _ _ hpkt, hus.ex (.of (hS.trans sAll))⟩, sr _ _ upd_same, hR.ex fun _ _ z => z.ex (.of sAll)⟩ ⟨⟨_, _, rfl, (nw.ok _ hwm).named⟩, thr.mono (by split <;> omega) (Nat.le_refl _), by show gs.length ≤ 2; omega, hgo, ?_⟩
      have := thr.apps
      show (Tm.app ws[kd] us).apps.length + (gs.map fun g => g.apps.length).sum ≤ 12
      by_cases h0 : many = 0
      · rw [if_pos h0] at this
        omega
      · rw [if_neg h0] at this
        omega
end
end G35

/-! GLaw8 -/
set_option Elab.async false
set_option linter.all false
set_option maxRecDepth 100000
set_option maxHeartbeats 4000000
namespace G35
open PySem PySem.Spec PyProof.Rows L2
/-! ### the law's walk, read, called, named -/
def spLRead (n : Nat) : Sp := fun vs H Q _ => ∃ (t : PT) (P : Puts) (σ : Str → PT) (rk : Str → Nat) (v : V) (d : Addr), vs = [v, .ref d] ∧ RepT H t v ∧ PutsAt H d P ∧ Good P σ rk ∧ (t.sub σ).depth ≤ n ∧ Ar (t.sub σ) ∧
  ∀ v' H', Same H H' → RepT H' (t.sub σ) v' → Q v' H'
def spLCalled (n : Nat) : Sp := fun vs H Q _ => ∃ (t : PT) (v : V) (d : Addr) (kvs : List (Key × V)) (ρ : Str → Str), vs = [v, .ref d] ∧ RepT H t v ∧ t.depth ≤ n ∧ (∀ f ks, Tm.app f ks ∈ t.apps → ks.length ≤ 100000) ∧ H d = some (.dK kvs) ∧ (∀ x ∈ t.vars, valV kvs (Sum.inr x : Key) = some (.str (ρ x))) ∧
  ∀ v' H', Same H H' → RepT H' (t.sub fun x => .any (ρ x)) v' → Q v' H'
def spLNamed (n : Nat) : Sp := fun vs H Q _ => ∃ (t : PT) (v : V) (f : Addr) (acc : List Str), vs = [v, .ref f] ∧ RepT H t v ∧ t.depth ≤ n ∧ H f = some (.lst (acc.map V.str)) ∧ acc.length + t.vars.length ≤ 100000 ∧
  Q (.ref f) (upd H f (.lst ((firstsF acc t.vars).map V.str)))
theorem upd_upd {H : Hp} {a : Addr} {o o' : HO} : upd (upd H a o) a o' = upd H a o' := by
  funext b
  by_cases h : b = a
  · rw [h, upd_same, upd_same]
  · rw [upd_ne h, upd_ne h, upd_ne h]
theorem upd_id {H : Hp} {a : Addr} {o : HO} (h : H a = some o) : upd H a o = H := by
  funext b
  by_cases e : b = a
  · rw [e, upd_same, h]
  · rw [upd_ne e]
theorem rd_notInL {K : PySem.W.Frag} {σ : L2.St} {H : Hp} {ta tb : TE} {x : V} {a : Addr} {xs : List V} (ha : Rds ta σ H x) (hb : Rds tb σ H (.ref a)) (h : SqL K H a xs) (fx : flatV x = true) (fs : xs.all flatV = true) : Rds (tOp (rIn K true) ta tb) σ H (.bl (!inV x xs)) :=
  rd_op ha hb fun _ q => ⟨a, xs, rfl, .inl h, fx, fs, q⟩
theorem strs_flat : ∀ l : List Str, (l.map V.str).all flatV = true
  | [] => rfl
  | x :: l => by
    rw [List.map_cons, List.all_cons, strs_flat l]
    rfl
theorem firstsF_one {acc : List Str} {x : Str} : firstsF acc [x] = if x ∈ acc then acc else acc ++ [x] := rfl
section
variable {P : Program} {w : World} {K : PySem.W.Frag} {mg : Str → Option Value} {base : Heap}
theorem sc_lwalk : FnScope ["_law_term", "_law_puts"] ["_law_term", "_law_puts"] d_law_walk.scope := ⟨rfl, rfl, rfl, by decide +kernel, rfl, by decide +kernel, by decide +kernel⟩
theorem sc_lread : FnScope ["_law_term", "_law_puts", "_law_kid"] ["_law_term", "_law_puts"] d_law_read.scope := ⟨rfl, rfl, rfl, by decide +kernel, rfl, by decide +kernel, by decide +kernel⟩
theorem sc_lcalled : FnScope ["_law_term", "_law_names_here", "_law_kid"] ["_law_term", "_law_names_here"] d_law_called.scope := ⟨rfl, rfl, rfl, by decide +kernel, rfl, by decide +kernel, by decide +kernel⟩
theorem sc_lnamed : FnScope ["_law_term", "_law_found", "_law_kid"] ["_law_term", "_law_found"] d_law_named.scope := ⟨rfl, rfl, rfl, by decide +kernel, rfl, by decide +kernel, by decide +kernel⟩
theorem ok_lwalk (T : T35 K mg) : Cl P w K mg base CX0 1 "_law_walk" ["_law_term", "_law_puts"] spWalked := by
  refine cl_of (d := d_law_walk) T 37 rfl rfl rfl rfl sc_lwalk (fun vs H Q E h => ?_) (fun _ _ _ _ _ _ us hl => match us, hl with | [_, _], _ => rfl) (fun cdv A outer s H vs Q E hr h => ?_)
  · obtain ⟨t, r, P, v, d, rfl, _⟩ := h
    rfl
  · obtain ⟨t, r, P, v, d, rfl, ht, ⟨kvs, hd, hP⟩, ⟨n, hw⟩, k⟩ := h
    have hu := hu_of hr
    refine ⟨_, (pss_cons (ps_while PassesOwn.never (PW.pt (pw_and (pt_cmpR op_eq (pe_ix ix_tup (pv 0) pe_int (fun _ _ => rfl)) pe_str (nomark _)) (pw_and1 (pt_cmp (pc_din hu (pe_ix ix_tup (pv 0) pe_int (fun _ _ => rfl)) (pv 1)))))) (pss_one (ps_set (i := 0) sc_lwalk.nd rfl (Or.inl rfl) (pe_dget hu (pv 1) (pe_ix ix_tup (pv 0) pe_int (fun _ _ => rfl)) (fun _ _ => rfl))))) (pss_one (ps_ret (pv 0)))), ?_⟩
    refine s_while (fun m σ H' => ∃ t v, σ = [some v, some (.ref d)] ∧ H' = H ∧ RepT H t v ∧ walkF m P t = some r) n ⟨t, v, rfl, rfl, ht, hw⟩ ?_
    rintro m σ H' ⟨t, v, rfl, rfl, ht, hw⟩
    cases m with
    | zero => cases hw
    | succ m =>
      have fin : r = t → tRet (tVar 0) { nx := fun _ H' => Q .non H', rt := Q } [some v, some (.ref d)] H' := fun e => s_ret (rd_var rfl) (k v (by rw [e]; exact ht))
      cases t with
      | num i =>
        refine ⟨_, rdT_and (b := false) (rdT_test (rd_eqS (rd_tag (rd_var rfl) ht) rd_c)) (fun z => ?_), fun z => ?_, fun _ => fin ?_⟩
        · rw [dec_num] at z; cases z
        · rw [dec_num] at z; cases z
        · cases hw; rfl
      | app f ks =>
        refine ⟨_, rdT_and (b := false) (rdT_test (rd_eqS (rd_tag (rd_var rfl) ht) rd_c)) (fun z => ?_), fun z => ?_, fun _ => fin ?_⟩
        · rw [dec_app] at z; cases z
        · rw [dec_app] at z; cases z
        · cases hw; rfl
      | any x =>
        refine ⟨_, rdT_and (rdT_test (rd_eqS (rd_tag (rd_var rfl) ht) rd_c)) (fun _ => rdT_B (rd_din (rd_second (rd_var rfl) ht) (rd_var rfl) hd)), fun z => ?_, fun z => ?_⟩
        · cases e : look P x with
          | none =>
            rw [dec_any, hP.none e] at z
            cases z
          | some u =>
            obtain ⟨v', q1, q2⟩ := hP.some e
            rw [walkF_some _ e] at hw
            exact s_set (rd_dget (rd_second (rd_var rfl) ht) (rd_var rfl) hd q1) ⟨m, Nat.lt_succ_self _, u, v', rfl, rfl, q2, hw⟩
        · cases e : look P x with
          | none =>
            rw [walkF_none _ e] at hw
            exact fin (by cases hw; rfl)
          | some u =>
            obtain ⟨v', q1, q2⟩ := hP.some e
            rw [dec_any, q1] at z
            cases z
/-- ('app', f, tuple([..])) -/
theorem lread_app {σ : L2.St} {H : Hp} {f : Str} {ks : List PT} {D : Addr} {acc : List V} {Q : VK} (hD : H D = some (.lst acc)) (hL : RepL H ks acc) (k : ∀ v' H', Same H H' → RepT H' (.app f ks) v' → Q v' H') :
    kTup K (.ref D) H fun x H2 => tNil σ H2 fun vs H3 => (V.str "app" :: V.str f :: x :: vs).length ≤ sizeLine ∧ ∀ p, H3 p = none → Q (.ref p) (upd H3 p (.tup (V.str "app" :: V.str f :: x :: vs))) := by
  refine .inl ⟨D, acc, rfl, SqL.of hD, fun p1 hp1 => ⟨sz (by simp), fun p hp => ?_⟩⟩
  have s1 := same_new (o := HO.tup acc) hp1
  have s2 := same_new (o := HO.tup [.str "app", .str f, .ref p1]) hp
  exact k (.ref p) _ (s1.trans s2) ⟨p, p1, acc, rfl, upd_same, s2 _ _ upd_same, hL.ex (.of (s1.trans s2))⟩
theorem ok_lread (T : T35 K mg) : ∀ n : Nat, Cl P w K mg base CX0 (n + 2) "_law_read" ["_law_term", "_law_puts"] (spLRead n)
  | 0 => by
    refine cl_of (d := d_law_read) T 40 rfl rfl rfl rfl sc_lread (fun vs H Q E h => ?_) (fun _ _ _ _ _ _ us hl => match us, hl with | [_, _], _ => rfl) (fun cdv A outer s H vs Q E hr h => ?_)
    · obtain ⟨t, P, σ, rk, v, d, rfl, _⟩ := h
      rfl
    · obtain ⟨t, P, σ, rk, v, d, rfl, ht, hP, G, hn, _⟩ := h
      have := (t.sub σ).depth_pos
      omega
  | n + 1 => by
    have ih := ok_lread T n
    have cW := ok_lwalk (P := P) (w := w) (base := base) T
    refine cl_of (d := d_law_read) T 40 rfl rfl rfl rfl sc_lread (fun vs H Q E h => ?_) (fun _ _ _ _ _ _ us hl => match us, hl with | [_, _], _ => rfl) (fun cdv A outer s H vs Q E hr h => ?_)
    · obtain ⟨t, P, σ, rk, v, d, rfl, _⟩ := h
      rfl
    · obtain ⟨t, P', σ, rk, v, d, rfl, ht, hP, G, hn, hA, k⟩ := h
      refine ⟨_, (pss_cons (ps_set (i := 0) sc_lread.nd rfl (Or.inl rfl) (pe_cl cW hr (by omega) rfl (pa_cons (pv 0) (pa_cons (pv 1) pa_nil)))) (pss_cons (ps_if (pt_cmpR op_eq (pe_ix ix_tup (pv 0) pe_int (fun _ _ => rfl)) pe_str (nomark _)) (pss_one (ps_ret (pe_tup (pa_cons pe_str (pa_cons (pe_ix ix_tup (pv 0) pe_int (fun _ _ => rfl)) (pa_cons (pe_tupleOf rfl (T.free 3 _ rfl) (pe_lc (own := [("_law_kid", 2)]) (g := gName 2) (tt := tYes) rfl sc_lread.nd (pi_tup (pe_ix ix_tup (pv 0) pe_int (fun _ _ => rfl))) (blkOk_by (N := ["_law_term", "_law_puts", "_law_kid"]) (sc := d_law_read.scope) (by decide +kernel)) (fun _ _ _ _ _ => (pg_name (i := 2) sc_lread.nd rfl (Or.inl rfl))) (fun _ _ _ _ _ => pts_nil) (fun s2 H2 C2 cl2 fp2 => (pe_cl ih hr (by omega) rfl (pa_cons (pv 2) (pa_cons (pv 1) pa_nil)))))) pa_nil)))))) pss_nil) (pss_one (ps_ret (pv 0))))), ?_⟩
      obtain ⟨r, hw⟩ := G.walks t
      refine x_cl (sp := spWalked) (ra_cons (rd_var rfl) (ra_cons (rd_var rfl) ra_nil)) ⟨t, r, P', v, d, rfl, ht, hP, hw, fun v2 hr2 => ?_⟩
      have hrs := walked_sub G hw
      cases r with
      | num i =>
        refine s_if (rdT_test (rd_eqS (rd_tag (rd_var rfl) hr2) rd_c)) (fun z => ?_) fun _ => ?_
        · rw [dea_num] at z; cases z
        · exact s_ret (rd_var rfl) (k _ _ (Same.refl _) (by rw [← hrs, Tm.sub_num]; exact hr2))
      | any x =>
        refine s_if (rdT_test (rd_eqS (rd_tag (rd_var rfl) hr2) rd_c)) (fun z => ?_) fun _ => ?_
        · rw [dea_any] at z; cases z
        · exact s_ret (rd_var rfl) (k _ _ (Same.refl _) (by rw [← hrs, Tm.sub_any, G.free x (walked_free hw)]; exact hr2))
      | app f ks =>
        refine s_if (rdT_test (rd_eqS (rd_tag (rd_var rfl) hr2) rd_c)) (fun _ => ?_) fun z => ?_
        · obtain ⟨ta, tk, kv, rfl, ht3, hk3, hks⟩ := hr2.kids
          have hkl := hks.length
          rw [← hrs, Tm.sub_app] at hA hn
          have hk2 := hA.two
          rw [List.length_map] at hk2
          refine rd_second (rd_var rfl) hr2 _ ?_
          refine rd_ixT (n := 2) (rd_var rfl) rd_c ht3 rfl _ ?_
          refine ⟨tk, rfl, ⟨_, SqT.of hk3⟩, fun D hD => ?_⟩
          refine lc_tup (xs := kv) (fun i H' => Same H H' ∧ ∃ acc, H' D = some (.lst acc) ∧ RepL H' ((ks.take i).map (Tm.sub σ)) acc) ⟨same_new hD, [], upd_same, RepL.nil⟩ (fun i H' _ p => SqT.of (p.1 _ _ hk3)) (fun i x H' hx p => ?_) (fun H' p => ?_)
          · obtain ⟨hS, acc, hacc, hL⟩ := p
            obtain ⟨t', hti, hrt⟩ := hks.got hx
            have hm : t'.sub σ ∈ ks.map (Tm.sub σ) := List.mem_map.mpr ⟨t', List.mem_of_getElem? hti, rfl⟩
            have k2 := Tm.depth_kid (f := f) hm
            refine ⟨rfl, ?_⟩
            refine x_cl (sp := spLRead n) (ra_cons (rd_var rfl) (ra_cons (rd_var rfl) ra_nil)) ⟨t', P', σ, rk, x, d, rfl, hrt.ex (.of hS), hP.same hS, G, by omega, hA.kid hm, fun v' H2 e r => ?_⟩
            have hal := hL.length
            rw [List.length_map, List.length_take] at hal
            have ex : TupEx H2 (upd H2 D (.lst (acc ++ [v']))) := tupex_ls (e _ _ hacc)
            refine ⟨acc, e _ _ hacc, szl (by omega), same_mut (hS.trans e) hD, _, upd_same, ?_⟩
            rw [take_snoc hti, List.map_append]
            exact (hL.ex ((TupEx.of e).trans ex)).snoc (r.ex ex)
          · obtain ⟨hS, acc, hacc, hL⟩ := p
            rw [hkl, List.take_length] at hL
            refine lread_app hacc hL fun v' H2 e r => k v' H2 (hS.trans e) ?_
            rw [← hrs, Tm.sub_app]
            exact r
        · rw [dea_app] at z; cases z
theorem ok_lcalled (T : T35 K mg) : ∀ n : Nat, Cl P w K mg base CX0 (n + 2) "_law_called" ["_law_term", "_law_names_here"] (spLCalled n)
  | 0 => by
    refine cl_of (d := d_law_called) T 42 rfl rfl rfl rfl sc_lcalled (fun vs H Q E h => ?_) (fun _ _ _ _ _ _ us hl => match us, hl with | [_, _], _ => rfl) (fun cdv A outer s H vs Q E hr h => ?_)
    · obtain ⟨t, v, d, kvs, ρ, rfl, _⟩ := h
      rfl
    · obtain ⟨t, v, d, kvs, ρ, rfl, ht, hn, _⟩ := h
      have := t.depth_pos
      omega
  | n + 1 => by
    have ih := ok_lcalled T n
    refine cl_of (d := d_law_called) T 42 rfl rfl rfl rfl sc_lcalled (fun vs H Q E h => ?_) (fun _ _ _ _ _ _ us hl => match us, hl with | [_, _], _ => rfl) (fun cdv A outer s H vs Q E hr h => ?_)
    · obtain ⟨t, v, d, kvs, ρ, rfl, _⟩ := h
      rfl
    · obtain ⟨t, v, d, kvs, ρ, rfl, ht, hn, hA, hd, hρ, k⟩ := h
      have hu := hu_of hr
      refine ⟨_, (pss_cons (ps_if (pt_cmpR op_eq (pe_ix ix_tup (pv 0) pe_int (fun _ _ => rfl)) pe_str (nomark _)) (pss_one (ps_ret (pe_tup (pa_cons pe_str (pa_cons (pe_dget hu (pv 1) (pe_ix ix_tup (pv 0) pe_int (fun _ _ => rfl)) (fun _ _ => rfl)) pa_nil))))) pss_nil) (pss_cons (ps_if (pt_cmpR op_eq (pe_ix ix_tup (pv 0) pe_int (fun _ _ => rfl)) pe_str (nomark _)) (pss_one (ps_ret (pe_tup (pa_cons pe_str (pa_cons (pe_ix ix_tup (pv 0) pe_int (fun _ _ => rfl)) (pa_cons (pe_tupleOf rfl (T.free 3 _ rfl) (pe_lc (own := [("_law_kid", 2)]) (g := gName 2) (tt := tYes) rfl sc_lcalled.nd (pi_tup (pe_ix ix_tup (pv 0) pe_int (fun _ _ => rfl))) (blkOk_by (N := ["_law_term", "_law_names_here", "_law_kid"]) (sc := d_law_called.scope) (by decide +kernel)) (fun _ _ _ _ _ => (pg_name (i := 2) sc_lcalled.nd rfl (Or.inl rfl))) (fun _ _ _ _ _ => pts_nil) (fun s2 H2 C2 cl2 fp2 => (pe_cl ih hr (by omega) rfl (pa_cons (pv 2) (pa_cons (pv 1) pa_nil)))))) pa_nil)))))) pss_nil) (pss_one (ps_ret (pv 0))))), ?_⟩
      cases t with
      | any x =>
        refine s_if (rdT_test (rd_eqS (rd_tag (rd_var rfl) ht) rd_c)) (fun _ => ?_) fun z => ?_
        · refine x_tup (ra_cons rd_c (ra_cons (rd_dget (rd_second (tm := .any x) (rd_var rfl) ht) (rd_var rfl) hd (hρ x (by rw [Tm.vars_any]; exact List.mem_cons_self ..))) ra_nil)) (sz (by simp)) fun p hp => ?_
          exact k (.ref p) _ (same_new hp) (by rw [Tm.sub_any]; exact ⟨p, rfl, upd_same⟩)
        · rw [dec_any] at z; cases z
      | num i =>
        refine s_if (rdT_test (rd_eqS (rd_tag (rd_var rfl) ht) rd_c)) (fun z => ?_) fun _ => ?_
        · rw [dec_num] at z; cases z
        refine s_if (rdT_test (rd_eqS (rd_tag (rd_var rfl) ht) rd_c)) (fun z => ?_) fun _ => ?_
        · rw [dea_num] at z; cases z
        · exact s_ret (rd_var rfl) (k _ _ (Same.refl _) (by rw [Tm.sub_num]; exact ht))
      | app f ks =>
        refine s_if (rdT_test (rd_eqS (rd_tag (rd_var rfl) ht) rd_c)) (fun z => ?_) fun _ => ?_
        · rw [dec_app] at z; cases z
        refine s_if (rdT_test (rd_eqS (rd_tag (rd_var rfl) ht) rd_c)) (fun _ => ?_) fun z => ?_
        · obtain ⟨ta, tk, kv, rfl, ht3, hk3, hks⟩ := ht.kids
          have hkl := hks.length
          have hkz := hA f ks (by rw [Tm.apps_app]; exact List.mem_cons_self ..)
          refine rd_second (rd_var rfl) ht _ ?_
          refine rd_ixT (n := 2) (rd_var rfl) rd_c ht3 rfl _ ?_
          refine ⟨tk, rfl, ⟨_, SqT.of hk3⟩, fun D hD => ?_⟩
          refine lc_tup (xs := kv) (fun i H' => Same H H' ∧ ∃ acc, H' D = some (.lst acc) ∧ RepL H' ((ks.take i).map (Tm.sub fun x => .any (ρ x))) acc) ⟨same_new hD, [], upd_same, RepL.nil⟩ (fun i H' _ p => SqT.of (p.1 _ _ hk3)) (fun i x H' hx p => ?_) (fun H' p => ?_)
          · obtain ⟨hS, acc, hacc, hL⟩ := p
            obtain ⟨t', hti, hrt⟩ := hks.got hx
            obtain ⟨k1, k2, k3⟩ := kid_size (f := f) hti
            refine ⟨rfl, ?_⟩
            refine x_cl (sp := spLCalled n) (ra_cons (rd_var rfl) (ra_cons (rd_var rfl) ra_nil)) ⟨t', x, d, kvs, ρ, rfl, hrt.ex (.of hS), by omega, fun g ls hg => hA g ls (Tm.apps_kid (List.mem_of_getElem? hti) hg), hS _ _ hd, fun y hy => hρ y (k3 y hy), fun v' H2 e r => ?_⟩
            have hal := hL.length
            rw [List.length_map, List.length_take] at hal
            have ex : TupEx H2 (upd H2 D (.lst (acc ++ [v']))) := tupex_ls (e _ _ hacc)
            refine ⟨acc, e _ _ hacc, szl (by omega), same_mut (hS.trans e) hD, _, upd_same, ?_⟩
            rw [take_snoc hti, List.map_append]
            exact (hL.ex ((TupEx.of e).trans ex)).snoc (r.ex ex)
          · obtain ⟨hS, acc, hacc, hL⟩ := p
            rw [hkl, List.take_length] at hL
            refine lread_app hacc hL fun v' H2 e r => k v' H2 (hS.trans e) ?_
            rw [Tm.sub_app]
            exact r
        · rw [dea_app] at z; cases z
theorem ok_lnamed (T : T35 K mg) : ∀ n : Nat, Cl P w K mg base CX0 (n + 2) "_law_named" ["_law_term", "_law_found"] (spLNamed n)
  | 0 => by
    refine cl_of (d := d_law_named) T 41 rfl rfl rfl rfl sc_lnamed (fun vs H Q E h => ?_) (fun _ _ _ _ _ _ us hl => match us, hl with | [_, _], _ => rfl) (fun cdv A outer s H vs Q E hr h => ?_)
    · obtain ⟨t, v, f, acc, rfl, _⟩ := h
      rfl
    · obtain ⟨t, v, f, acc, rfl, ht, hn, _⟩ := h
      have := t.depth_pos
      omega
  | n + 1 => by
    have ih := ok_lnamed T n
    refine cl_of (d := d_law_named) T 41 rfl rfl rfl rfl sc_lnamed (fun vs H Q E h => ?_) (fun _ _ _ _ _ _ us hl => match us, hl with | [_, _], _ => rfl) (fun cdv A outer s H vs Q E hr h => ?_)
    · obtain ⟨t, v, f, acc, rfl, _⟩ := h
      rfl
    · obtain ⟨t, v, f, acc, rfl, ht, hn, hf, hsz, k⟩ := h
      refine ⟨_, (pss_cons (ps_if (PW.pt (pw_and (pt_cmpR op_eq (pe_ix ix_tup (pv 0) pe_int (fun _ _ => rfl)) pe_str (nomark _)) (pw_and1 (pt_cmpR op_notIn_seq (pe_ix ix_tup (pv 0) pe_int (fun _ _ => rfl)) (pv 1) rfl)))) (pss_one (ps_expr (pe_bm PySem.F.plainAttrs_list PySem.F.slot_list_append PySem.F.type_list_append mt_append (pv 1) (pa_cons (pe_ix ix_tup (pv 0) pe_int (fun _ _ => rfl)) pa_nil)))) pss_nil) (pss_cons (ps_if (pt_cmpR op_eq (pe_ix ix_tup (pv 0) pe_int (fun _ _ => rfl)) pe_str (nomark _)) (pss_one (ps_for PassesOwn.never rfl (pi_tup (pe_ix ix_tup (pv 0) pe_int (fun _ _ => rfl))) (pg_name (i := 2) sc_lnamed.nd rfl (Or.inl rfl)) (pss_one (ps_expr (pe_cl ih hr (by omega) rfl (pa_cons (pv 2) (pa_cons (pv 1) pa_nil))))))) pss_nil) (pss_one (ps_ret (pv 1))))), ?_⟩
      cases t with
      | any x =>
        have hin := inV_strs x acc
        rw [Tm.vars_any] at hsz k
        rw [firstsF_one] at k
        refine s_if (rdT_and (rdT_test (rd_eqS (rd_tag (rd_var rfl) ht) rd_c)) fun _ => rdT_test (rd_notInL (rd_second (tm := .any x) (rd_var rfl) ht) (rd_var rfl) (SqL.of hf) rfl (strs_flat acc))) (fun z => ?_) fun z => ?_
        · have z2 := (Bool.and_eq_true_iff.mp z).2
          have z2 : (!inV (.str x) (acc.map V.str)) = true := z2
          rw [hin] at z2
          have hx : x ∉ acc := fun hm => by
            rw [decide_eq_true hm] at z2
            cases z2
          rw [if_neg hx] at k
          refine s_push (rd_var (i := 1) rfl) hf (rd_second (tm := .any x) (rd_var rfl) ht _ ⟨f, _, .str x, rfl, rfl, hf, szl (by rw [List.length_map]; have : acc.length + 1 ≤ 100000 := hsz; omega), ?_⟩)
          refine s_if (rdT_test (rd_eqS (rd_tag (rd_var rfl) (ht.ex (tupex_ls hf))) rd_c)) (fun z => ?_) fun _ => ?_
          · rw [dea_any] at z; cases z
          · refine s_ret (v := .ref f) (rd_var rfl) ?_
            rw [List.map_append] at k
            exact k
        · rw [dec_any, Bool.true_and] at z
          have z2 : (!inV (.str x) (acc.map V.str)) = false := z
          rw [hin] at z2
          have hx : x ∈ acc := by
            by_cases hm : x ∈ acc
            · exact hm
            · rw [decide_eq_false hm] at z2
              cases z2
          rw [if_pos hx, upd_id hf] at k
          refine s_if (rdT_test (rd_eqS (rd_tag (rd_var rfl) ht) rd_c)) (fun z => ?_) fun _ => ?_
          · rw [dea_any] at z; cases z
          · exact s_ret (v := .ref f) (rd_var rfl) k
      | num i =>
        have k : Q (.ref f) (upd H f (.lst (acc.map V.str))) := k
        rw [upd_id hf] at k
        refine s_if (rdT_and (b := false) (rdT_test (rd_eqS (rd_tag (rd_var rfl) ht) rd_c)) (fun z => ?_)) (fun z => ?_) fun _ => ?_
        · rw [dec_num] at z; cases z
        · rw [dec_num] at z; cases z
        refine s_if (rdT_test (rd_eqS (rd_tag (rd_var rfl) ht) rd_c)) (fun z => ?_) fun _ => ?_
        · rw [dea_num] at z; cases z
        · exact s_ret (v := .ref f) (rd_var rfl) k
      | app g ks =>
        refine s_if (rdT_and (b := false) (rdT_test (rd_eqS (rd_tag (rd_var rfl) ht) rd_c)) (fun z => ?_)) (fun z => ?_) fun _ => ?_
        · rw [dec_app] at z; cases z
        · rw [dec_app] at z; cases z
        refine s_if (rdT_test (rd_eqS (rd_tag (rd_var rfl) ht) rd_c)) (fun _ => ?_) fun z => ?_
        · obtain ⟨ta, tk, kv, rfl, ht3, hk3, hks⟩ := ht.kids
          have hkl := hks.length
          have evk : (Tm.app g ks : PT).vars = varsT ks := Tm.vars_app g ks
          rw [evk] at hsz k
          have tx : ∀ l, TupEx H (upd H f (.lst l)) := fun l => tupex_ls hf
          have nkf : tk ≠ f := fun z => by rw [z, hf] at hk3; cases hk3
          refine ⟨.ref ta, rfl, ta, _, ((2 : Nat) : Int), .ref tk, rfl, rfl, SqT.of ht3, atI_nat rfl, tk, rfl, ⟨_, SqT.of hk3⟩, ?_⟩
          refine for_tup (xs := kv) (fun j τ U => ∃ x2, τ = [some (.ref ta), some (.ref f), x2] ∧ U = upd H f (.lst ((firstsF acc (varsT (ks.take j))).map V.str))) ⟨none, rfl, (upd_id hf).symm⟩ (fun j τ U _ h => ?_) (fun j x τ U hx h => ?_) (fun τ U h => ?_)
          · obtain ⟨x2, rfl, rfl⟩ := h
            exact SqT.of (by rw [upd_ne nkf]; exact hk3)
          · obtain ⟨x2, rfl, rfl⟩ := h
            obtain ⟨t', hti, hrt⟩ := hks.got hx
            obtain ⟨k1, k2, k3⟩ := kid_size (f := g) hti
            have e1 : varsT (ks.take (j + 1)) = varsT (ks.take j) ++ t'.vars := by
              rw [take_snoc hti, varsT_app, varsT_cons, varsT_nil, List.append_nil]
            have e2 : (varsT ks).length = (varsT (ks.take (j + 1))).length + (varsT (ks.drop (j + 1))).length := by
              rw [← List.length_append, ← varsT_app, List.take_append_drop]
            have e3 := len_firstsF (l := varsT (ks.take j)) (acc := acc)
            rw [e1, List.length_append] at e2
            refine x_cl (sp := spLNamed n) (ra_cons (rd_var rfl) (ra_cons (rd_var rfl) ra_nil)) ⟨t', x, f, _, rfl, hrt.ex (tx _), by omega, upd_same, by omega, ?_⟩
            exact ⟨_, rfl, by rw [upd_upd, e1, firstsF_app]⟩
          · obtain ⟨x2, rfl, rfl⟩ := h
            rw [hkl, List.take_length]
            exact s_ret (v := .ref f) (rd_var rfl) k
        · rw [dea_app] at z; cases z
end
end G35

/-! GLaw9 -/
set_option Elab.async false
set_option linter.all false
set_option maxRecDepth 100000
set_option maxHeartbeats 4000000
namespace G35
open PySem PySem.Spec PyProof.Rows L2
/-! ### the law's anew, marked -/
structure LT (n : Nat) (t : PT) : Prop where
  dep : t.depth ≤ n
  kids : ∀ f ks, Tm.app f ks ∈ t.apps → ks.length ≤ 100000
  vars : t.vars.length ≤ 50000
def spLAnew (n : Nat) : Sp := fun vs H Q _ => ∃ (t : PT) (v : V), vs = [v] ∧ RepT H t v ∧ LT n t ∧ ∀ v' H', Same H H' → RepT H' (toldBy (firsts t.vars) t) v' → Q v' H'
def spLMarked (n : Nat) : Sp := fun vs H Q _ => ∃ (t : PT) (v : V) (k : Nat), vs = [v, .int (k : Int)] ∧ RepT H t v ∧ LT n t ∧ k ≤ 1000 ∧ (∀ x ∈ t.vars, x.length ≤ 1000) ∧ ∀ v' H', Same H H' → RepT H' (markT k t) v' → Q v' H'
section
variable {P : Program} {w : World} {K : PySem.W.Frag} {mg : Str → Option Value} {base : Heap}
theorem sc_lanew : FnScope ["_law_term", "_law_names_here", "_law_name"] ["_law_term"] d_law_anew.scope := ⟨rfl, rfl, rfl, by decide +kernel, rfl, by decide +kernel, by decide +kernel⟩
theorem sc_lmarked : FnScope ["_law_term", "_law_n", "_law_names_here", "_law_name"] ["_law_term", "_law_n"] d_law_marked.scope := ⟨rfl, rfl, rfl, by decide +kernel, rfl, by decide +kernel, by decide +kernel⟩
theorem ok_lanew (T : T35 K mg) (n : Nat) : Cl P w K mg base CX0 (n + 3) "_law_anew" ["_law_term"] (spLAnew n) := by
  have cN := ok_lnamed (P := P) (w := w) (base := base) T n
  have cC := ok_lcalled (P := P) (w := w) (base := base) T n
  refine cl_of (d := d_law_anew) T 43 rfl rfl rfl rfl sc_lanew (fun vs H Q E h => ?_) (fun _ _ _ _ _ _ us hl => match us, hl with | [_], _ => rfl) (fun cdv A outer s H vs Q E hr h => ?_)
  · obtain ⟨t, v, rfl, _⟩ := h
    rfl
  · obtain ⟨t, v, rfl, ht, lt, k⟩ := h
    have hu := hu_of hr
    refine ⟨_, (pss_cons (ps_set (i := 1) sc_lanew.nd rfl (Or.inl rfl) pe_dnewK) (pss_cons (ps_for PassesOwn.never rfl (pi_list (pe_cl cN hr (by omega) rfl (pa_cons (pv 0) (pa_cons (pe_lst pa_nil) pa_nil)))) (pg_name (i := 2) sc_lanew.nd rfl (Or.inl rfl)) (pss_one (ps_dput hu (pv 1) (pv 2) (pe_op op_add_str pe_str (pe_callTy call_str_int rfl (T.free 4 _ rfl) PyProof.Rows.boot_str (pa_cons (pe_op op_add (pe_callB call_lenD rfl (T.free 0 _ rfl) PySem.boot_len (pa_cons (pv 1) pa_nil)) pe_int) pa_nil))) rfl))) (pss_one (ps_ret (pe_cl cC hr (by omega) rfl (pa_cons (pv 0) (pa_cons (pv 1) pa_nil))))))), ?_⟩
    intro d hd
    refine ⟨v, rfl, sz (by simp), fun q hq => ?_⟩
    have s0 := same_new (o := HO.dK []) hd
    have s1 := same_new (o := HO.lst []) hq
    refine ⟨t, v, q, [], rfl, ht.ex (.of (s0.trans s1)), lt.dep, upd_same, by have := lt.vars; simp; omega, ?_⟩
    rw [upd_upd]
    have hd0 : upd (upd H d (.dK [])) q (.lst ((firsts t.vars).map V.str)) d = some (.dK []) := by
      rw [upd_ne fun z => by rw [← z, upd_same] at hq; cases hq]
      exact upd_same
    have hq1 : upd (upd H d (.dK [])) q (.lst ((firsts t.vars).map V.str)) q = some (.lst ((firsts t.vars).map V.str)) := upd_same
    have hS0 : Same H (upd (upd H d (.dK [])) q (.lst ((firsts t.vars).map V.str))) := s0.trans (same_new hq)
    have nd := nodup_firsts (l := t.vars)
    have hfl : (firsts t.vars).length ≤ 50000 := by
      have a := len_firstsF (l := t.vars) (acc := [])
      have b := lt.vars
      unfold firsts
      have c : ([] : List Str).length = 0 := rfl
      omega
    have hmem : ∀ y, y ∈ firsts t.vars ↔ y ∈ t.vars := fun y => mem_firsts
    unfold firsts at nd hfl hmem hd0 hq1 hS0 k
    generalize hl : firstsF [] t.vars = l at nd hfl hmem hd0 hq1 hS0 k ⊢
    generalize hH1 : upd (upd H d (.dK [])) q (.lst (l.map V.str)) = H1 at hd0 hq1 hS0 ⊢
    have dq : d ≠ q := fun z => by
      rw [z, hq1] at hd0
      cases hd0
    refine ⟨q, rfl, ⟨_, SqL.of hq1⟩, ?_⟩
    refine for_list (xs := l.map V.str) (fun i σ H' => ∃ o, σ = [some v, some (.ref d), o] ∧ Same H H' ∧ H' q = some (.lst (l.map V.str)) ∧ H' d = some (.dK (kvN (fun x => nmU (idx x l)) (l.take i)))) ⟨none, rfl, hS0, hq1, hd0⟩ (fun i σ H' _ p => ?_) (fun i x σ H' hx p => ?_) (fun σ H' p => ?_)
    · obtain ⟨o, _, _, p, _⟩ := p
      exact SqL.of p
    · obtain ⟨o, rfl, hS', hq', hd'⟩ := p
      rw [List.getElem?_map] at hx
      cases hy : l[i]? with
      | none => rw [hy] at hx; cases hx
      | some y =>
        rw [hy] at hx
        cases hx
        have hil := (List.getElem?_eq_some_iff.mp hy).1
        have hkl : (kvN (fun x => nmU (idx x l)) (l.take i)).length = i := by rw [kvN_len, List.length_take]; omega
        have hlen := nmU_len (i := i) (by omega)
        have eU : (Str.ofString "U").length = 1 := rfl
        refine s_dput (v := .str (nmU i)) (rd_op rd_c (fun Q q => ?_) fun Q q => ⟨_, _, rfl, rfl, sz (by show (Str.ofString "U").length + (istr ((i : Int) + 1)).length ≤ _; omega), q⟩) (rd_var rfl) (rd_var rfl) hd' (by rw [hkl]; exact szl (by omega)) ?_
        · refine rd_I0 (g := fun i j => .int (i + j)) (rd_lenD (rd_var rfl) hd') rd_c _ ⟨_, rfl, ?_, ?_⟩
          · rw [hkl]
            exact log2_small (by omega) (by omega)
          · rw [hkl]
            exact q
        · refine ⟨some (.str y), rfl, same_mut hS' hd, ?_, ?_⟩
          · rw [upd_ne dq.symm]
            exact hq'
          · rw [upd_same, take_snoc hy, ← kvN_put (not_take nd hy)]
            show some (HO.dK (putK _ _ (.str (nmU i)))) = some (.dK (putK _ _ (.str (nmU (idx y l)))))
            rw [idx_at nd hy]
    · obtain ⟨o, rfl, hS', hq', hd'⟩ := p
      rw [List.length_map, List.take_length] at hd'
      exact x_cl (sp := spLCalled n) (ra_cons (rd_var rfl) (ra_cons (rd_var rfl) ra_nil)) ⟨t, v, d, _, fun x => nmU (idx x l), rfl, ht.ex (.of hS'), lt.dep, lt.kids, hd', fun y hy => kvN_val (g := fun x => nmU (idx x l)) ((hmem y).mpr hy), fun v' H3 e r => k v' H3 (hS'.trans e) r⟩
theorem ok_lmarked (T : T35 K mg) (n : Nat) : Cl P w K mg base CX0 (n + 3) "_law_marked" ["_law_term", "_law_n"] (spLMarked n) := by
  have cN := ok_lnamed (P := P) (w := w) (base := base) T n
  have cC := ok_lcalled (P := P) (w := w) (base := base) T n
  refine cl_of (d := d_law_marked) T 44 rfl rfl rfl rfl sc_lmarked (fun vs H Q E h => ?_) (fun _ _ _ _ _ _ us hl => match us, hl with | [_, _], _ => rfl) (fun cdv A outer s H vs Q E hr h => ?_)
  · obtain ⟨t, v, m, rfl, _⟩ := h
    rfl
  · obtain ⟨t, v, m, rfl, ht, lt, hm0, hx, k⟩ := h
    have hu := hu_of hr
    have hm := lg m (by omega)
    refine ⟨_, (pss_cons (ps_set (i := 2) sc_lmarked.nd rfl (Or.inl rfl) pe_dnewK) (pss_cons (ps_for PassesOwn.never rfl (pi_list (pe_cl cN hr (by omega) rfl (pa_cons (pv 0) (pa_cons (pe_lst pa_nil) pa_nil)))) (pg_name (i := 3) sc_lmarked.nd rfl (Or.inl rfl)) (pss_one (ps_dput hu (pv 2) (pv 3) (pe_op op_add_str (pe_op op_add_str (pv 3) pe_str) (pe_callTy call_str_int rfl (T.free 4 _ rfl) PyProof.Rows.boot_str (pa_cons (pv 1) pa_nil))) rfl))) (pss_one (ps_ret (pe_cl cC hr (by omega) rfl (pa_cons (pv 0) (pa_cons (pv 2) pa_nil))))))), ?_⟩
    intro d hd
    refine ⟨v, rfl, sz (by simp), fun q hq => ?_⟩
    have s0 := same_new (o := HO.dK []) hd
    have s1 := same_new (o := HO.lst []) hq
    refine ⟨t, v, q, [], rfl, ht.ex (.of (s0.trans s1)), lt.dep, upd_same, by have := lt.vars; simp; omega, ?_⟩
    rw [upd_upd]
    have hd0 : upd (upd H d (.dK [])) q (.lst ((firsts t.vars).map V.str)) d = some (.dK []) := by
      rw [upd_ne fun z => by rw [← z, upd_same] at hq; cases hq]
      exact upd_same
    have hq1 : upd (upd H d (.dK [])) q (.lst ((firsts t.vars).map V.str)) q = some (.lst ((firsts t.vars).map V.str)) := upd_same
    have hS0 : Same H (upd (upd H d (.dK [])) q (.lst ((firsts t.vars).map V.str))) := s0.trans (same_new hq)
    have nd := nodup_firsts (l := t.vars)
    have hfl : (firsts t.vars).length ≤ 50000 := by
      have a := len_firstsF (l := t.vars) (acc := [])
      have b := lt.vars
      unfold firsts
      have c : ([] : List Str).length = 0 := rfl
      omega
    have hmem : ∀ y, y ∈ firsts t.vars ↔ y ∈ t.vars := fun y => mem_firsts
    unfold firsts at nd hfl hmem hd0 hq1 hS0
    generalize hl : firstsF [] t.vars = l at nd hfl hmem hd0 hq1 hS0 ⊢
    generalize hH1 : upd (upd H d (.dK [])) q (.lst (l.map V.str)) = H1 at hd0 hq1 hS0 ⊢
    have dq : d ≠ q := fun z => by
      rw [z, hq1] at hd0
      cases hd0
    refine ⟨q, rfl, ⟨_, SqL.of hq1⟩, ?_⟩
    refine for_list (xs := l.map V.str) (fun i σ H' => ∃ o, σ = [some v, some (.int (m : Int)), some (.ref d), o] ∧ Same H H' ∧ H' q = some (.lst (l.map V.str)) ∧ H' d = some (.dK (kvN (fun x => mk x m) (l.take i)))) ⟨none, rfl, hS0, hq1, hd0⟩ (fun i σ H' _ p => ?_) (fun i x σ H' hx p => ?_) (fun σ H' p => ?_)
    · obtain ⟨o, _, _, p, _⟩ := p
      exact SqL.of p
    · obtain ⟨o, rfl, hS', hq', hd'⟩ := p
      rw [List.getElem?_map] at hx
      cases hy : l[i]? with
      | none => rw [hy] at hx; cases hx
      | some y =>
        rw [hy] at hx
        cases hx
        have hil := (List.getElem?_eq_some_iff.mp hy).1
        have hkl : (kvN (fun x => mk x m) (l.take i)).length = i := by rw [kvN_len, List.length_take]; omega
        have hyl := ‹∀ x ∈ t.vars, x.length ≤ 1000› y ((hmem y).mp (List.mem_of_getElem? hy))
        have hml : (istr (m : Int)).length ≤ 1921 := PyProof.Rows.int_text_len_1921 hm
        have e1 : (Str.ofString ".").length = 1 := rfl
        refine s_dput (v := .str (mk y m)) (rd_op (rd_op (rd_var rfl) rd_c fun Q q => ⟨_, _, rfl, rfl, sz (by omega), q⟩) (fun Q q => ⟨_, rfl, _, rfl, hm, q⟩) fun Q q => ⟨_, _, rfl, rfl, sz ?_, q⟩) (rd_var rfl) (rd_var rfl) hd' (by rw [hkl]; exact szl (by omega)) ?_
        · show (y ++ Str.ofString ".").length + (istr (m : Int)).length ≤ _
          rw [strLen_append]
          omega
        · refine ⟨some (.str y), rfl, same_mut hS' hd, ?_, ?_⟩
          · rw [upd_ne dq.symm]
            exact hq'
          · rw [upd_same, take_snoc hy, ← kvN_put (not_take nd hy)]
    · obtain ⟨o, rfl, hS', hq', hd'⟩ := p
      rw [List.length_map, List.take_length] at hd'
      exact x_cl (sp := spLCalled n) (ra_cons (rd_var rfl) (ra_cons (rd_var rfl) ra_nil)) ⟨t, v, d, _, fun x => mk x m, rfl, ht.ex (.of hS'), lt.dep, lt.kids, hd', fun y hy => kvN_val (g := fun x => mk x m) ((hmem y).mpr hy), fun v' H3 e r => k v' H3 (hS'.trans e) r⟩
end
end G35

/-! GLaw10 -/
set_option Elab.async false
set_option linter.all false
set_option maxRecDepth 100000
set_option maxHeartbeats 4000000
namespace G35
open PySem PySem.Spec PyProof.Rows L2
/-! ### the law's sum, holds -/
def spLSum : Sp := fun vs H Q _ => ∃ (t : PT) (v : V) (i : Int), vs = [v] ∧ RepT H t v ∧ Shp t ∧ NoRem t ∧ reck t = .inl i ∧ ∀ H', Same H H' → Q (.int i) H'
def spLHolds (n : Nat) : Sp := fun vs H Q _ => ∃ (x : Str) (t : PT) (P : Puts) (σ : Str → PT) (rk : Str → Nat) (v : V) (d : Addr), vs = [.str x, v, .ref d] ∧ RepT H t v ∧ PutsAt H d P ∧ Good P σ rk ∧ (t.sub σ).depth ≤ n ∧ Ar (t.sub σ) ∧
  ∀ (b : Bool) H', (b = true ↔ x ∈ (t.sub σ).vars) → Same H H' → Q (.bl b) H'
theorem s_orF {σ : L2.St} {H : Hp} {te : TE} {u : TT} {tu tw : TS} {D : Ends} (h : Rds te σ H (.bl false)) (k : u σ H fun b H1 => if b = true then tu D σ H1 else tw D σ H1) : tIfS (tOr (tTest te) u) tu tw D σ H :=
  h _ ⟨false, rfl, iteF k⟩
theorem rd_isN {σ : L2.St} {H : Hp} {ta : TE} {x : V} (h : Rds ta σ H x) : Rds (tOp (fun x y H Q => y = .non ∧ Q (.bl (decide (x = .non))) H) ta (tC .non)) σ H (.bl (decide (x = .non))) := rd_op h rd_c fun _ q => ⟨rfl, q⟩
theorem reck_inl {t : PT} {i : Int} (h : reck t = .inl i) (hs : Shp t) (hr : NoRem t) : t = .num i ∨ ∃ f a b, t = .app f [.num a, .num b] ∧ f ∈ [wAdd, wSub, wMul, wDiv] ∧ (0 ≤ a ∧ a ≤ 2) ∧ (0 ≤ b ∧ b ≤ 1) ∧ doneM f a b = .inl i := by
  cases t with
  | num n =>
    have e : (Sum.inl n : Int ⊕ Str) = .inl i := h
    cases e
    exact .inl rfl
  | any x =>
    have e : (Sum.inr (Str.ofString "open") : Int ⊕ Str) = .inl i := h
    cases e
  | app f ks =>
    by_cases hf : f ∈ sumW
    · have hm : Tm.app f ks ∈ (Tm.app f ks : PT).apps := by
        rw [Tm.apps_app]
        exact List.mem_cons_self ..
      obtain ⟨a, b, rfl, ha, hb⟩ := hs.sums f ks hm hf
      have hn := hr f _ hm
      rw [reck_sum hf] at h
      refine .inr ⟨f, a, b, rfl, ?_, ha, ⟨hb.1, hb.2⟩, h⟩
      have hf : f ∈ [wAdd, wSub, wMul, wDiv, wMod] := hf
      simp only [List.mem_cons, List.not_mem_nil, or_false] at hf ⊢
      rcases hf with e | e | e | e | e
      · exact .inl e
      · exact .inr (.inl e)
      · exact .inr (.inr (.inl e))
      · exact .inr (.inr (.inr e))
      · exact absurd e hn
    · rw [reck_kind hf] at h
      cases h
section
variable {P : Program} {w : World} {K : PySem.W.Frag} {mg : Str → Option Value} {base : Heap}
theorem sc_lsum : FnScope ["_law_term", "_law_left", "_law_right"] ["_law_term"] d_law_sum.scope := ⟨rfl, rfl, rfl, by decide +kernel, rfl, by decide +kernel, by decide +kernel⟩
theorem sc_lholds : FnScope ["_law_name", "_law_term", "_law_puts", "_law_kid"] ["_law_name", "_law_term", "_law_puts"] d_law_holds.scope := ⟨rfl, rfl, rfl, by decide +kernel, rfl, by decide +kernel, by decide +kernel⟩
theorem ok_lsumN (T : T35 K mg) : Cl P w K mg base CX0 1 "_law_sum" ["_law_term"] spNum := by
  refine cl_of (d := d_law_sum) T 45 rfl rfl rfl rfl sc_lsum (fun vs H Q E h => ?_) (fun _ _ _ _ _ _ us hl => match us, hl with | [_], _ => rfl) (fun cdv A outer s H vs Q E hr h => ?_)
  · obtain ⟨i, v, rfl, _⟩ := h
    rfl
  · obtain ⟨i, v, rfl, ht, k⟩ := h
    refine ⟨_, pss_cons (ps_if (pt_cmpR op_eq (pe_ix ix_tup (pv 0) pe_int (fun _ _ => rfl)) pe_str (nomark _)) (pss_one (ps_ret (pe_ix ix_tup (pv 0) pe_int (fun _ _ => rfl)))) pss_nil) pss_never, ?_⟩
    refine s_if (rdT_test (rd_eqS (rd_tag (rd_var rfl) ht) rd_c)) (fun _ => ?_) fun z => ?_
    · refine s_ret (rd_second (tm := .num i) (rd_var rfl) ht) ?_; exact k
    · rw [den_num] at z; cases z
theorem ok_lsum (T : T35 K mg) : Cl P w K mg base CX0 2 "_law_sum" ["_law_term"] spLSum := by
  have cS := ok_lsumN (P := P) (w := w) (base := base) T
  refine cl_of (d := d_law_sum) T 45 rfl rfl rfl rfl sc_lsum (fun vs H Q E h => ?_) (fun _ _ _ _ _ _ us hl => match us, hl with | [_], _ => rfl) (fun cdv A outer s H vs Q E hr h => ?_)
  · obtain ⟨t, v, i, rfl, _⟩ := h
    rfl
  · obtain ⟨t, v, i, rfl, ht, hsh, hrm, hrk, k⟩ := h
    refine ⟨_, (pss_cons (ps_if (pt_cmpR op_eq (pe_ix ix_tup (pv 0) pe_int (fun _ _ => rfl)) pe_str (nomark _)) (pss_one (ps_ret (pe_ix ix_tup (pv 0) pe_int (fun _ _ => rfl)))) pss_nil) (pss_cons (ps_if (PW.pt (pw_or (pt_cmpR op_eq (pe_ix ix_tup (pv 0) pe_int (fun _ _ => rfl)) pe_str (nomark _)) (pw_or1 (pt_cmpR op_notIn_seq (pe_ix ix_tup (pv 0) pe_int (fun _ _ => rfl)) (pe_tup (pa_cons pe_str (pa_cons pe_str (pa_cons pe_str (pa_cons pe_str pa_nil))))) rfl)))) (pss_one (ps_ret pe_non)) pss_nil) (pss_cons (ps_set (i := 1) sc_lsum.nd rfl (Or.inl rfl) (pe_cl cS hr (by omega) rfl (pa_cons (pe_ix ix_tup (pe_ix ix_tup (pv 0) pe_int (fun _ _ => rfl)) pe_int (fun _ _ => rfl)) pa_nil))) (pss_cons (ps_set (i := 2) sc_lsum.nd rfl (Or.inl rfl) (pe_cl cS hr (by omega) rfl (pa_cons (pe_ix ix_tup (pe_ix ix_tup (pv 0) pe_int (fun _ _ => rfl)) pe_int (fun _ _ => rfl)) pa_nil))) (pss_cons (ps_if (PW.pt (pw_or (pt_cmpR op_isN (pv 1) pe_non (nomark _)) (pw_or (pt_cmpR op_isN (pv 2) pe_non (nomark _)) (pw_or1 (PW.pt (pw_and (pt_cmpR op_eq (pe_ix ix_tup (pv 0) pe_int (fun _ _ => rfl)) pe_str (nomark _)) (pw_and1 (pt_cmpR op_eq (pv 2) pe_int (nomark _))))))))) (pss_one (ps_ret pe_non)) pss_nil) (pss_cons (ps_if (pt_cmpR op_eq (pe_ix ix_tup (pv 0) pe_int (fun _ _ => rfl)) pe_str (nomark _)) (pss_one (ps_ret (pe_op op_fdiv (pe_op op_sub (pv 1) (pe_op op_mod (pv 1) (pv 2))) (pv 2)))) pss_nil) (pss_one (ps_ret (pe_ix ix_list (pe_lst (pa_cons (pe_op op_add (pv 1) (pv 2)) (pa_cons (pe_op op_sub (pv 1) (pv 2)) (pa_cons (pe_op op_mul (pv 1) (pv 2)) pa_nil)))) (pe_bm PySem.F.plainAttrs_list PySem.F.slot_list_index PySem.F.type_list_index mt_index (pe_lst (pa_cons pe_str (pa_cons pe_str (pa_cons pe_str pa_nil)))) (pa_cons (pe_ix ix_tup (pv 0) pe_int (fun _ _ => rfl)) pa_nil)) (fun _ _ => rfl)))))))))), ?_⟩
    rcases reck_inl hrk hsh hrm with rfl | ⟨f, a, b, rfl, hf, ha, hb, hd⟩
    · refine s_if (rdT_test (rd_eqS (rd_tag (rd_var rfl) ht) rd_c)) (fun _ => ?_) fun z => ?_
      · refine s_ret (rd_second (tm := .num i) (rd_var rfl) ht) ?_; exact k H (Same.refl _)
      · rw [den_num] at z; cases z
    · refine s_if (rdT_test (rd_eqS (rd_tag (rd_var rfl) ht) rd_c)) (fun z => ?_) fun _ => ?_
      · rw [den_app] at z; cases z
      have tagA : decide (V.str (tag (.app f [.num a, .num b] : PT)) = V.str ("any" : Str)) = false := dec_app f _
      refine s_orF (te := tOp rEq (tOp (rIxT K) (tVar 0) (tC (.int 0))) (tC (.str "any"))) ?_ ?_
      · rw [← tagA]
        exact rd_eqS (rd_tag (rd_var rfl) ht) rd_c
      obtain ⟨ta, tk', kv, rfl, ht3, hk3, v1, r1, rfl, h1, v2, r2, rfl, h2, e3⟩ := ht.kids
      refine ⟨.ref ta, rfl, ta, _, ((1 : Nat) : Int), .str f, rfl, rfl, SqT.of ht3, atI_nat rfl, sz (by simp), fun q hq => ⟨q, _, rfl, .inr (SqT.of upd_same), rfl, rfl, _, rfl, ?_⟩⟩
      have hin : inV (.str f) [.str "+", .str "-", .str "*", .str "/"] = decide (f ∈ ([wAdd, wSub, wMul, wDiv] : List Str)) := inV_strs f ["+", "-", "*", "/"]
      rw [hin, decide_eq_true hf]
      refine iteF ?_
      have s1 := same_new (o := HO.tup [.str "+", .str "-", .str "*", .str "/"]) hq
      generalize hH1 : upd H q (.tup [.str "+", .str "-", .str "*", .str "/"]) = H1 at s1 ⊢
      have ht3' := s1 _ _ ht3
      have hk3' := s1 _ _ hk3
      refine s_asg (x_cl (sp := spNum) (ra_cons (rd_ixT (n := 0) (rd_ixT (n := 2) (rd_var rfl) rd_c ht3' rfl) rd_c hk3' rfl) ra_nil) ⟨a, v1, rfl, h1.ex (.of s1), ?_⟩)
      refine s_asg (x_cl (sp := spNum) (ra_cons (rd_ixT (n := 1) (rd_ixT (n := 2) (rd_var rfl) rd_c ht3' rfl) rd_c hk3' rfl) ra_nil) ⟨b, v2, rfl, h2.ex (.of s1), ?_⟩)
      have sec : Rds (tOp (rIxT K) (tVar 0) (tC (.int 1))) [some (.ref ta), some (.int a), some (.int b)] H1 (.str f) := rd_ixT (n := 1) (rd_var rfl) rd_c ht3' rfl
      have fin : ∀ (c : Bool), (f = wDiv ∧ b = 0 → False) → RdT (tOr (tTest (tOp (fun x y H Q => y = V.non ∧ Q (.bl (decide (x = V.non))) H) (tVar 1) (tC .non))) (tOr (tTest (tOp (fun x y H Q => y = V.non ∧ Q (.bl (decide (x = V.non))) H) (tVar 2) (tC .non))) (tAnd (tTest (tOp rEq (tOp (rIxT K) (tVar 0) (tC (.int 1))) (tC (.str "/")))) (tTest (tOp rEq (tVar 2) (tC (.int 0))))))) [some (.ref ta), some (.int a), some (.int b)] H1 false := by
        intro _ hnb
        have e : (decide (V.int a = V.non) || (decide (V.int b = V.non) || (decide (V.str f = V.str ("/" : Str)) && decide (V.int b = V.int 0)))) = false := by
          have e1 : decide (V.int a = V.non) = false := rfl
          have e2 : decide (V.int b = V.non) = false := rfl
          rw [e1, e2, Bool.false_or, Bool.false_or]
          by_cases h : f = wDiv
          · have : b ≠ 0 := fun z => hnb ⟨h, z⟩
            rw [decide_eq_false (fun z : V.int b = V.int 0 => this (by injection z)), Bool.and_false]
          · have h' : ¬ f = Str.ofString "/" := h
            rw [decS, decide_eq_false h', Bool.false_and]
        rw [← e]
        exact rdT_or (rdT_test (rd_isN (rd_var rfl))) fun _ => rdT_or (rdT_test (rd_isN (rd_var rfl))) fun _ => rdT_and (rdT_test (rd_eqS sec rd_c)) fun _ => rdT_test (rd_eqI (rd_var rfl) rd_c)
      refine s_if (fin true ?_) (fun z => nomatch z) fun _ => ?_
      · rintro ⟨rfl, rfl⟩
        have : doneM wDiv a 0 = .inr (Str.ofString "nought") := rfl
        rw [this] at hd
        cases hd
      refine s_if (rdT_test (rd_eqS sec rd_c)) (fun z => ?_) fun z => ?_
      · rw [decS, decide_eq_true_iff] at z
        have z : f = wDiv := z
        subst z
        have hb0 : b ≠ 0 := fun z => by
          subst z
          have : doneM wDiv a 0 = .inr (Str.ofString "nought") := rfl
          rw [this] at hd
          cases hd
        have hb1 : b = 1 := by omega
        subst hb1
        have e1 : doneM wDiv a 1 = .inl a := rfl
        rw [e1] at hd
        have hai : a = i := by injection hd
        rw [← hai] at k
        refine s_ret (v := .int ((a - a % 1) / 1)) (rd_I (C := CDiv) (g := fun i j => .int (i / j)) (rd_I0 (g := fun i j => .int (i - j)) (rd_var rfl) (rd_I (g := fun i j => .int (i % j)) (rd_var rfl) (rd_var rfl) (by decide))) (rd_var rfl) ⟨by omega, by omega⟩) ?_
        have e3 : (a - a % 1) / 1 = a := by omega
        rw [e3]
        exact k H1 s1
      · rw [decS, decide_eq_false_iff_not] at z
        have z : f ≠ wDiv := z
        have hcm : CMul a b := .inl ⟨by omega, by omega⟩
        refine ⟨.int a, rfl, .int b, rfl, a, b, rfl, rfl, .int a, rfl, .int b, rfl, a, b, rfl, rfl, .int a, rfl, .int b, rfl, a, b, rfl, rfl, hcm, sz (by simp), fun q1 hq1 => ⟨sz (by simp), fun q2 hq2 => ⟨.inl ⟨rfl, _, SqL.of upd_same⟩, ?_⟩⟩⟩
        have t1 := same_new (o := HO.lst [.int (a + b), .int (a - b), .int (a * b)]) hq1
        have t2 := same_new (o := HO.lst [.str "+", .str "-", .str "*"]) hq2
        have S2 := (s1.trans t1).trans t2
        have l1 := t2 _ _ (upd_same (H := H1) (a := q1) (o := HO.lst [.int (a + b), .int (a - b), .int (a * b)]))
        refine ⟨.ref ta, rfl, ta, _, ((1 : Nat) : Int), .str f, rfl, rfl, SqT.of ((t1.trans t2) _ _ ht3'), atI_nat rfl, ?_⟩
        have fin2 : ∀ (j : Nat) (y : Str) (r : Int), [V.str "+", .str "-", .str "*"][j]? = some (.str y) → y = f → (∀ (m : Nat) (z' : V), m < j → [V.str "+", .str "-", .str "*"][m]? = some z' → eqV z' (.str f) = false) → [V.int (a + b), .int (a - b), .int (a * b)][j]? = some (.int r) → r = i → ∃ (a_1 : Addr) (ys : List V) (y : V) (j : Nat) (z : V), V.ref q2 = V.ref a_1 ∧ [V.str f] = [y] ∧ SqL K (upd (upd H1 q1 (.lst [.int (a + b), .int (a - b), .int (a * b)])) q2 (.lst [.str "+", .str "-", .str "*"])) a_1 ys ∧ flatV y = true ∧ ys.all flatV = true ∧ ys[j]? = some z ∧ eqV z y = true ∧ (∀ (m : Nat) (z' : V), m < j → ys[m]? = some z' → eqV z' y = false) ∧
            rIxL K (.ref q1) (.int (j : Int)) (upd (upd H1 q1 (.lst [.int (a + b), .int (a - b), .int (a * b)])) q2 (.lst [.str "+", .str "-", .str "*"])) Q := by
          intro j y r h1 h2 h3 h4 h5
          subst h2 h5
          refine ⟨q2, _, .str y, j, .str y, rfl, rfl, SqL.of upd_same, rfl, rfl, h1, ?_, h3, q1, _, (j : Int), .int r, rfl, rfl, SqL.of l1, atI_nat h4, k _ S2⟩
          show (y == y) = true
          exact beq_self_eq_true y
        have hf : f ∈ [wAdd, wSub, wMul, wDiv] := hf
        simp only [List.mem_cons, List.not_mem_nil, or_false] at hf
        rcases hf with rfl | rfl | rfl | rfl
        · have e1 : doneM wAdd a b = .inl (a + b) := rfl
          rw [e1] at hd
          exact fin2 0 wAdd (a + b) rfl rfl (fun m z' hm => absurd hm (by omega)) rfl (by injection hd)
        · have e1 : doneM wSub a b = .inl (a - b) := rfl
          rw [e1] at hd
          refine fin2 1 wSub (a - b) rfl rfl (fun m z' hm he => ?_) rfl (by injection hd)
          match m, hm, he with
          | 0, _, he => cases he; decide +kernel
        · have e1 : doneM wMul a b = .inl (a * b) := rfl
          rw [e1] at hd
          refine fin2 2 wMul (a * b) rfl rfl (fun m z' hm he => ?_) rfl (by injection hd)
          match m, hm, he with
          | 0, _, he => cases he; decide +kernel
          | 1, _, he => cases he; decide +kernel
        · exact absurd rfl z
end
end G35

/-! GLaw11 -/
set_option Elab.async false
set_option linter.all false
set_option maxRecDepth 100000
set_option maxHeartbeats 4000000
namespace G35
open PySem PySem.Spec PyProof.Rows L2
theorem inV_true : ∀ bs : List Bool, inV (.bl true) (bs.map V.bl) = true ↔ true ∈ bs
  | [] => by simp [inV]
  | b :: bs => by
    have ih := inV_true bs
    unfold inV at ih ⊢
    rw [List.map_cons, List.any_cons, Bool.or_eq_true, ih, List.mem_cons]
    have e : eqV (.bl b) (.bl true) = true ↔ true = b := by
      cases b <;> decide
    rw [e]
theorem bls_flat : ∀ l : List Bool, (l.map V.bl).all flatV = true
  | [] => rfl
  | x :: l => by
    rw [List.map_cons, List.all_cons, bls_flat l]
    rfl
section
variable {P : Program} {w : World} {K : PySem.W.Frag} {mg : Str → Option Value} {base : Heap}
theorem ok_lholds (T : T35 K mg) : ∀ n : Nat, Cl P w K mg base CX0 (n + 2) "_law_holds" ["_law_name", "_law_term", "_law_puts"] (spLHolds n)
  | 0 => by
    refine cl_of (d := d_law_holds) T 38 rfl rfl rfl rfl sc_lholds (fun vs H Q E h => ?_) (fun _ _ _ _ _ _ us hl => match us, hl with | [_, _, _], _ => rfl) (fun cdv A outer s H vs Q E hr h => ?_)
    · obtain ⟨x, t, P, σ, rk, v, d, rfl, _⟩ := h
      rfl
    · obtain ⟨x, t, P, σ, rk, v, d, rfl, ht, hP, G, hn, _⟩ := h
      have := (t.sub σ).depth_pos
      omega
  | n + 1 => by
    have ih := ok_lholds T n
    have cW := ok_lwalk (P := P) (w := w) (base := base) T
    refine cl_of (d := d_law_holds) T 38 rfl rfl rfl rfl sc_lholds (fun vs H Q E h => ?_) (fun _ _ _ _ _ _ us hl => match us, hl with | [_, _, _], _ => rfl) (fun cdv A outer s H vs Q E hr h => ?_)
    · obtain ⟨x, t, P, σ, rk, v, d, rfl, _⟩ := h
      rfl
    · obtain ⟨x, t, P', σ, rk, v, d, rfl, ht, hP, G, hn, hA, k⟩ := h
      have hu := hu_of hr
      refine ⟨_, (pss_cons (ps_set (i := 1) sc_lholds.nd rfl (Or.inl rfl) (pe_cl cW hr (by omega) rfl (pa_cons (pv 1) (pa_cons (pv 2) pa_nil)))) (pss_cons (ps_if (pt_cmpR op_ne (pe_ix ix_tup (pv 1) pe_int (fun _ _ => rfl)) pe_str (nomark _)) (pss_one (ps_ret (pe_cmpR (op_eqF hu) (pv 1) (pe_tup (pa_cons pe_str (pa_cons (pv 0) pa_nil))) (nomark _)))) pss_nil) (pss_one (ps_ret (pe_cmpR op_in_seq pe_bl (pe_lc (own := [("_law_kid", 3)]) (g := gName 3) (tt := tYes) rfl sc_lholds.nd (pi_tup (pe_ix ix_tup (pv 1) pe_int (fun _ _ => rfl))) (blkOk_by (N := ["_law_name", "_law_term", "_law_puts", "_law_kid"]) (sc := d_law_holds.scope) (by decide +kernel)) (fun _ _ _ _ _ => (pg_name (i := 3) sc_lholds.nd rfl (Or.inl rfl))) (fun _ _ _ _ _ => pts_nil) (fun s2 H2 C2 cl2 fp2 => (pe_cl ih hr (by omega) rfl (pa_cons (pv 0) (pa_cons (pv 3) (pa_cons (pv 2) pa_nil)))))) rfl))))), ?_⟩
      obtain ⟨r, hw⟩ := G.walks t
      refine x_cl (sp := spWalked) (ra_cons (rd_var rfl) (ra_cons (rd_var rfl) ra_nil)) ⟨t, r, P', v, d, rfl, ht, hP, hw, fun v2 hr2 => ?_⟩
      have hrs := walked_sub G hw
      rw [← hrs] at hA hn k
      cases r with
      | num i =>
        refine s_if (rdT_test (rd_neS (rd_tag (rd_var rfl) hr2) rd_c)) (fun _ => ?_) fun z => ?_
        · obtain ⟨a, rfl, ha⟩ := hr2
          refine ⟨.ref a, rfl, .str x, rfl, sz (by simp), fun q hq => ⟨a, q, _, _, rfl, rfl, SqT.of (same_new hq _ _ ha), SqT.of upd_same, fun j u w e1 e2 => ?_, ?_⟩⟩
          · match j, e1, e2 with
            | 0, e1, e2 => cases e1; cases e2; exact ⟨rfl, rfl⟩
            | 1, e1, e2 => cases e1; cases e2; exact ⟨rfl, rfl⟩
          · refine k _ _ ?_ (same_new hq)
            rw [Tm.sub_num, Tm.vars_num, decide_eq_true_iff]
            constructor
            · intro z
              cases z
            · intro z
              cases z
        · rw [dea_num] at z; cases z
      | any y =>
        refine s_if (rdT_test (rd_neS (rd_tag (rd_var rfl) hr2) rd_c)) (fun _ => ?_) fun z => ?_
        · obtain ⟨a, rfl, ha⟩ := hr2
          refine ⟨.ref a, rfl, .str x, rfl, sz (by simp), fun q hq => ⟨a, q, _, _, rfl, rfl, SqT.of (same_new hq _ _ ha), SqT.of upd_same, fun j u w e1 e2 => ?_, ?_⟩⟩
          · match j, e1, e2 with
            | 0, e1, e2 => cases e1; cases e2; exact ⟨rfl, rfl⟩
            | 1, e1, e2 => cases e1; cases e2; exact ⟨rfl, rfl⟩
          · refine k _ _ ?_ (same_new hq)
            rw [Tm.sub_any, G.free y (walked_free hw), Tm.vars_any, decide_eq_true_iff, List.mem_singleton]
            constructor
            · intro z
              injection z with _ z
              injection z with z _
              injection z with z
              exact z.symm
            · intro z
              rw [z]
        · rw [dea_any] at z; cases z
      | app f ks =>
        refine s_if (rdT_test (rd_neS (rd_tag (rd_var rfl) hr2) rd_c)) (fun z => ?_) fun _ => ?_
        · rw [dea_app] at z; cases z
        obtain ⟨ta, tk, kv, rfl, ht3, hk3, hks⟩ := hr2.kids
        have hkl := hks.length
        rw [Tm.sub_app] at hA hn k
        have hk2 := hA.two
        rw [List.length_map] at hk2
        refine ⟨.ref ta, rfl, ta, _, ((2 : Nat) : Int), .ref tk, rfl, rfl, SqT.of ht3, atI_nat rfl, tk, rfl, ⟨_, SqT.of hk3⟩, fun D hD => ?_⟩
        refine lc_tup (xs := kv) (fun i H' => Same H H' ∧ ∃ bs : List Bool, H' D = some (.lst (bs.map V.bl)) ∧ bs.length = i ∧ (true ∈ bs ↔ ∃ t' ∈ ks.take i, x ∈ (t'.sub σ).vars)) ⟨same_new hD, [], upd_same, rfl, by simp⟩ (fun i H' _ p => SqT.of (p.1 _ _ hk3)) (fun i y H' hx p => ?_) (fun H' p => ?_)
        · obtain ⟨hS, bs, hbs, hbl, hbt⟩ := p
          obtain ⟨t', hti, hrt⟩ := hks.got hx
          have hil := (List.getElem?_eq_some_iff.mp hti).1
          have hm : t'.sub σ ∈ ks.map (Tm.sub σ) := List.mem_map.mpr ⟨t', List.mem_of_getElem? hti, rfl⟩
          have k2 := Tm.depth_kid (f := f) hm
          refine ⟨rfl, ?_⟩
          refine x_cl (sp := spLHolds n) (ra_cons (rd_var rfl) (ra_cons (rd_var rfl) (ra_cons (rd_var rfl) ra_nil))) ⟨x, t', P', σ, rk, y, d, rfl, hrt.ex (.of hS), hP.same hS, G, by omega, hA.kid hm, fun b H2 hb e => ?_⟩
          refine ⟨_, e _ _ hbs, szl (by rw [List.length_map]; omega), same_mut (hS.trans e) hD, bs ++ [b], ?_, by rw [List.length_append, hbl]; rfl, ?_⟩
          · rw [upd_same, List.map_append]
            rfl
          · rw [List.mem_append, hbt, take_snoc hti, List.mem_singleton]
            constructor
            · rintro (⟨u, h1, h2⟩ | h)
              · exact ⟨u, List.mem_append_left _ h1, h2⟩
              · exact ⟨t', List.mem_append_right _ (List.mem_singleton.mpr rfl), hb.mp h.symm⟩
            · rintro ⟨u, h1, h2⟩
              rcases List.mem_append.mp h1 with h | h
              · exact .inl ⟨u, h, h2⟩
              · rw [List.mem_singleton.mp h] at h2
                exact .inr (hb.mpr h2).symm
        · obtain ⟨hS, bs, hbs, hbl, hbt⟩ := p
          rw [hkl, List.take_length] at hbt
          refine ⟨D, _, rfl, .inl (SqL.of hbs), rfl, bls_flat bs, ?_⟩
          refine k _ _ ?_ hS
          show inV (.bl true) (bs.map V.bl) = true ↔ _
          rw [inV_true, hbt, Tm.vars_app]
          constructor
          · rintro ⟨u, h1, h2⟩
            exact List.mem_flatMap.mpr ⟨_, List.mem_map.mpr ⟨u, h1, rfl⟩, h2⟩
          · intro h
            obtain ⟨u, h1, h2⟩ := List.mem_flatMap.mp h
            obtain ⟨u', h3, rfl⟩ := List.mem_map.mp h1
            exact ⟨u', h3, h2⟩
end
end G35

/-! GLaw12 -/
set_option Elab.async false
set_option linter.all false
set_option maxRecDepth 100000
set_option maxHeartbeats 4000000
namespace G35
open PySem PySem.Spec PyProof.Rows L2
/-! ### the law's one -/
def LF (t : PT) : Prop := Shp t ∧ NoRem t
structure LTm (V : List Str) (t : PT) : Prop where
  f : LF t
  v : ∀ y ∈ t.vars, y ∈ V
structure LG (V : List Str) (P : Puts) (σ : Str → PT) (rk : Str → Nat) : Prop where
  good : Good P σ rk
  ins : In V LF P
theorem NoRem.kid {f : Str} {ks : List PT} (h : NoRem (.app f ks : PT)) {k : PT} (hk : k ∈ ks) : NoRem k := fun g ls hg => h g ls (Tm.apps_kid hk hg)
theorem LTm.kid {V : List Str} {f : Str} {ks : List PT} (h : LTm V (.app f ks)) {k : PT} (hk : k ∈ ks) : LTm V k :=
  ⟨⟨h.f.1.kid hk, h.f.2.kid hk⟩, fun y hy => h.v y (by rw [Tm.vars_app]; exact List.mem_flatMap.mpr ⟨k, hk, hy⟩)⟩
section
variable {V : List Str} {P : Puts} {σ : Str → PT} {rk : Str → Nat}
theorem LG.walk (G : LG V P σ rk) {t r : PT} (h : LTm V t) (hw : Walked P t r) : LTm V r := by
  obtain ⟨n, hw⟩ := hw
  exact Walked.keeps (Φ := LTm V) (fun x s e => ⟨(G.ins.keys x s e).2.2, (G.ins.keys x s e).2.1⟩) h hw
theorem LG.bind (G : LG V P σ rk) {x : Str} {t : PT} (hx : look P x = none) (hV : x ∈ V) (ht : LTm V t) (ho : x ∉ (t.sub σ).vars) : ∃ σ' rk', LG V (P ++ [(x, t)]) σ' rk' := by
  obtain ⟨rk', g⟩ := G.good.bind hx ho
  refine ⟨_, rk', g, fun y s e => ?_, ?_⟩
  · rw [look_app P x t y hx] at e
    by_cases hy : y = x
    · rw [if_pos hy] at e
      cases e
      rw [hy]
      exact ⟨hV, ht.v, ht.f⟩
    · rw [if_neg hy] at e
      exact G.ins.keys y s e
  · have h1 := G.ins.len
    have h2 := cnt_bind (t := t) hx hV
    rw [List.length_append, List.length_singleton]
    omega
theorem LG.shp (G : LG V P σ rk) : ∀ x, Shp (σ x) := good_shp G.good fun x t e => (G.ins.keys x t e).2.2.1
theorem NoRem.sub {θ : Str → PT} {t : PT} (h : NoRem t) (hv : ∀ x ∈ t.vars, NoRem (θ x)) : NoRem (t.sub θ) := by
  revert h hv
  refine Tm.ind (P := fun t : PT => NoRem t → (∀ x ∈ t.vars, NoRem (θ x)) → NoRem (t.sub θ)) (fun n _ _ => ?_) (fun x _ hv => ?_) (fun f ks ih h hv => ?_) t
  · rw [Tm.sub_num]; exact NoRem.num n
  · rw [Tm.sub_any]; exact hv x (by rw [Tm.vars_any]; exact List.mem_cons_self ..)
  · rw [Tm.sub_app]
    refine NoRem.app (h f ks (by rw [Tm.apps_app]; exact List.mem_cons_self ..)) fun k hk => ?_
    obtain ⟨k', hk', rfl⟩ := List.mem_map.mp hk
    exact ih k' hk' (h.kid hk') fun x hx => hv x (by rw [Tm.vars_app]; exact List.mem_flatMap.mpr ⟨k', hk', hx⟩)
theorem LG.rem (G : LG V P σ rk) : ∀ x, NoRem (σ x) := G.good.ind (fun x e => by rw [G.good.free x e]; exact NoRem.any x) fun x t e ih => by
  rw [G.good.put x t e]
  exact NoRem.sub (G.ins.keys x t e).2.2.2 ih
theorem LG.vars (G : LG V P σ rk) : ∀ x, x ∈ V → ∀ y ∈ (σ x).vars, y ∈ V :=
  G.good.ind (fun x e hx y hy => by
    rw [G.good.free x e, Tm.vars_any] at hy
    rw [List.mem_singleton.mp hy]
    exact hx) fun x t e ih hx y hy => by
    rw [G.good.put x t e, Tm.vars_sub] at hy
    obtain ⟨z, hz, hy⟩ := List.mem_flatMap.mp hy
    exact ih z hz ((G.ins.keys x t e).2.1 z hz) y hy
theorem LG.read (G : LG V P σ rk) {t : PT} (h : LTm V t) : LTm V (t.sub σ) :=
  ⟨⟨Shp.sub h.f.1 fun x _ => G.shp x, NoRem.sub h.f.2 fun x _ => G.rem x⟩, fun y hy => by
    rw [Tm.vars_sub] at hy
    obtain ⟨z, hz, hy⟩ := List.mem_flatMap.mp hy
    exact G.vars z (h.v z hz) y hy⟩
end
theorem rd_eqF {K : PySem.W.Frag} {σ : L2.St} {H : Hp} {ta tb : TE} {a b : Addr} {xs ys : List V} (ha : Rds ta σ H (.ref a)) (hb : Rds tb σ H (.ref b)) (e1 : H a = some (.tup xs)) (e2 : H b = some (.tup ys)) (hf : FlatTo xs ys) : Rds (tOp (rEqF K) ta tb) σ H (.bl (decide (xs = ys))) :=
  rd_op ha hb fun _ q => ⟨a, b, xs, ys, rfl, rfl, SqT.of e1, SqT.of e2, hf, q⟩
def spLOne (n : Nat) : Sp := fun vs H Q _ => ∃ (a b : PT) (Vs : List Str) (P : Puts) (σ : Str → PT) (rk : Str → Nat) (θ : Str → PT) (va vb : V) (d : Addr), vs = [va, vb, .ref d] ∧ RepT H a va ∧ RepT H b vb ∧ PutsAt H d P ∧ LG Vs P σ rk ∧ Vs.length ≤ 10000 ∧ LTm Vs a ∧ LTm Vs b ∧ Sol θ P ∧ a.sub θ = b.sub θ ∧ (a.sub θ).depth ≤ n ∧
  ∀ P' d' H' σ' rk', Same H H' → PutsAt H' d' P' → LG Vs P' σ' rk' → (∀ θ', Sol θ' P' ↔ Sol θ' P ∧ a.sub θ' = b.sub θ') → Q (.ref d') H'
theorem for_zipT {K : PySem.W.Frag} {l m : Addr} {xs ys : List V} {g : TG} {tb : TS} {D : Ends} {σ : L2.St} {H : Hp} (he : xs.length = ys.length) (J : Nat → L2.St → Hp → Prop) (j0 : J 0 σ H) (jl : ∀ k τ U, k ≤ xs.length → J k τ U → SqT K U l xs ∧ SqT K U m ys)
    (js : ∀ k x y τ U T, xs[k]? = some x → ys[k]? = some y → J k τ U → U T = none → g (.ref T) τ (upd U T (.tup [x, y])) fun τ2 U2 => tb { D with nx := J (k + 1), ct := J (k + 1), bk := D.nx } τ2 U2) (jd : ∀ τ U, J xs.length τ U → D.nx τ U) :
    ∃ W : Nat → Nat → L2.St → Hp → Prop, (∃ m, W 0 m σ H) ∧ ∀ i k τ U, W i k τ U →
      ((RZ.ItzT K l m).stop i U ∧ D.nx τ U) ∨ ((RZ.ItzT K l m).go i U ∧ ∃ N : L2.St → Hp → Prop, (∀ τ' U', N τ' U' → ∃ m', m' < k ∧ W (i + 1) m' τ' U') ∧ ∀ x U', (RZ.ItzT K l m).yld i U x U' → g x τ U' fun τ2 U2 => tb { D with nx := N, ct := N, bk := D.nx } τ2 U2) := by
  refine ⟨fun k n τ U => n + k = xs.length ∧ J k τ U, ⟨xs.length, rfl, j0⟩, fun k n τ U hw => ?_⟩
  obtain ⟨hn, hJ⟩ := hw
  obtain ⟨hq, hq2⟩ := jl k τ U (by omega) hJ
  cases n with
  | zero =>
    have hk : k = xs.length := by omega
    subst hk
    exact .inl ⟨⟨xs, ys, hq, hq2, .inl (Nat.le_refl _)⟩, jd _ _ hJ⟩
  | succ n =>
    have hk : k < xs.length := by omega
    have e : xs[k]? = some xs[k] := List.getElem?_eq_getElem hk
    have e2 : ys[k]? = some ys[k] := List.getElem?_eq_getElem (by omega)
    refine .inr ⟨⟨xs, ys, _, _, hq, hq2, e, e2⟩, J (k + 1), fun _ _ z => ⟨n, Nat.lt_succ_self n, by omega, z⟩, fun x U' hy => ?_⟩
    obtain ⟨T, x', y', rfl, hT, rfl, h1, h2⟩ := hy
    exact js k x' y' τ U T (h1 xs hq) (h2 ys hq2) hJ hT
theorem s_swapTo {c : TT} {tu tw : TS} {D : Ends} {σ : L2.St} {H : Hp} {b : Bool} {ι : Type} (f : ι → L2.St) (R : ι → Prop) (hc : RdT c σ H b) (h1 : ∃ i, R i ∧ ∀ N : L2.St → Hp → Prop, N (f i) H → if b = true then tu { D with nx := N } σ H else tw { D with nx := N } σ H) (rest : ∀ i, R i → D.nx (f i) H) : tIfS c tu tw D σ H := by
  obtain ⟨i, hR, h⟩ := h1
  exact hc _ (h D.nx (rest i hR))
section
variable {P : Program} {w : World} {K : PySem.W.Frag} {mg : Str → Option Value} {base : Heap}
theorem sc_lone : FnScope ["_law_one_here", "_law_other", "_law_puts", "_law_new", "_law_kid", "_law_kin"] ["_law_one_here", "_law_other", "_law_puts"] d_law_one.scope := ⟨rfl, rfl, rfl, by decide +kernel, rfl, by decide +kernel, by decide +kernel⟩
theorem ok_lone (T : T35 K mg) : ∀ n : Nat, Cl P w K mg base CX0 (n + 3) "_law_one" ["_law_one_here", "_law_other", "_law_puts"] (spLOne n)
  | 0 => by
    refine cl_of (d := d_law_one) T 39 rfl rfl rfl rfl sc_lone (fun vs H Q E h => ?_) (fun _ _ _ _ _ _ us hl => match us, hl with | [_, _, _], _ => rfl) (fun cdv A outer s H vs Q E hr h => ?_)
    · obtain ⟨a, b, Vs, P, σ, rk, θ, va, vb, d, rfl, _⟩ := h
      rfl
    · obtain ⟨a, b, Vs, P, σ, rk, θ, va, vb, d, rfl, ha, hb, hP, G, hV, ta, tb, hθ, he, hn, _⟩ := h
      have := (a.sub θ).depth_pos
      omega
  | n + 1 => by
    have ih := ok_lone T n
    have cW := ok_lwalk (P := P) (w := w) (base := base) T
    have cH := ok_lholds (P := P) (w := w) (base := base) T (n + 1)
    refine cl_of (d := d_law_one) T 39 rfl rfl rfl rfl sc_lone (fun vs H Q E h => ?_) (fun _ _ _ _ _ _ us hl => match us, hl with | [_, _, _], _ => rfl) (fun cdv A outer s H vs Q E hr h => ?_)
    · obtain ⟨a, b, Vs, P, σ, rk, θ, va, vb, d, rfl, _⟩ := h
      rfl
    · obtain ⟨a, b, Vs, P', σ, rk, θ, va, vb, d, rfl, ha, hb, hP, G, hV, hta, htb, hθ, he, hn, k⟩ := h
      have hu := hu_of hr
      refine ⟨_, (pss_cons (ps_if (pt_cmpR op_isN (pv 2) pe_non (nomark _)) (pss_one (ps_ret pe_non)) pss_nil) (pss_cons (ps_set (i := 0) sc_lone.nd rfl (Or.inl rfl) (pe_cl cW hr (by omega) rfl (pa_cons (pv 0) (pa_cons (pv 2) pa_nil)))) (pss_cons (ps_set (i := 1) sc_lone.nd rfl (Or.inl rfl) (pe_cl cW hr (by omega) rfl (pa_cons (pv 1) (pa_cons (pv 2) pa_nil)))) (pss_cons (ps_if (PW.pt (pw_and (pt_cmpR op_ne (pe_ix ix_tup (pv 0) pe_int (fun _ _ => rfl)) pe_str (nomark _)) (pw_and1 (pt_cmpR op_eq (pe_ix ix_tup (pv 1) pe_int (fun _ _ => rfl)) pe_str (nomark _))))) (pss_one (ps_par (i := 0) (j := 1) rfl sc_lone.nd rfl rfl (by decide) rfl rfl (pa_cons (pv 1) (pa_cons (pv 0) pa_nil)) rfl)) pss_nil) (pss_cons (ps_if (pt_cmpR op_eq (pe_ix ix_tup (pv 0) pe_int (fun _ _ => rfl)) pe_str (nomark _)) (pss_cons (ps_if (pt_cmpR (op_eqF hu) (pv 0) (pv 1) (nomark _)) (pss_one (ps_ret (pv 2))) pss_nil) (pss_cons (ps_if (pt_truth (pe_cl cH hr (by omega) rfl (pa_cons (pe_ix ix_tup (pv 0) pe_int (fun _ _ => rfl)) (pa_cons (pv 1) (pa_cons (pv 2) pa_nil)))) (fun _ => rfl)) (pss_one (ps_ret pe_non)) pss_nil) (pss_cons (ps_set (i := 3) sc_lone.nd rfl (Or.inl rfl) (pe_callTy call_dictC rfl (T.free 5 _ rfl) PyProof.Rows.boot_dict (pa_cons (pv 2) pa_nil))) (pss_cons (ps_dput hu (pv 3) (pe_ix ix_tup (pv 0) pe_int (fun _ _ => rfl)) (pv 1) rfl) (pss_one (ps_ret (pv 3))))))) pss_nil) (pss_cons (ps_if (PW.pt (pw_or (pt_cmpR op_eq (pe_ix ix_tup (pv 0) pe_int (fun _ _ => rfl)) pe_str (nomark _)) (pw_or1 (pt_cmpR op_eq (pe_ix ix_tup (pv 1) pe_int (fun _ _ => rfl)) pe_str (nomark _))))) (pss_cons (ps_if (pt_cmpR (op_eqF hu) (pv 0) (pv 1) (nomark _)) (pss_one (ps_ret (pv 2))) pss_nil) (pss_one (ps_ret pe_non))) pss_nil) (pss_cons (ps_if (PW.pt (pw_or (pt_cmpR op_ne (pe_ix ix_tup (pv 0) pe_int (fun _ _ => rfl)) (pe_ix ix_tup (pv 1) pe_int (fun _ _ => rfl)) (nomark _)) (pw_or1 (pt_cmpR op_ne (pe_callB call_len_seq rfl (T.free 0 _ rfl) PySem.boot_len (pa_cons (pe_ix ix_tup (pv 0) pe_int (fun _ _ => rfl)) pa_nil)) (pe_callB call_len_seq rfl (T.free 0 _ rfl) PySem.boot_len (pa_cons (pe_ix ix_tup (pv 1) pe_int (fun _ _ => rfl)) pa_nil)) (nomark _))))) (pss_one (ps_ret pe_non)) pss_nil) (pss_cons (ps_for PassesOwn.never rfl (RZ.pi_zipA rfl (T.free 9 _ rfl) (pa_cons (pe_ix ix_tup (pv 0) pe_int (fun _ _ => rfl)) (pa_cons (pe_ix ix_tup (pv 1) pe_int (fun _ _ => rfl)) pa_nil))) (pg_tup (n := 2) rfl (pgs_cons (pg_name (i := 4) sc_lone.nd rfl (Or.inl rfl)) (pgs_cons (pg_name (i := 5) sc_lone.nd rfl (Or.inl rfl)) pgs_nil))) (pss_one (ps_set (i := 2) sc_lone.nd rfl (Or.inl rfl) (pe_cl ih hr (by omega) rfl (pa_cons (pv 4) (pa_cons (pv 5) (pa_cons (pv 2) pa_nil))))))) (pss_one (ps_ret (pv 2))))))))))), ?_⟩
      obtain ⟨a', wa⟩ := G.good.walks a
      obtain ⟨b', wb⟩ := G.good.walks b
      have hta' := G.walk hta wa
      have htb' := G.walk htb wb
      obtain ⟨na, wa'⟩ := id wa
      obtain ⟨nb, wb'⟩ := id wb
      have ea : ∀ θ', Sol θ' P' → a'.sub θ' = a.sub θ' := fun θ' h => Walked.read h wa'
      have eb : ∀ θ', Sol θ' P' → b'.sub θ' = b.sub θ' := fun θ' h => Walked.read h wb'
      refine s_if (rdT_test (rd_isN (rd_var rfl))) (fun z => nomatch z) fun _ => ?_
      refine s_asg (x_cl (sp := spWalked) (ra_cons (rd_var rfl) (ra_cons (rd_var rfl) ra_nil)) ⟨a, a', P', va, d, rfl, ha, hP, wa, fun w1 hw1 => ?_⟩)
      refine s_asg (x_cl (sp := spWalked) (ra_cons (rd_var rfl) (ra_cons (rd_var rfl) ra_nil)) ⟨b, b', P', vb, d, rfl, hb, hP, wb, fun w2 hw2 => ?_⟩)
      refine s_swapTo (ι := PT × PT × V × V) (fun i => [some i.2.2.1, some i.2.2.2, some (.ref d), none, none, none]) (fun i => RepT H i.1 i.2.2.1 ∧ RepT H i.2.1 i.2.2.2 ∧ LTm Vs i.1 ∧ LTm Vs i.2.1 ∧ (∀ x, i.1 = .any x → look P' x = none) ∧ (∀ x, i.2.1 = .any x → look P' x = none) ∧ ((∃ x, i.1 = .any x) ∨ ∀ x, i.2.1 ≠ .any x) ∧ (i.1.sub θ).depth ≤ n + 1 ∧ ∀ θ', Sol θ' P' → (i.1.sub θ' = i.2.1.sub θ' ↔ a.sub θ' = b.sub θ')) (rdT_and (rdT_test (rd_neS (rd_tag (rd_var rfl) hw1) rd_c)) fun _ => rdT_test (rd_eqS (rd_tag (rd_var rfl) hw2) rd_c)) ?_ ?_
      · have dA : (a'.sub θ).depth ≤ n + 1 := by rw [ea θ hθ]; exact hn
        have dB : (b'.sub θ).depth ≤ n + 1 := by rw [eb θ hθ, ← he]; exact hn
        by_cases h1 : ∃ x, a' = .any x
        · have t1 := tagA.mpr h1
          rw [t1]
          exact ⟨(a', b', w1, w2), ⟨hw1, hw2, hta', htb', fun x e => Walked.ends wa' x e, fun x e => Walked.ends wb' x e, .inl h1, dA, fun θ' h => by rw [ea θ' h, eb θ' h]⟩, fun N hN => iteF hN⟩
        · have t1 : decide (V.str (tag a') = V.str ("any" : Str)) = false := by
            cases hd : decide (V.str (tag a') = V.str ("any" : Str)) with
            | false => rfl
            | true => exact absurd (tagA.mp hd) h1
          rw [t1]
          by_cases h2 : ∃ y, b' = .any y
          · have t2 := tagA.mpr h2
            rw [t2]
            exact ⟨(b', a', w2, w1), ⟨hw2, hw1, htb', hta', fun x e => Walked.ends wb' x e, fun x e => Walked.ends wa' x e, .inl h2, dB, fun θ' h => by rw [ea θ' h, eb θ' h]; exact ⟨Eq.symm, Eq.symm⟩⟩, fun N hN => iteT ⟨_, rfl, _, rfl, _, _, rfl, hN⟩⟩
          · have t2 : decide (V.str (tag b') = V.str ("any" : Str)) = false := by
              cases hd : decide (V.str (tag b') = V.str ("any" : Str)) with
              | false => rfl
              | true => exact absurd (tagA.mp hd) h2
            rw [t2]
            exact ⟨(a', b', w1, w2), ⟨hw1, hw2, hta', htb', fun x e => Walked.ends wa' x e, fun x e => Walked.ends wb' x e, .inr fun y e => h2 ⟨y, e⟩, dA, fun θ' h => by rw [ea θ' h, eb θ' h]⟩, fun N hN => iteF hN⟩
      · rintro ⟨p, q, vp, vq⟩ ⟨hp, hq, tp, tq, hpx, hqx, hpq, hdep, heq⟩
        dsimp only at hp hq tp tq hpx hqx hpq hdep heq ⊢
        have hpq' : p.sub θ = q.sub θ := (heq θ hθ).mpr he
        cases p with
        | any x =>
          have hx := hpx x rfl
          obtain ⟨a1, a2, xs, ys, rfl, rfl, e1, e2, hfl, hiff⟩ := cmp_any hp hq
          refine s_if (rdT_test (rd_eqS (rd_tag (rd_var rfl) hp) rd_c)) (fun _ => ?_) fun z => ?_
          · by_cases ht2 : q = .any x
            · have hb : decide (xs = ys) = true := hiff.mpr ht2
              refine s_if (rdT_test (rd_eqF (rd_var rfl) (rd_var rfl) e1 e2 hfl)) (fun _ => ?_) fun z => ?_
              · refine s_ret (v := .ref d) (rd_var rfl) (k P' d H σ rk (Same.refl _) hP G fun θ' => ⟨fun h => ⟨h, (heq θ' h).mp (by rw [ht2])⟩, fun h => h.1⟩)
              · rw [hb] at z; cases z
            · have hb : decide (xs = ys) = false := by
                cases hd : decide (xs = ys) with
                | false => rfl
                | true => exact absurd (hiff.mp hd) ht2
              refine s_if (rdT_test (rd_eqF (rd_var rfl) (rd_var rfl) e1 e2 hfl)) (fun z => ?_) fun _ => ?_
              · rw [hb] at z; cases z
              have hqs : q.sub σ ≠ .any x := fun e => by
                cases q with
                | num i => rw [Tm.sub_num] at e; cases e
                | app g ls => rw [Tm.sub_app] at e; cases e
                | any y =>
                  rw [Tm.sub_any, G.good.free y (hqx y rfl)] at e
                  exact ht2 e
              have hxs : θ x = q.sub θ := by rw [← hpq', Tm.sub_any]
              have hno := no_ring G.good hθ hxs hqs
              have hqd : (q.sub σ).depth ≤ n + 1 := by
                have h1 := Tm.depth_sub_ge θ (q.sub σ)
                rw [G.good.through' hθ, ← hpq'] at h1
                omega
              refine s_ifT (x_cl (sp := spLHolds (n + 1)) (ra_cons (rd_second (tm := .any x) (rd_var rfl) hp) (ra_cons (rd_var rfl) (ra_cons (rd_var rfl) ra_nil))) ⟨x, q, P', σ, rk, .ref a2, d, rfl, hq, hP, G.good, hqd, (G.read tq).f.1.ar, fun b3 H3 hb3 hS3 => ⟨b3, rfl, ?_⟩⟩)
              have hbf : b3 = false := by
                cases b3 with
                | false => rfl
                | true => exact absurd (hb3.mp rfl) hno
              subst hbf
              refine iteF ?_
              obtain ⟨kvs, hdk, hPk⟩ := hP
              have hdk3 := hS3 _ _ hdk
              refine ⟨.ref d, rfl, d, kvs, rfl, hdk3, fun e he => ?_⟩
              have s4 := same_new (o := HO.dK kvs) he
              have hkl := hPk.length
              have hGl := G.ins.len
              have hp4 := hp.ex (.of (hS3.trans s4))
              refine s_dput (rd_var rfl) (rd_var rfl) (rd_second (tm := .any x) (rd_var rfl) hp4) upd_same (szl (by omega)) ?_
              have hxV : x ∈ Vs := tp.v x (by rw [Tm.vars_any]; exact List.mem_cons_self ..)
              obtain ⟨σ', rk', G'⟩ := G.bind hx hxV tq hno
              rw [putK_new _ (hPk.none hx)]
              have heH : H e = none := hS3.free he
              have hSf : Same H (upd (upd H3 e (.dK kvs)) e (.dK (kvs ++ [(Sum.inr x, .ref a2)]))) := same_mut (hS3.trans s4) heH
              refine s_ret (v := .ref e) (rd_var rfl) (k (P' ++ [(x, q)]) e _ σ' rk' hSf ⟨_, upd_same, (hPk.ex (.of hSf)).snoc (hq.ex (.of hSf))⟩ G' fun θ' => ?_)
              rw [sol_bind hx θ']
              constructor
              · rintro ⟨h1, h2⟩
                exact ⟨h1, (heq θ' h1).mp (by rw [Tm.sub_any]; exact h2)⟩
              · rintro ⟨h1, h2⟩
                have := (heq θ' h1).mpr h2
                rw [Tm.sub_any] at this
                exact ⟨h1, this⟩
          · rw [dec_any] at z; cases z
        | num i =>
          have hqi : q = .num i := by
            rcases hpq with ⟨x, hx⟩ | hpq
            · cases hx
            · cases q with
              | any y => exact absurd rfl (hpq y)
              | num j => rw [Tm.sub_num, Tm.sub_num] at hpq'; injection hpq' with e; rw [e]
              | app g ls => rw [Tm.sub_num, Tm.sub_app] at hpq'; cases hpq'
          subst hqi
          refine s_if (rdT_test (rd_eqS (rd_tag (rd_var rfl) hp) rd_c)) (fun z => ?_) fun _ => ?_
          · rw [dec_num] at z; cases z
          refine s_if (rdT_or (rdT_test (rd_eqS (rd_tag (rd_var rfl) hp) rd_c)) fun _ => rdT_test (rd_eqS (rd_tag (rd_var rfl) hq) rd_c)) (fun _ => ?_) fun z => ?_
          · obtain ⟨a1, rfl, e1⟩ := hp
            obtain ⟨a2, rfl, e2⟩ := hq
            refine s_if (rdT_test (rd_eqF (rd_var rfl) (rd_var rfl) e1 e2 fun j u v hu hv => ?_)) (fun _ => ?_) fun z => ?_
            · match j, hu, hv with
              | 0, hu, hv => cases hu; cases hv; exact ⟨rfl, rfl⟩
              | 1, hu, hv => cases hu; cases hv; exact ⟨rfl, rfl⟩
            · exact s_ret (v := .ref d) (rd_var rfl) (k P' d H σ rk (Same.refl _) hP G fun θ' => ⟨fun h => ⟨h, (heq θ' h).mp rfl⟩, fun h => h.1⟩)
            · rw [decide_eq_true rfl] at z
              cases z
          · rw [den_num, Bool.true_or] at z; cases z
        | app f ks =>
          have hqa : ∃ ls, q = .app f ls ∧ ks.map (Tm.sub θ) = ls.map (Tm.sub θ) := by
            rcases hpq with ⟨x, hx⟩ | hpq
            · cases hx
            · cases q with
              | any y => exact absurd rfl (hpq y)
              | num j => rw [Tm.sub_num, Tm.sub_app] at hpq'; cases hpq'
              | app g ls =>
                rw [Tm.sub_app, Tm.sub_app] at hpq'
                injection hpq' with e1 e2
                rw [e1]
                exact ⟨ls, rfl, e2⟩
          obtain ⟨ls, rfl, hmap⟩ := hqa
          have hlen : ks.length = ls.length := by
            have := congrArg List.length hmap
            rw [List.length_map, List.length_map] at this
            exact this
          refine s_if (rdT_test (rd_eqS (rd_tag (rd_var rfl) hp) rd_c)) (fun z => ?_) fun _ => ?_
          · rw [dec_app] at z; cases z
          refine s_if (rdT_or (rdT_test (rd_eqS (rd_tag (rd_var rfl) hp) rd_c)) fun _ => rdT_test (rd_eqS (rd_tag (rd_var rfl) hq) rd_c)) (fun z => ?_) fun _ => ?_
          · rw [den_app, den_app] at z; cases z
          obtain ⟨a1, k1, v1, rfl, p3, pk, pks⟩ := hp.kids
          obtain ⟨a2, k2, v2, rfl, q3, qk, qks⟩ := hq.kids
          have l1 := pks.length
          have l2 := qks.length
          refine s_if (rdT_or (rdT_test (rd_neS (rd_second (tm := .app f ks) (rd_var rfl) hp) (rd_second (tm := .app f ls) (rd_var rfl) hq))) fun _ => rdT_test (rd_neI (rd_lenT (rd_ixT (n := 2) (rd_var rfl) rd_c p3 rfl) pk) (rd_lenT (rd_ixT (n := 2) (rd_var rfl) rd_c q3 rfl) qk))) (fun z => ?_) fun _ => ?_
          · have e : V.int (v1.length : Int) = V.int (v2.length : Int) := by rw [l1, l2, hlen]
            rw [decide_eq_true rfl, decide_eq_true e] at z
            cases z
          rw [Tm.sub_app] at hdep
          have same_at : ∀ (θ' : Str → PT), ks.map (Tm.sub θ') = ls.map (Tm.sub θ') ↔ ∀ j, j < v1.length → ∀ s t, ks[j]? = some s → ls[j]? = some t → s.sub θ' = t.sub θ' := by
            intro θ'
            constructor
            · intro h j _ s t hs ht
              have := congrArg (fun l => l[j]?) h
              simp only [List.getElem?_map, hs, ht, Option.map_some] at this
              exact Option.some.inj this
            · intro h
              apply List.ext_getElem?
              intro j
              rw [List.getElem?_map, List.getElem?_map]
              by_cases hj : j < ks.length
              · rw [List.getElem?_eq_getElem hj, List.getElem?_eq_getElem (by omega : j < ls.length)]
                show some _ = some _
                rw [h j (by omega) _ _ (List.getElem?_eq_getElem hj) (List.getElem?_eq_getElem (by omega))]
              · rw [List.getElem?_eq_none (by omega), List.getElem?_eq_none (by omega)]
          refine ⟨.ref a1, rfl, a1, _, ((2 : Nat) : Int), .ref k1, rfl, rfl, SqT.of p3, atI_nat rfl, .ref a2, rfl, a2, _, ((2 : Nat) : Int), .ref k2, rfl, rfl, SqT.of q3, atI_nat rfl, k1, k2, v1, v2, rfl, .inr ⟨SqT.of pk, SqT.of qk, ?_⟩⟩
          refine for_zipT (xs := v1) (ys := v2) (by omega) (fun i τ U => ∃ x4 x5 d' P2 σ2 rk2, τ = [some (.ref a1), some (.ref a2), some (.ref d'), none, x4, x5] ∧ Same H U ∧ PutsAt U d' P2 ∧ LG Vs P2 σ2 rk2 ∧ ∀ θ', Sol θ' P2 ↔ Sol θ' P' ∧ ∀ j, j < i → ∀ s t, ks[j]? = some s → ls[j]? = some t → s.sub θ' = t.sub θ')
            ⟨none, none, d, P', σ, rk, rfl, Same.refl _, hP, G, fun θ' => ⟨fun h => ⟨h, fun j hj => absurd hj (Nat.not_lt_zero _)⟩, fun h => h.1⟩⟩ (fun i τ U _ hJ => ?_) (fun i x y τ U T hx hy hJ hT => ?_) (fun τ U hJ => ?_)
          · obtain ⟨x4, x5, d', P2, σ2, rk2, rfl, hS, _⟩ := hJ
            exact ⟨SqT.of (hS _ _ pk), SqT.of (hS _ _ qk)⟩
          · obtain ⟨x4, x5, d', P2, σ2, rk2, rfl, hS, hP2, G2, hiff⟩ := hJ
            obtain ⟨s1, hs1, hrs⟩ := pks.got hx
            obtain ⟨t1, ht1, hrt⟩ := qks.got hy
            have sT := same_new (o := HO.tup [x, y]) hT
            have hS1 := hS.trans sT
            have hall := (same_at θ).mp hmap
            have hθ2 : Sol θ P2 := (hiff θ).mpr ⟨hθ, fun j hj s t e1 e2 => hall j (by have := (List.getElem?_eq_some_iff.mp hx).1; omega) s t e1 e2⟩
            have hks := List.mem_of_getElem? hs1
            have hm : s1.sub θ ∈ ks.map (Tm.sub θ) := List.mem_map.mpr ⟨s1, hks, rfl⟩
            have hdk := Tm.depth_kid (f := f) hm
            refine ⟨T, _, rfl, SqT.of upd_same, rfl, _, _, rfl, _, _, rfl, rfl, ?_⟩
            refine x_cl (sp := spLOne n) (ra_cons (rd_var rfl) (ra_cons (rd_var rfl) (ra_cons (rd_var rfl) ra_nil))) ⟨s1, t1, Vs, P2, σ2, rk2, θ, x, y, d', rfl, hrs.ex (.of hS1), hrt.ex (.of hS1), hP2.same sT, G2, hV, tp.kid hks, tq.kid (List.mem_of_getElem? ht1), hθ2, hall i (List.getElem?_eq_some_iff.mp hx).1 s1 t1 hs1 ht1, by omega, fun P3 d3 U3 σ3 rk3 hS3 hP3 G3 hsol => ?_⟩
            refine ⟨_, _, d3, P3, σ3, rk3, rfl, hS1.trans hS3, hP3, G3, fun θ' => ?_⟩
            rw [hsol θ', hiff θ']
            constructor
            · rintro ⟨⟨h1, h2⟩, h3⟩
              refine ⟨h1, fun j hj s t e1 e2 => ?_⟩
              by_cases hji : j < i
              · exact h2 j hji s t e1 e2
              · have : j = i := by omega
                subst this
                rw [hs1] at e1
                rw [ht1] at e2
                cases e1
                cases e2
                exact h3
            · rintro ⟨h1, h2⟩
              exact ⟨⟨h1, fun j hj => h2 j (by omega)⟩, h2 i (Nat.lt_succ_self i) s1 t1 hs1 ht1⟩
          · obtain ⟨x4, x5, d', P2, σ2, rk2, rfl, hS, hP2, G2, hiff⟩ := hJ
            refine s_ret (v := .ref d') (rd_var rfl) (k P2 d' U σ2 rk2 hS hP2 G2 fun θ' => ?_)
            rw [hiff θ']
            constructor
            · rintro ⟨h1, h2⟩
              refine ⟨h1, (heq θ' h1).mp ?_⟩
              rw [Tm.sub_app, Tm.sub_app, (same_at θ').mpr h2]
            · rintro ⟨h1, h2⟩
              refine ⟨h1, (same_at θ').mp ?_⟩
              have := (heq θ' h1).mpr h2
              rw [Tm.sub_app, Tm.sub_app] at this
              injection this
end
end G35

/-! GLaw13 -/
set_option Elab.async false
set_option linter.all false
set_option maxRecDepth 100000
set_option maxHeartbeats 4000000
namespace G35
open PySem PySem.Spec PyProof.Rows L2
/-! ### the law's deed -/
theorem str_no {a b : Str} (h : a = b) (z : decide (V.str a = V.str b) = false) : False := by
  rw [decS, decide_eq_false_iff_not] at z
  exact z h
inductive LStep (σ : Str → PT) : Str → List PT → List (PT × PT) → Prop
  | no {G : PT} (h : (G.sub σ).vars = []) : LStep σ wNot [G] []
  | eq {l r : PT} : LStep σ wEq [l, r] [(l, r)]
  | asg {l r : PT} {v : Int} (h : reck (r.sub σ) = .inl v) : LStep σ wAsg [l, r] [(l, .num v)]
  | less {f : Str} {l r : PT} {a b : Int} (hf : f = wLt ∨ f = wLe) (h1 : reck (l.sub σ) = .inl a) (h2 : reck (r.sub σ) = .inl b) (h : a < b ∨ f = wLe ∧ a = b) : LStep σ f [l, r] []
def spLDeed (n : Nat) : Sp := fun vs H Q _ => ∃ (f : Str) (ks : List PT) (E : List (PT × PT)) (Vs : List Str) (P : Puts) (σ : Str → PT) (rk : Str → Nat) (θ : Str → PT) (v : V) (d : Addr), vs = [v, .ref d] ∧ RepT H (.app f ks) v ∧ PutsAt H d P ∧ LG Vs P σ rk ∧ Vs.length ≤ 10000 ∧ (∀ k ∈ ks, LTm Vs k) ∧ LStep σ f ks E ∧ Sol θ P ∧ (∀ e ∈ E, e.1.sub θ = e.2.sub θ) ∧ (∀ k ∈ ks, (k.sub θ).depth ≤ n) ∧
  ∀ P' d' H' σ' rk', Same H H' → PutsAt H' d' P' → LG Vs P' σ' rk' → (∀ θ', Sol θ' P' ↔ Sol θ' P ∧ ∀ e ∈ E, e.1.sub θ' = e.2.sub θ') → Q (.ref d') H'
theorem sol_nil {P : Puts} {θ' : Str → PT} : Sol θ' P ↔ Sol θ' P ∧ ∀ e ∈ ([] : List (PT × PT)), e.1.sub θ' = e.2.sub θ' := ⟨fun h => ⟨h, fun e he => nomatch he⟩, fun h => h.1⟩
section
variable {P : Program} {w : World} {K : PySem.W.Frag} {mg : Str → Option Value} {base : Heap}
theorem sc_ldeed : FnScope ["_law_goal_here", "_law_puts", "_law_left", "_law_right", "_law_many", "_law_few"] ["_law_goal_here", "_law_puts"] d_law_deed.scope := ⟨rfl, rfl, rfl, by decide +kernel, rfl, by decide +kernel, by decide +kernel⟩
theorem ok_ldeed (T : T35 K mg) (n : Nat) : Cl P w K mg base CX0 (n + 4) "_law_deed" ["_law_goal_here", "_law_puts"] (spLDeed n) := by
  have cR := ok_lread (P := P) (w := w) (base := base) T n
  have cN := ok_lnamed (P := P) (w := w) (base := base) T n
  have cO := ok_lone (P := P) (w := w) (base := base) T n
  have cS := ok_lsum (P := P) (w := w) (base := base) T
  refine cl_of (d := d_law_deed) T 46 rfl rfl rfl rfl sc_ldeed (fun vs H Q E h => ?_) (fun _ _ _ _ _ _ us hl => match us, hl with | [_, _], _ => rfl) (fun cdv A outer s H vs Q E hr h => ?_)
  · obtain ⟨f, ks, E', Vs, P, σ, rk, θ, v, d, rfl, _⟩ := h
    rfl
  · obtain ⟨f, ks, E', Vs, P', σ, rk, θ, v, d, rfl, ht, hP, G, hV, htm, hst, hθ, hE, hdep, k⟩ := h
    have hu := hu_of hr
    refine ⟨_, (pss_cons (ps_set (i := 2) sc_ldeed.nd rfl (Or.inl rfl) (pe_cl cR hr (by omega) rfl (pa_cons (pe_ix ix_tup (pe_ix ix_tup (pv 0) pe_int (fun _ _ => rfl)) pe_int (fun _ _ => rfl)) (pa_cons (pv 1) pa_nil)))) (pss_cons (ps_if (pt_cmpR op_eq (pe_ix ix_tup (pv 0) pe_int (fun _ _ => rfl)) pe_str (nomark _)) (pss_cons (ps_if (pt_cmpR (op_neL0 hu) (pe_cl cN hr (by omega) rfl (pa_cons (pv 2) (pa_cons (pe_lst pa_nil) pa_nil))) (pe_lst pa_nil) (nomark _)) (pss_one (ps_ret pe_non)) pss_nil) (pss_one (ps_ret (pv 1)))) pss_nil) (pss_cons (ps_set (i := 3) sc_ldeed.nd rfl (Or.inl rfl) (pe_cl cR hr (by omega) rfl (pa_cons (pe_ix ix_tup (pe_ix ix_tup (pv 0) pe_int (fun _ _ => rfl)) pe_int (fun _ _ => rfl)) (pa_cons (pv 1) pa_nil)))) (pss_cons (ps_if (pt_cmpR op_eq (pe_ix ix_tup (pv 0) pe_int (fun _ _ => rfl)) pe_str (nomark _)) (pss_one (ps_ret (pe_cl cO hr (by omega) rfl (pa_cons (pv 2) (pa_cons (pv 3) (pa_cons (pv 1) pa_nil)))))) pss_nil) (pss_cons (ps_set (i := 4) sc_ldeed.nd rfl (Or.inl rfl) (pe_cl cS hr (by omega) rfl (pa_cons (pv 3) pa_nil))) (pss_cons (ps_if (pt_cmpR op_isN (pv 4) pe_non (nomark _)) (pss_one (ps_ret pe_non)) pss_nil) (pss_cons (ps_if (pt_cmpR op_eq (pe_ix ix_tup (pv 0) pe_int (fun _ _ => rfl)) pe_str (nomark _)) (pss_one (ps_ret (pe_cl cO hr (by omega) rfl (pa_cons (pv 2) (pa_cons (pe_tup (pa_cons pe_str (pa_cons (pv 4) pa_nil))) (pa_cons (pv 1) pa_nil)))))) pss_nil) (pss_cons (ps_set (i := 5) sc_ldeed.nd rfl (Or.inl rfl) (pe_cl cS hr (by omega) rfl (pa_cons (pv 2) pa_nil))) (pss_cons (ps_if (PW.pt (pw_or (pt_cmpR op_isN (pv 5) pe_non (nomark _)) (pw_or (pt_cmpR op_gt (pv 5) (pv 4) (nomark _)) (pw_or1 (PW.pt (pw_and (pt_cmpR op_eq (pe_ix ix_tup (pv 0) pe_int (fun _ _ => rfl)) pe_str (nomark _)) (pw_and1 (pt_cmpR op_eq (pv 5) (pv 4) (nomark _))))))))) (pss_one (ps_ret pe_non)) pss_nil) (pss_one (ps_ret (pv 1)))))))))))), ?_⟩
    obtain ⟨a, tk, kv, rfl, ht3, hk3, hks⟩ := ht.kids
    have rdep : ∀ t ∈ ks, (t.sub σ).depth ≤ n := fun t ht => by
      have h1 := Tm.depth_sub_ge θ (t.sub σ)
      rw [G.good.through' hθ] at h1
      have := hdep t ht
      omega
    have rtm : ∀ t ∈ ks, LTm Vs (t.sub σ) := fun t ht => G.read (htm t ht)
    have sec : ∀ (σ' : L2.St) (H' : Hp), σ'[0]? = some (some (.ref a)) → Same H H' → Rds (tOp (rIxT K) (tVar 0) (tC (.int 1))) σ' H' (.str f) := fun σ' H' h0 hS => rd_ixT (n := 1) (rd_var h0) rd_c (hS _ _ ht3) rfl
    have kid : ∀ (σ' : L2.St) (H' : Hp) (i : Nat) (t : PT) (y : V), σ'[0]? = some (some (.ref a)) → Same H H' → kv[i]? = some y → Rds (tOp (rIxT K) (tOp (rIxT K) (tVar 0) (tC (.int 2))) (tC (.int (i : Int)))) σ' H' y := fun σ' H' i t y h0 hS hy => rd_ixT (n := i) (rd_ixT (n := 2) (rd_var h0) rd_c (hS _ _ ht3) rfl) rd_c (hS _ _ hk3) hy
    -- the first kid, read
    have first : ∃ t0 y0, ks[0]? = some t0 ∧ kv[0]? = some y0 ∧ RepT H t0 y0 := by
      cases hst with
      | no h => obtain ⟨y, h1, h2⟩ := hks.get 0 _ rfl; exact ⟨_, y, rfl, h1, h2⟩
      | eq => obtain ⟨y, h1, h2⟩ := hks.get 0 _ rfl; exact ⟨_, y, rfl, h1, h2⟩
      | asg h => obtain ⟨y, h1, h2⟩ := hks.get 0 _ rfl; exact ⟨_, y, rfl, h1, h2⟩
      | less hf h1 h2 h => obtain ⟨y, h1, h2⟩ := hks.get 0 _ rfl; exact ⟨_, y, rfl, h1, h2⟩
    obtain ⟨t0, y0, hk0, hy0, hr0⟩ := first
    have m0 := List.mem_of_getElem? hk0
    refine s_asg (x_cl (sp := spLRead n) (ra_cons (kid _ _ 0 t0 y0 rfl (Same.refl _) hy0) (ra_cons (rd_var rfl) ra_nil)) ⟨t0, P', σ, rk, y0, d, rfl, hr0, hP, G.good, rdep t0 m0, (rtm t0 m0).f.1.ar, fun vl H1 s1 rl => ?_⟩)
    by_cases hfn : f = wNot
    · refine s_if (rdT_test (rd_eqS (sec _ _ rfl s1) rd_c)) (fun _ => ?_) fun z => ?_
      · have hE0 : E' = [] ∧ (t0.sub σ).vars = [] := by
          cases hst with
          | no h => cases hk0; exact ⟨rfl, h⟩
          | eq => exact absurd hfn (by decide +kernel)
          | asg h => exact absurd hfn (by decide +kernel)
          | less hf h1 h2 h =>
            rcases hf with e | e
            · rw [e] at hfn; exact absurd hfn (by decide +kernel)
            · rw [e] at hfn; exact absurd hfn (by decide +kernel)
        obtain ⟨rfl, hv0⟩ := hE0
        refine ⟨vl, rfl, sz (by simp), fun q hq => ?_⟩
        have s2 := same_new (o := HO.lst []) hq
        refine ⟨t0.sub σ, vl, q, [], rfl, rl.ex (.of s2), rdep t0 m0, upd_same, by rw [hv0]; simp, ?_⟩
        rw [hv0, upd_upd]
        refine ⟨sz (by simp), fun q3 hq3 => ?_⟩
        have s2' : Same H1 (upd H1 q (.lst ((firstsF [] ([] : List Str)).map V.str))) := same_new hq
        have s3 := same_new (o := HO.lst []) hq3
        refine ⟨q, q3, [], rfl, rfl, SqL.of (s3 _ _ upd_same), SqL.of upd_same, _, rfl, ?_⟩
        refine iteF ?_
        exact s_ret (v := .ref d) (rd_var rfl) (k P' d _ σ rk ((s1.trans s2').trans s3) (hP.same ((s1.trans s2').trans s3)) G fun θ' => sol_nil)
      · exact (str_no hfn z).elim
    · refine s_if (rdT_test (rd_eqS (sec _ _ rfl s1) rd_c)) (fun z => ?_) fun _ => ?_
      · rw [decS, decide_eq_true_iff] at z
        exact absurd z hfn
      have second : ∃ t1 y1, ks = [t0, t1] ∧ kv[1]? = some y1 ∧ RepT H t1 y1 := by
        cases hst with
        | no h => exact absurd rfl hfn
        | eq => cases hk0; obtain ⟨y, h1, h2⟩ := hks.get 1 _ rfl; exact ⟨_, y, rfl, h1, h2⟩
        | asg h => cases hk0; obtain ⟨y, h1, h2⟩ := hks.get 1 _ rfl; exact ⟨_, y, rfl, h1, h2⟩
        | less hf h1 h2 h => cases hk0; obtain ⟨y, h1, h2⟩ := hks.get 1 _ rfl; exact ⟨_, y, rfl, h1, h2⟩
      obtain ⟨t1, y1, rfl, hy1, hr1⟩ := second
      have m1 : t1 ∈ [t0, t1] := by simp
      refine s_asg (x_cl (sp := spLRead n) (ra_cons (kid _ _ 1 t1 y1 rfl s1 hy1) (ra_cons (rd_var rfl) ra_nil)) ⟨t1, P', σ, rk, y1, d, rfl, hr1.ex (.of s1), hP.same s1, G.good, rdep t1 m1, (rtm t1 m1).f.1.ar, fun vr H2 s2 rr => ?_⟩)
      have S2 := s1.trans s2
      have rl2 := rl.ex (.of s2)
      have thr : ∀ {θ' : Str → PT}, Sol θ' P' → ∀ t : PT, (t.sub σ).sub θ' = t.sub θ' := fun h t => G.good.through' h t
      by_cases hfe : f = wEq
      · refine s_if (rdT_test (rd_eqS (sec _ _ rfl S2) rd_c)) (fun _ => ?_) fun z => ?_
        · have hEE : E' = [(t0, t1)] := by
            cases hst with
            | eq => rfl
            | asg h => exact absurd hfe (by decide +kernel)
            | less hf h1 h2 h =>
              rcases hf with e | e
              · rw [e] at hfe; exact absurd hfe (by decide +kernel)
              · rw [e] at hfe; exact absurd hfe (by decide +kernel)
          subst hEE
          have he := hE (t0, t1) (List.mem_cons_self ..)
          refine x_cl (sp := spLOne n) (ra_cons (rd_var rfl) (ra_cons (rd_var rfl) (ra_cons (rd_var rfl) ra_nil))) ⟨t0.sub σ, t1.sub σ, Vs, P', σ, rk, θ, vl, vr, d, rfl, rl2, rr, hP.same S2, G, hV, rtm t0 m0, rtm t1 m1, hθ, by rw [thr hθ, thr hθ]; exact he, by rw [thr hθ]; exact hdep t0 m0, fun P2 d' H' σ' rk' hS hP2 G2 hiff => k P2 d' H' σ' rk' (S2.trans hS) hP2 G2 fun θ' => ?_⟩
          rw [hiff θ']
          constructor
          · rintro ⟨h1, h2⟩
            rw [thr h1, thr h1] at h2
            exact ⟨h1, fun e he => by rw [List.mem_singleton.mp he]; exact h2⟩
          · rintro ⟨h1, h2⟩
            exact ⟨h1, by rw [thr h1, thr h1]; exact h2 _ (List.mem_cons_self ..)⟩
        · exact (str_no hfe z).elim
      · refine s_if (rdT_test (rd_eqS (sec _ _ rfl S2) rd_c)) (fun z => ?_) fun _ => ?_
        · rw [decS, decide_eq_true_iff] at z
          exact absurd z hfe
        have rsum : ∃ b, reck (t1.sub σ) = .inl b := by
          cases hst with
          | eq => exact absurd rfl hfe
          | asg h => exact ⟨_, h⟩
          | less hf h1 h2 h => exact ⟨_, h2⟩
        obtain ⟨b, hb⟩ := rsum
        refine s_asg (x_cl (sp := spLSum) (ra_cons (rd_var rfl) ra_nil) ⟨t1.sub σ, vr, b, rfl, rr, (rtm t1 m1).f.1, (rtm t1 m1).f.2, hb, fun H3 s3 => ?_⟩)
        have S3 := S2.trans s3
        refine s_if (rdT_test (rd_isN (rd_var rfl))) (fun z => nomatch z) fun _ => ?_
        by_cases hfa : f = wAsg
        · refine s_if (rdT_test (rd_eqS (sec _ _ rfl S3) rd_c)) (fun _ => ?_) fun z => ?_
          · have hEE : E' = [(t0, .num b)] := by
              cases hst with
              | eq => exact absurd rfl hfe
              | asg h => rw [h] at hb; cases hb; rfl
              | less hf h1 h2 h =>
                rcases hf with e | e
                · rw [e] at hfa; exact absurd hfa (by decide +kernel)
                · rw [e] at hfa; exact absurd hfa (by decide +kernel)
            subst hEE
            have he := hE (t0, .num b) (List.mem_cons_self ..)
            refine x_clc ⟨vl, rfl, ?_⟩
            refine x_c (x_tup (ra_cons rd_c (ra_cons (rd_var rfl) ra_nil)) (sz (by simp)) fun q hq => ?_)
            have s4 := same_new (o := HO.tup [.str "num", .int b]) hq
            have S4 := S3.trans s4
            refine ⟨.ref d, rfl, t0.sub σ, .num b, Vs, P', σ, rk, θ, vl, .ref q, d, rfl, (rl2.ex (.of s3)).ex (.of s4), ⟨q, rfl, upd_same⟩, hP.same S4, G, hV, rtm t0 m0, ⟨⟨Shp.num b, NoRem.num b⟩, fun y hy => absurd hy (by simp [Tm.vars_num])⟩, hθ, by rw [thr hθ]; exact he, by rw [thr hθ]; exact hdep t0 m0, fun P2 d' H' σ' rk' hS hP2 G2 hiff => k P2 d' H' σ' rk' (S4.trans hS) hP2 G2 fun θ' => ?_⟩
            rw [hiff θ']
            constructor
            · rintro ⟨h1, h2⟩
              rw [thr h1] at h2
              exact ⟨h1, fun e he => by rw [List.mem_singleton.mp he]; exact h2⟩
            · rintro ⟨h1, h2⟩
              exact ⟨h1, by rw [thr h1]; exact h2 _ (List.mem_cons_self ..)⟩
          · exact (str_no hfa z).elim
        · refine s_if (rdT_test (rd_eqS (sec _ _ rfl S3) rd_c)) (fun z => ?_) fun _ => ?_
          · rw [decS, decide_eq_true_iff] at z
            exact absurd z hfa
          have hless : ∃ a0, reck (t0.sub σ) = .inl a0 ∧ E' = [] ∧ (f = wLt ∨ f = wLe) ∧ (a0 < b ∨ f = wLe ∧ a0 = b) := by
            cases hst with
            | eq => exact absurd rfl hfe
            | asg h => exact absurd rfl hfa
            | less hf h1 h2 h => rw [h2] at hb; cases hb; exact ⟨_, h1, rfl, hf, h⟩
          obtain ⟨a0, ha0, rfl, hlf, hcmp⟩ := hless
          refine s_asg (x_cl (sp := spLSum) (ra_cons (rd_var rfl) ra_nil) ⟨t0.sub σ, vl, a0, rfl, rl2.ex (.of s3), (rtm t0 m0).f.1, (rtm t0 m0).f.2, ha0, fun H4 s4 => ?_⟩)
          have S4 := S3.trans s4
          refine s_if (rdT_or (rdT_test (rd_isN (rd_var rfl))) fun _ => rdT_or (rdT_test (rd_I0 (g := fun i j => .bl (decide (j < i))) (rd_var rfl) (rd_var rfl))) fun _ => rdT_and (rdT_test (rd_eqS (sec _ _ rfl S4) rd_c)) fun _ => rdT_test (rd_eqI (rd_var rfl) (rd_var rfl))) (fun z => ?_) fun _ => ?_
          · exfalso
            have e1 : decide (V.int a0 = V.non) = false := rfl
            rw [e1, Bool.false_or, decS] at z
            have hle : decide (b < a0) = false := decide_eq_false (by rcases hcmp with h | ⟨_, h⟩ <;> omega)
            rw [hle, Bool.false_or, Bool.and_eq_true, decide_eq_true_iff, decide_eq_true_iff] at z
            obtain ⟨z1, z2⟩ := z
            injection z2 with z2
            rcases hcmp with h | ⟨h, _⟩
            · omega
            · rw [h] at z1
              exact absurd z1 (by decide +kernel)
          · exact s_ret (v := .ref d) (rd_var rfl) (k P' d _ σ rk S4 (hP.same S4) G fun θ' => sol_nil)
end
end G35

/-! GLM1 -/
set_option Elab.async false
set_option linter.all false
set_option maxRecDepth 10000
/-! The law's way: plain. -/
namespace G35
open PySem PySem.Spec
def idn : Nat → Nat := fun k => k
theorem marks_id {n : Nat} (h : n ≤ 20) : Marks n idn := ⟨fun k hk => by show k ≤ 20; omega, fun j k _ _ e => e⟩
theorem Path.sub {rules : List Rule} {B : Nat} {Cend : Eqs} {k : Nat} {C : Eqs} {gs : List AT} {w : List Nat} (p : Path rules B Cend k C gs w) : ∀ e ∈ C, e ∈ Cend := by
  induction p with
  | done => intro e h; exact h
  | step _ _ ih => intro e h; exact ih e (List.mem_append_left _ h)
theorem conc_app (t : Nat → Nat) (f : Str) (ks : List AT) : conc t (.app f ks) = .app f (ks.map (conc t)) := Tm.sub_app ..
theorem conc_num (t : Nat → Nat) (n : Int) : conc t (.num n) = .num n := Tm.sub_num ..
theorem read_conc {t : Nat → Nat} {σ : Str → PT} {C : Eqs} (h : SatC t σ C) {r : AT} {u : PT} (hr : ∀ θ : AV → PT, Sat θ C → r.sub θ = u) : (conc t r).sub σ = u := by
  rw [conc_sub]
  exact hr _ (satC_iff.mp h)
/-- a step at a sum or a sign, as the law takes it -/
theorem step_law {rules : List Rule} {B k : Nat} {C C' : Eqs} {f : Str} {ks new : List AT} {σ : Str → PT} (hs : Step rules B k C (.app f ks) 0 C' new) (hk : f ≠ wKeep) (h : SatC idn σ C) :
    LStep σ f (ks.map (conc idn)) (C'.map fun p => (conc idn p.1, conc idn p.2)) ∧ new = [] ∧ f ∈ [wEq, wAsg, wLt, wLe, wNot] := by
  cases hs with
  | eq => exact ⟨.eq, rfl, by simp⟩
  | asg h1 hv => exact ⟨.asg (by rw [read_conc h h1]; exact hv), rfl, by simp⟩
  | less hf h1 h2 ha hb hab => exact ⟨.less hf (by rw [read_conc h h1]; exact ha) (by rw [read_conc h h2]; exact hb) hab, rfl, by rcases hf with e | e <;> rw [e] <;> simp⟩
  | no h1 hv hd => exact ⟨.no (by rw [read_conc h h1]; exact hv), rfl, by simp⟩
  | keep => exact absurd rfl hk
/-- how deep the goal's kids are, read in the end -/
theorem step_deep {rules : List Rule} {k : Nat} {C C' Cend : Eqs} {f : Str} {ks new : List AT} {θ : AV → PT} (hs : Step rules 200 k C (.app f ks) 0 C' new) (hsat : Sat θ Cend) (hC : ∀ e ∈ C, e ∈ Cend) (hC' : ∀ e ∈ C', e ∈ Cend) (hd : ∀ p ∈ Cend, (p.1.sub θ).depth ≤ 200 ∧ (p.2.sub θ).depth ≤ 200) :
    ∀ x ∈ ks, (x.sub θ).depth ≤ 200 := by
  have hs0 : Sat θ C := fun p hp => hsat p (hC p hp)
  cases hs with
  | eq =>
    rename_i l r
    have := hd (l, r) (hC' _ (List.mem_cons_self ..))
    intro x hx
    simp only [List.mem_cons, List.not_mem_nil, or_false] at hx
    rcases hx with rfl | rfl
    · exact this.1
    · exact this.2
  | asg h1 hv =>
    rename_i l r u v
    have := hd (l, .num v) (hC' _ (List.mem_cons_self ..))
    intro x hx
    simp only [List.mem_cons, List.not_mem_nil, or_false] at hx
    rcases hx with rfl | rfl
    · exact this.1
    · rw [h1 θ hs0]
      have := (reck_ground hv).2
      omega
  | less hf h1 h2 ha hb hab =>
    intro x hx
    simp only [List.mem_cons, List.not_mem_nil, or_false] at hx
    rcases hx with rfl | rfl
    · rw [h1 θ hs0]
      have := (reck_ground ha).2
      omega
    · rw [h2 θ hs0]
      have := (reck_ground hb).2
      omega
  | no h1 hv hd2 =>
    intro x hx
    rw [List.mem_singleton.mp hx, h1 θ hs0]
    exact hd2
  | keep => intro x hx; cases hx
end G35

/-! GLaw14 -/
set_option Elab.async false
set_option linter.all false
set_option maxRecDepth 100000
set_option maxHeartbeats 4000000
namespace G35
open PySem PySem.Spec PyProof.Rows L2
/-! ### the law's end of a way -/
/-- what the law drew -/
structure Drawn (N : List Str) (rules : List Rule) (gs0 : List PT) : Prop where
  names : ∀ x ∈ N, NOk x
  nlen : N.length = 3
  rls : ∀ r ∈ rules, RO N r
  rlen : rules.length ≤ 7
  gls : ∀ g ∈ gs0, GO N g
  glen : gs0.length ≤ 2
def spLEow : Sp := fun vs H Q _ => ∃ (ra ga wa : Addr) (N : List Str) (rules : List Rule) (gs0 : List PT) (rv gv : List V) (way : List Nat) (Cend : Eqs) (θ : AV → PT), vs = [.ref ra, .ref ga, .ref wa] ∧ H ra = some (.lst rv) ∧ Rp RepR H rules rv ∧ H ga = some (.lst gv) ∧ RepL H gs0 gv ∧ H wa = some (.lst (wayV way)) ∧ Drawn N rules gs0 ∧ way.length ≤ 20 ∧
  Path rules 200 Cend 0 [] (gs0.map (lift 0)) way ∧ Sat θ Cend ∧ (∀ p ∈ Cend, (p.1.sub θ).depth ≤ 200 ∧ (p.2.sub θ).depth ≤ 200) ∧ DomC way.length Cend ∧
  ∀ P d H' σ rk, Same H H' → PutsAt H' d P → LG (Vt N 20) P σ rk → (∀ θ', Sol θ' P ↔ SatC idn θ' Cend) → Q (.ref d) H'
theorem x_orF {σ : L2.St} {H : Hp} {te : TE} {u : TT} {Q : Bool → Hp → Prop} (h : Rds te σ H (.bl false)) (k : u σ H Q) : tOr (tTest te) u σ H Q := h _ ⟨false, rfl, iteF k⟩
theorem LG.nil {N : List Str} : LG (Vt N 20) [] (fun x => .any x) (fun _ => 0) := by
  refine ⟨⟨fun x _ => rfl, fun x t e => (nomatch e), fun x t e => (nomatch e)⟩, fun x t e => (nomatch e), ?_⟩
  show 0 + cnt (Vt N 20) [] ≤ _
  unfold cnt
  rw [Nat.zero_add]
  exact List.length_filter_le ..
theorem vt_mem {N : List Str} {x : Str} (hx : x ∈ N) : x ∈ Vt N 20 := List.mem_append_left _ hx
theorem vt_mark {N : List Str} {x : Str} (hx : x ∈ N) {k : Nat} (hk : k ≤ 20) : mk x k ∈ Vt N 20 := List.mem_append_right _ (List.mem_flatMap.mpr ⟨k, List.mem_range.mpr (by omega), List.mem_map.mpr ⟨x, hx, rfl⟩⟩)
/-- a goal at hand: its names by steps -/
structure GAt (N : List Str) (n : Nat) (g : AT) : Prop where
  dom : DomT n g
  tm : LTm (Vt N 20) (conc idn g)
theorem gat_0 {N : List Str} {n m s : Nat} {t : PT} (h : Th N m s t) (hN : ∀ x ∈ N, NOk x) : GAt N n (lift 0 t) := by
  refine ⟨fun a ha => ?_, ?_⟩
  · unfold lift at ha
    rw [Tm.vars_sub] at ha
    obtain ⟨x, hx, ha⟩ := List.mem_flatMap.mp ha
    rw [Tm.vars_any] at ha
    rw [List.mem_singleton.mp ha]
    exact (hN x (h.vars x hx)).dot
  · rw [conc_lift0]
    exact ⟨⟨h.shp, h.rem⟩, fun y hy => vt_mem (h.vars y hy)⟩
theorem gat_k {N : List Str} {n m s k : Nat} {t : PT} (h : Th N m s t) (hk : k < n) (hn : n ≤ 20) : GAt N n (lift (k + 1) t) := by
  refine ⟨fun a ha => ?_, ?_⟩
  · unfold lift at ha
    rw [Tm.vars_sub] at ha
    obtain ⟨x, hx, ha⟩ := List.mem_flatMap.mp ha
    rw [Tm.vars_any] at ha
    rw [List.mem_singleton.mp ha]
    exact hk
  · rw [conc_lift]
    refine ⟨⟨shp_mark h.shp, NoRem.sub h.rem fun x _ => NoRem.any _⟩, fun y hy => ?_⟩
    unfold markT at hy
    rw [Tm.vars_sub] at hy
    obtain ⟨x, hx, hy⟩ := List.mem_flatMap.mp hy
    rw [Tm.vars_any] at hy
    rw [List.mem_singleton.mp hy]
    exact vt_mark (h.vars x hx) (by show k ≤ 20; omega)
theorem drop_at {α : Type} {l : List α} {i : Nat} {x : α} (h : l[i]? = some x) : l.drop i = x :: l.drop (i + 1) := by
  obtain ⟨hi, e⟩ := List.getElem?_eq_some_iff.mp h
  rw [List.drop_eq_getElem_cons hi, e]
theorem Path.inv {rules : List Rule} {B : Nat} {Cend : Eqs} {k n : Nat} {C : Eqs} {gs : List AT} {w : List Nat} (p : Path rules B Cend k C gs (n :: w)) : ∃ C' g gs' new, gs = g :: gs' ∧ Step rules B k C g n C' new ∧ Path rules B Cend (k + 1) (C ++ C') (new ++ gs') w := by
  cases p with
  | step h1 h2 => exact ⟨_, _, _, _, rfl, h1, h2⟩
theorem Step.is_app {rules : List Rule} {B k n : Nat} {C C' : Eqs} {g : AT} {new : List AT} (h : Step rules B k C g n C' new) : (∃ f ks, g = .app f ks) ∧ n ≤ rules.length := by
  cases h with
  | rule hr hf hl => exact ⟨⟨_, _, rfl⟩, (List.getElem?_eq_some_iff.mp hr).1⟩
  | eq => exact ⟨⟨_, _, rfl⟩, Nat.zero_le _⟩
  | asg _ _ => exact ⟨⟨_, _, rfl⟩, Nat.zero_le _⟩
  | less _ _ _ _ _ _ => exact ⟨⟨_, _, rfl⟩, Nat.zero_le _⟩
  | no _ _ _ => exact ⟨⟨_, _, rfl⟩, Nat.zero_le _⟩
  | keep => exact ⟨⟨_, _, rfl⟩, Nat.zero_le _⟩
theorem Step.of_rule {rules : List Rule} {B k n : Nat} {C C' : Eqs} {f : Str} {ks new : List AT} (h : Step rules B k C (.app f ks) n C' new) (hn : n ≠ 0) : ∃ i0 us b, n = i0 + 1 ∧ rules[i0]? = some (.app f us, b) ∧ us.length = ks.length ∧ C' = [(.app f ks, lift (k + 1) (.app f us))] ∧ new = b.map (lift (k + 1)) := by
  cases h with
  | rule hr hf hl => exact ⟨_, _, _, rfl, hr, hl, rfl, rfl⟩
  | eq => exact absurd rfl hn
  | asg _ _ => exact absurd rfl hn
  | less _ _ _ _ _ _ => exact absurd rfl hn
  | no _ _ _ => exact absurd rfl hn
  | keep => exact absurd rfl hn
theorem Step.kept {rules : List Rule} {B k : Nat} {C C' : Eqs} {ks new : List AT} (h : Step rules B k C (.app wKeep ks) 0 C' new) : C' = [] ∧ new = [] := by
  generalize hf : wKeep = f at h
  cases h with
  | eq => exact absurd hf (by decide +kernel)
  | asg _ _ => exact absurd hf (by decide +kernel)
  | less h1 _ _ _ _ _ =>
    rcases h1 with e | e
    · rw [e] at hf; exact absurd hf (by decide +kernel)
    · rw [e] at hf; exact absurd hf (by decide +kernel)
  | no _ _ _ => exact absurd hf (by decide +kernel)
  | keep => exact ⟨rfl, rfl⟩
theorem go_size {N : List Str} : ∀ {gs : List PT}, (∀ g ∈ gs, GO N g) → (gs.map Tm.size).sum ≤ 7 * gs.length
  | [], _ => by simp
  | g :: gs, h => by
    rw [List.map_cons, List.sum_cons, List.length_cons]
    have h1 := (h g (List.mem_cons_self ..)).th.size
    have h2 := go_size (gs := gs) fun x hx => h x (List.mem_cons_of_mem _ hx)
    omega
theorem rule_lt {N : List Str} {h : PT} {bd : List PT} (ro : RO N (h, bd)) : LT 40 (.app "0" (h :: bd)) ∧ ∀ x ∈ (Tm.app "0" (h :: bd) : PT).vars, x ∈ N := by
  have hs : (Tm.app "0" (h :: bd) : PT).size ≤ 22 := by
    rw [Tm.size_app, List.map_cons, List.sum_cons]
    have h1 := ro.th.size
    have h2 := go_size ro.body
    have h3 := ro.len
    simp only at h1 h2 h3
    omega
  have hd := (Tm.app "0" (h :: bd) : PT).depth_le_size
  have hv := len_vars (Tm.app "0" (h :: bd))
  have hmem : ∀ t ∈ h :: bd, Shp t ∧ ∀ x ∈ t.vars, x ∈ N := fun t ht => by
    rcases List.mem_cons.mp ht with e | e
    · rw [e]; exact ⟨ro.th.shp, ro.th.vars⟩
    · exact ⟨(ro.body t e).th.shp, (ro.body t e).th.vars⟩
  refine ⟨⟨by omega, fun f ks hm => ?_, by omega⟩, fun x hx => ?_⟩
  · rw [Tm.apps_app] at hm
    rcases List.mem_cons.mp hm with e | hm
    · injection e with _ e
      rw [e]
      have := ro.len
      simp only at this
      rw [List.length_cons]
      omega
    · obtain ⟨t, ht, hm⟩ := List.mem_flatMap.mp hm
      have := (hmem t ht).1.ar f ks hm
      omega
  · rw [Tm.vars_app] at hx
    obtain ⟨t, ht, hx⟩ := List.mem_flatMap.mp hx
    exact (hmem t ht).2 x hx
/-- ('app', '0', (a,) + b) -/
theorem x_head {K : PySem.W.Frag} {σ : L2.St} {U : Hp} {X0 X1 : TE} {yu : V} {yb : Addr} {h : PT} {bd : List PT} {bs : List V} {Q : VK} (h0 : Rds X0 σ U yu) (h1 : ∀ U', Same U U' → Rds X1 σ U' (.ref yb)) (ru : RepT U h yu) (hb : U yb = some (.tup bs)) (rb : Rp RepT U bd bs) (hl : bs.length ≤ 1000)
    (k : ∀ p U', Same U U' → RepT U' (.app "0" (h :: bd)) (.ref p) → Q (.ref p) U') : tTup (tCons (tC (.str "app")) (tCons (tC (.str "0")) (tCons (tOp (rCatA K) (tTup (tCons X0 tNil)) X1) tNil))) σ U Q := by
  have fin : ∀ (pc : Addr) (U' : Hp), Same U U' → U' pc = some (.tup (yu :: bs)) → (tNil σ U' fun vs H2 => (V.str "app" :: V.str "0" :: V.ref pc :: vs).length ≤ sizeLine ∧ ∀ p, H2 p = none → Q (.ref p) (upd H2 p (.tup (V.str "app" :: V.str "0" :: V.ref pc :: vs)))) := by
    intro pc U' hS hpc
    refine ⟨sz (by simp), fun p hp => ?_⟩
    have s1 := same_new (o := HO.tup [.str "app", .str "0", .ref pc]) hp
    exact k p _ (hS.trans s1) ⟨p, pc, yu :: bs, rfl, upd_same, s1 _ _ hpc, .cons (ru.ex (.of (hS.trans s1))) (Rp_repL (rb.ex fun _ _ z => z.ex (.of (hS.trans s1))))⟩
  refine h0 _ ⟨sz (by simp), fun p1 hp1 => h1 _ (same_new hp1) _ ?_⟩
  have s1 := same_new (o := HO.tup [yu]) hp1
  refine ⟨p1, yb, [yu], bs, rfl, rfl, SqT.of upd_same, SqT.of (s1 _ _ hb), sz (by simp; omega), (fun z => nomatch z), fun _ hz => ?_, fun _ _ pc hpc => ?_⟩
  · exact fin p1 _ s1 (by rw [hz]; exact upd_same)
  · exact fin pc _ (s1.trans (same_new hpc)) upd_same
theorem satC_nil {t : Nat → Nat} {θ : Str → PT} {C : Eqs} : SatC t θ (C ++ []) ↔ SatC t θ C := by rw [List.append_nil]
section
variable {P : Program} {w : World} {K : PySem.W.Frag} {mg : Str → Option Value} {base : Heap}
theorem sc_leow : FnScope ["_law_rules", "_law_goals", "_law_way", "_law_puts", "_law_left", "_law_k", "_law_number", "_law_goal_here", "_law_head"] ["_law_rules", "_law_goals", "_law_way"] d_law_end_of_way.scope := ⟨rfl, rfl, rfl, by decide +kernel, rfl, by decide +kernel, by decide +kernel⟩
theorem ok_leow (T : T35 K mg) : Cl P w K mg base CX0 205 "_law_end_of_way" ["_law_rules", "_law_goals", "_law_way"] spLEow := by
  have cM := ok_lmarked (P := P) (w := w) (base := base) T 40
  have cO := ok_lone (P := P) (w := w) (base := base) T 200
  have cD := ok_ldeed (P := P) (w := w) (base := base) T 200
  refine cl_of (d := d_law_end_of_way) T 47 rfl rfl rfl rfl sc_leow (fun vs H Q E h => ?_) (fun _ _ _ _ _ _ us hl => match us, hl with | [_, _, _], _ => rfl) (fun cdv A outer s H vs Q E hr h => ?_)
  · obtain ⟨ra, ga, wa, N, rules, gs0, rv, gv, way, Cend, θ, rfl, _⟩ := h
    rfl
  · obtain ⟨ra, ga, wa, N, rules, gs0, rv, gv, way, Cend, θ, rfl, hra, hrv, hga, hgv, hwa, hdr, hwl, hpath, hsat, hdep, hdom, k⟩ := h
    have hu := hu_of hr
    refine ⟨_, (pss_cons (ps_set (i := 3) sc_leow.nd rfl (Or.inl rfl) pe_dnewK) (pss_cons (ps_set (i := 4) sc_leow.nd rfl (Or.inl rfl) (pe_callTy call_list_of rfl (T.free 1 _ rfl) PyProof.Rows.boot_list (pa_cons (pv 1) pa_nil))) (pss_cons (ps_for PassesOwn.never rfl (pi_enum rfl (T.free 8 _ rfl) (pa_cons (pv 2) pa_nil)) (pg_tup (n := 2) rfl (pgs_cons (pg_name (i := 5) sc_leow.nd rfl (Or.inl rfl)) (pgs_cons (pg_name (i := 6) sc_leow.nd rfl (Or.inl rfl)) pgs_nil))) (pss_cons (ps_if (PW.pt (pw_or (pt_cmpR (op_eqL0 hu) (pv 4) (pe_lst pa_nil) (nomark _)) (pw_or (pt_cmpR op_isN (pv 3) pe_non (nomark _)) (pw_or1 (pt_not (pt_chain op_le op_le pe_int (pv 6) (pe_callB call_len_seq rfl (T.free 0 _ rfl) PySem.boot_len (pa_cons (pv 0) pa_nil)))))))) (pss_one (ps_ret pe_non)) pss_nil) (pss_cons (ps_set (i := 7) sc_leow.nd rfl (Or.inl rfl) (pe_bm PySem.F.plainAttrs_list PySem.F.slot_list_pop PySem.F.type_list_pop mt_popAt (pv 4) (pa_cons pe_int pa_nil))) (pss_one (ps_if (pt_cmpR op_gt (pv 6) pe_int (nomark _)) (pss_cons (ps_set (i := 8) sc_leow.nd rfl (Or.inl rfl) (pe_ix ix_tup (pe_cl cM hr (by omega) rfl (pa_cons (pe_tup (pa_cons pe_str (pa_cons pe_str (pa_cons (pe_op op_catA (pe_tup (pa_cons (pe_ix ix_tup (pe_ix ix_list (pv 0) (pe_op op_sub (pv 6) pe_int) (fun _ _ => rfl)) pe_int (fun _ _ => rfl)) pa_nil)) (pe_ix ix_tup (pe_ix ix_list (pv 0) (pe_op op_sub (pv 6) pe_int) (fun _ _ => rfl)) pe_int (fun _ _ => rfl))) pa_nil)))) (pa_cons (pv 5) pa_nil))) pe_int (fun _ _ => rfl))) (pss_cons (ps_if (PW.pt (pw_or (pt_cmpR op_ne (pe_ix ix_tup (pv 7) pe_int (fun _ _ => rfl)) (pe_ix ix_tup (pe_ix ix_tup (pv 8) pe_int (fun _ _ => rfl)) pe_int (fun _ _ => rfl)) (nomark _)) (pw_or1 (pt_cmpR op_ne (pe_callB call_len_seq rfl (T.free 0 _ rfl) PySem.boot_len (pa_cons (pe_ix ix_tup (pv 7) pe_int (fun _ _ => rfl)) pa_nil)) (pe_callB call_len_seq rfl (T.free 0 _ rfl) PySem.boot_len (pa_cons (pe_ix ix_tup (pe_ix ix_tup (pv 8) pe_int (fun _ _ => rfl)) pe_int (fun _ _ => rfl)) pa_nil)) (nomark _))))) (pss_one (ps_ret pe_non)) pss_nil) (pss_cons (ps_set (i := 3) sc_leow.nd rfl (Or.inl rfl) (pe_cl cO hr (by omega) rfl (pa_cons (pv 7) (pa_cons (pe_ix ix_tup (pv 8) pe_int (fun _ _ => rfl)) (pa_cons (pv 3) pa_nil))))) (pss_one (ps_set (i := 4) sc_leow.nd rfl (Or.inl rfl) (pe_op op_cat (pe_callTy call_list_of rfl (T.free 1 _ rfl) PyProof.Rows.boot_list (pa_cons (pe_slice sl_tup (pv 8) (po_some pe_int) po_none) pa_nil)) (pv 4))))))) (pss_one (ps_if (pt_cmpR op_notIn_seq (pe_ix ix_tup (pv 7) pe_int (fun _ _ => rfl)) (pe_tup (pa_cons pe_str (pa_cons pe_str (pa_cons pe_str (pa_cons pe_str (pa_cons pe_str (pa_cons pe_str pa_nil))))))) rfl) (pss_one (ps_ret pe_non)) (pss_one (ps_if (pt_cmpR op_ne (pe_ix ix_tup (pv 7) pe_int (fun _ _ => rfl)) pe_str (nomark _)) (pss_one (ps_set (i := 3) sc_leow.nd rfl (Or.inl rfl) (pe_cl cD hr (by omega) rfl (pa_cons (pv 7) (pa_cons (pv 3) pa_nil))))) pss_nil))))))))) (pss_cons (ps_if (PW.pt (pw_or (pt_cmpR (op_neL0 hu) (pv 4) (pe_lst pa_nil) (nomark _)) (pw_or1 (pt_cmpR op_isN (pv 3) pe_non (nomark _))))) (pss_one (ps_ret pe_non)) pss_nil) (pss_one (ps_ret (pv 3))))))), ?_⟩
    have M := marks_id (n := way.length) hwl
    have hback := fun (u : AT) (hu' : DomT way.length u) => back_sub M hu' θ
    have hsatL := sat_back M hdom hsat
    generalize hθL : (fun y => θ (back way.length idn y)) = θL at hback hsatL
    have hvl : (Vt N 20).length ≤ 10000 := by
      rw [Vt_len, hdr.nlen]
      omega
    have hgl := hgv.length
    have hg2 := hdr.glen
    -- puts = {}, left = list(goals)
    intro d hd
    have s1 := same_new (o := HO.dK []) hd
    refine ⟨.ref ga, rfl, ga, gv, rfl, .inl (SqL.of (s1 _ _ hga)), fun lf hlf => ?_⟩
    have s2 := same_new (o := HO.lst gv) hlf
    have S2 := s1.trans s2
    refine ⟨.ref wa, rfl, wa, wayV way, rfl, SqL.of (S2 _ _ hwa), ?_⟩
    have hdlf : d ≠ lf := fun z => by
      rw [← z, upd_same] at hlf
      cases hlf
    refine for_enum (ys := wayV way) (fun i τ U => ∃ x5 x6 x7 x8 d' lf' P σ rk C gs lv, τ = [some (.ref ra), some (.ref ga), some (.ref wa), some (.ref d'), some (.ref lf'), x5, x6, x7, x8] ∧ Same H U ∧ PutsAt U d' P ∧ LG (Vt N 20) P σ rk ∧ (∀ θ', Sol θ' P ↔ SatC idn θ' C) ∧ H lf' = none ∧ U lf' = some (.lst lv) ∧ RepL U (gs.map (conc idn)) lv ∧ Path rules 200 Cend i C gs (way.drop i) ∧ (∀ g ∈ gs, GAt N way.length g) ∧ gs.length ≤ 2 + 2 * i)
      ⟨none, none, none, none, d, lf, [], _, _, [], gs0.map (lift 0), gv, rfl, S2, ⟨[], s2 _ _ upd_same, rfl⟩, LG.nil, fun θ' => ⟨fun _ p hp => (nomatch hp), fun _ x t e => (nomatch e)⟩, s1.free hlf, upd_same, ?_, hpath, fun g hg => ?_, by rw [List.length_map]; omega⟩ (fun i τ U _ hJ => ?_) (fun i y τ U T hy hJ hT => ?_) (fun τ U hJ => ?_)
    · rw [List.map_map]
      have e : (conc idn ∘ lift 0) = fun t : PT => t := by
        funext t
        exact conc_lift0 idn t
      rw [e, List.map_id']
      exact hgv.ex (.of S2)
    · obtain ⟨t, ht, rfl⟩ := List.mem_map.mp hg
      exact gat_0 (hdr.gls t ht).th hdr.names
    · obtain ⟨x5, x6, x7, x8, d', lf', P', σ, rk, C, gs, lv, rfl, hS, _⟩ := hJ
      exact SqL.of (hS _ _ hwa)
    · obtain ⟨x5, x6, x7, x8, d', lf', P', σ, rk, C, gs, lv, rfl, hS, hP, G, hiff, hlfH, hlv, hL, hp, hgat, hgn⟩ := hJ
      have hyw : ∃ n, way[i]? = some n ∧ y = .int (n : Int) := by
        unfold wayV at hy
        rw [List.getElem?_map] at hy
        cases hw : way[i]? with
        | none => rw [hw] at hy; cases hy
        | some n => rw [hw] at hy; cases hy; exact ⟨n, rfl, rfl⟩
      obtain ⟨n, hwn, rfl⟩ := hyw
      have hiw := (List.getElem?_eq_some_iff.mp hwn).1
      rw [drop_at hwn] at hp
      have sT := same_new (o := HO.tup [.int (i : Int), .int (n : Int)]) hT
      have hS1 := hS.trans sT
      refine ⟨T, _, rfl, SqT.of upd_same, rfl, _, _, rfl, _, _, rfl, rfl, ?_⟩
      obtain ⟨C', g, gs', new, rfl, hs, hp'⟩ := hp.inv
      obtain ⟨⟨f, ks, rfl⟩, hnr⟩ := hs.is_app
      obtain ⟨v, lv', rfl, hv, hL'⟩ := hL
      have hCC := hp'.sub
      have hC : ∀ e ∈ C, e ∈ Cend := fun e he => hCC e (List.mem_append_left _ he)
      have hC' : ∀ e ∈ C', e ∈ Cend := fun e he => hCC e (List.mem_append_right _ he)
      have hga := hgat _ (List.mem_cons_self ..)
      have hrvl := hrv.1
      have hP1 := hP.same sT
      have hlv1 := sT _ _ hlv
      have hv1 := hv.ex (.of sT)
      have hL1 := hL'.ex (.of sT)
      generalize hU1 : upd U T (.tup [.int (i : Int), .int (n : Int)]) = U1 at hS1 hP1 hlv1 hv1 hL1 ⊢
      -- nothing is wrong at its head
      refine ⟨.ref lf', rfl, sz (by simp), fun q hq => ⟨lf', q, v :: lv', rfl, rfl, SqL.of (same_new hq _ _ hlv1), SqL.of upd_same, _, rfl, ?_⟩⟩
      have sq := same_new (o := HO.lst []) hq
      have hne : ¬ (v :: lv').length = 0 := by simp
      rw [decide_eq_false hne]
      refine iteF ?_
      refine ⟨.ref d', rfl, rfl, _, rfl, iteF ?_⟩
      have hS2 := hS1.trans sq
      have hP2 := hP1.same sq
      have hlv2 := sq _ _ hlv1
      have hv2 := hv1.ex (.of sq)
      have hL2 := hL1.ex (.of sq)
      generalize hU2 : upd U1 q (.lst []) = U2 at hS2 hP2 hlv2 hv2 hL2 ⊢
      refine ⟨.int (n : Int), rfl, 0, (n : Int), rfl, rfl, true, congrArg V.bl (decide_eq_true (by omega : (0 : Int) ≤ (n : Int))), iteT ?_⟩
      refine ⟨.ref ra, rfl, ra, rv, rfl, .inl (SqL.of (hS2 _ _ hra)), (n : Int), (rv.length : Int), rfl, rfl, true, congrArg V.bl (decide_eq_true (by omega : (n : Int) ≤ (rv.length : Int))), iteF ?_⟩
      -- left.pop(0)
      have hseq : seqIndex? 0 (v :: lv').length = some 0 := by
        unfold seqIndex?
        simp
      refine ⟨.ref lf', rfl, .inl ⟨rfl, _, SqL.of hlv2⟩, lf', v :: lv', 0, 0, v, rfl, rfl, hlv2, by decide, by decide, hseq, rfl, ?_⟩
      have hdl : d' ≠ lf' := fun z => by
        obtain ⟨kvs, h1, _⟩ := hP2
        rw [z, hlv2] at h1
        cases h1
      have tx := tupex_ls (o := .lst ((v :: lv').eraseIdx 0)) hlv2
      have hS3 : Same H (upd U2 lf' (.lst ((v :: lv').eraseIdx 0))) := same_mut hS2 hlfH
      have hP3 : PutsAt (upd U2 lf' (.lst ((v :: lv').eraseIdx 0))) d' P' := by
        obtain ⟨kvs, h1, h2⟩ := hP2
        exact ⟨kvs, by rw [upd_ne hdl]; exact h1, h2.ex tx⟩
      have hv3 := hv2.ex tx
      have hL3 := hL2.ex tx
      have hlv3 : (upd U2 lf' (.lst ((v :: lv').eraseIdx 0))) lf' = some (.lst lv') := upd_same
      generalize hU3 : upd U2 lf' (.lst ((v :: lv').eraseIdx 0)) = U3 at hS3 hP3 hv3 hL3 hlv3 ⊢
      rw [conc_app] at hv3
      obtain ⟨ga1, gk, gvs, rfl, g3, gkt, gks⟩ := hv3.kids
      have hθP : Sol θL P' := (hiff θL).mpr fun p hp => hsatL p (hC p hp)
      have gsn : gs'.length + 1 ≤ 2 + 2 * i := hgn
      by_cases hn0 : n = 0
      · subst hn0
        refine s_if (rdT_test (rd_gt0 (rd_var rfl))) (fun z => absurd (of_decide_eq_true z) (by omega)) fun _ => ?_
        have hf6 : f ∈ ([wEq, wAsg, wLt, wLe, wNot, wKeep] : List Str) := by
          by_cases hk : f = wKeep
          · rw [hk]; simp
          · obtain ⟨_, _, h⟩ := step_law hs hk ((hiff σ).mp G.good.sol)
            simp only [List.mem_cons, List.not_mem_nil, or_false] at h ⊢
            rcases h with h | h | h | h | h
            · exact .inl h
            · exact .inr (.inl h)
            · exact .inr (.inr (.inl h))
            · exact .inr (.inr (.inr (.inl h)))
            · exact .inr (.inr (.inr (.inr (.inl h))))
        refine ⟨.ref ga1, rfl, ga1, _, ((1 : Nat) : Int), .str f, rfl, rfl, SqT.of g3, atI_nat rfl, sz (by simp), fun q5 hq5 => ⟨q5, _, rfl, .inr (SqT.of upd_same), rfl, rfl, _, rfl, ?_⟩⟩
        have hin : inV (.str f) [.str "=", .str ":=", .str "<", .str "<=", .str "not", .str "keep"] = decide (f ∈ ([wEq, wAsg, wLt, wLe, wNot, wKeep] : List Str)) := inV_strs f ["=", ":=", "<", "<=", "not", "keep"]
        rw [hin, decide_eq_true hf6]
        refine iteF ?_
        have s5 := same_new (o := HO.tup [.str "=", .str ":=", .str "<", .str "<=", .str "not", .str "keep"]) hq5
        have hS5 := hS3.trans s5
        have hP5 := hP3.same s5
        have hlv5 := s5 _ _ hlv3
        have hL5 := hL3.ex (.of s5)
        have g5 := s5 _ _ g3
        have gk5 := s5 _ _ gkt
        have gks5 := gks.ex (.of s5)
        generalize hU5 : upd U3 q5 (.tup [.str "=", .str ":=", .str "<", .str "<=", .str "not", .str "keep"]) = U5 at hS5 hP5 hlv5 hL5 g5 gk5 gks5 ⊢
        by_cases hk : f = wKeep
        · subst hk
          refine s_if (rdT_test (rd_neS (rd_ixT (n := 1) (rd_var rfl) rd_c g5 rfl) rd_c)) (fun z => ?_) fun _ => ?_
          · rw [show decide (V.str wKeep = V.str ("keep" : Str)) = true from decide_eq_true rfl] at z
            cases z
          · obtain ⟨rfl, rfl⟩ := hs.kept
            rw [List.append_nil] at hp'
            exact ⟨_, _, _, _, d', lf', P', σ, rk, C, gs', lv', rfl, hS5, hP5, G, hiff, hlfH, hlv5, hL5, hp', fun g hg => hgat g (List.mem_cons_of_mem _ hg), by omega⟩
        · obtain ⟨hls, rfl, _⟩ := step_law hs hk ((hiff σ).mp G.good.sol)
          refine s_if (rdT_test (rd_neS (rd_ixT (n := 1) (rd_var rfl) rd_c g5 rfl) rd_c)) (fun _ => ?_) fun z => ?_
          · have hkd : ∀ x ∈ ks.map (conc idn), (x.sub θL).depth ≤ 200 := fun x hx => by
              obtain ⟨u, hu', rfl⟩ := List.mem_map.mp hx
              have hud : DomT way.length u := fun a ha => hga.dom a (by rw [Tm.vars_app]; exact List.mem_flatMap.mpr ⟨u, hu', ha⟩)
              rw [hback u hud]
              exact step_deep hs hsat hC hC' hdep u hu'
            have htk : ∀ x ∈ ks.map (conc idn), LTm (Vt N 20) x := fun x hx => by
              have := hga.tm
              rw [conc_app] at this
              exact this.kid hx
            refine s_asg (x_cl (sp := spLDeed 200) (ra_cons (rd_var rfl) (ra_cons (rd_var rfl) ra_nil)) ⟨f, ks.map (conc idn), _, Vt N 20, P', σ, rk, θL, .ref ga1, d', rfl, ⟨ga1, gk, gvs, rfl, g5, gk5, gks5⟩, hP5, G, hvl, htk, hls, hθP, fun e he => ?_, hkd, fun P2 d2 U6 σ2 rk2 hS6 hP6 G2 hiff2 => ?_⟩)
            · obtain ⟨p, hp0, rfl⟩ := List.mem_map.mp he
              exact hsatL p (hC' p hp0)
            · refine ⟨_, _, _, _, d2, lf', P2, σ2, rk2, C ++ C', gs', lv', rfl, hS5.trans hS6, hP6, G2, fun θ' => ?_, hlfH, hS6 _ _ hlv5, hL5.ex (.of hS6), hp', fun g hg => hgat g (List.mem_cons_of_mem _ hg), by omega⟩
              rw [hiff2 θ', satC_app, hiff θ']
              constructor
              · rintro ⟨h1, h2⟩
                exact ⟨h1, fun p hp0 => h2 _ (List.mem_map.mpr ⟨p, hp0, rfl⟩)⟩
              · rintro ⟨h1, h2⟩
                refine ⟨h1, fun e he => ?_⟩
                obtain ⟨p, hp0, rfl⟩ := List.mem_map.mp he
                exact h2 p hp0
          · exfalso
            have : decide (V.str f = V.str ("keep" : Str)) = false := by
              rw [decS]
              exact decide_eq_false hk
            rw [this] at z
            cases z
      · refine s_if (rdT_test (rd_gt0 (rd_var rfl))) (fun _ => ?_) fun z => absurd (of_decide_eq_false z) (by omega)
        obtain ⟨i0, us, bd, rfl, hri, hul, rfl, rfl⟩ := hs.of_rule hn0
        have hil := (List.getElem?_eq_some_iff.mp hri).1
        have hyr : rv[i0]? = some rv[i0] := List.getElem?_eq_getElem (by omega)
        have hyR := hrv.2 i0 _ _ hri hyr
        generalize rv[i0] = y0 at hyr hyR
        obtain ⟨yt, yb, yu, bs, rfl, y1, y2, y3, y4⟩ := hyR
        have ro := hdr.rls _ (List.mem_of_getElem? hri)
        have bl : bd.length ≤ 2 := ro.len
        have bsl : bs.length = bd.length := y4.1
        have esub : (((i0 + 1 : Nat) : Int)) - 1 = (i0 : Int) := by omega
        have rule : ∀ (σ' : L2.St) (U' : Hp), σ'[0]? = some (some (.ref ra)) → σ'[6]? = some (some (.int ((i0 + 1 : Nat) : Int))) → Same H U' → Rds (tOp (rIxL K) (tVar 0) (tOp (rI0 fun i j => .int (i - j)) (tVar 6) (tC (.int 1)))) σ' U' (.ref yt) := by
          intro σ' U' e0 e6 hS
          refine rd_ixL (n := i0) (rd_var e0) ?_ (hS _ _ hra) hyr
          rw [← esub]
          exact rd_I0 (g := fun i j => .int (i - j)) (rd_var e6) rd_c
        refine s_asg (x_op (x_clc (x_head (h := .app f us) (bd := bd) (rd_ixT (n := 0) (rule _ _ rfl rfl hS3) rd_c (hS3 _ _ y1) rfl) (fun U' hS => rd_ixT (n := 1) (rule _ _ rfl rfl (hS3.trans hS)) rd_c ((hS3.trans hS) _ _ y1) rfl) (y2.ex (.of hS3)) (hS3 _ _ y3) (y4.ex fun _ _ z => z.ex (.of hS3)) (by omega) fun p5 U5 hS5 hr5 => ?_)))
        obtain ⟨hlt, hvN⟩ := rule_lt ro
        refine ⟨.int (i : Int), rfl, .app "0" (.app f us :: bd), .ref p5, i, rfl, hr5, hlt, by omega, fun x hx => Nat.le_trans (hdr.names x (hvN x hx)).len (by omega), fun v6 U6 hS6 hr6 => ?_⟩
        have emk : markT i (.app "0" (.app f us :: bd)) = .app "0" (markT i (.app f us) :: bd.map (markT i)) := Tm.sub_app ..
        rw [emk] at hr6
        obtain ⟨m1, mk1, mvs, rfl, h3, hk3, hkids⟩ := hr6.kids
        obtain ⟨vh, vbs, rfl, rvh, rvb⟩ := hkids
        have emh : markT i (.app f us) = .app f (us.map (markT i)) := Tm.sub_app ..
        have rvh0 := rvh
        rw [emh] at rvh
        obtain ⟨h1, hk1, hvs, rfl, hh3, hhk, hhks⟩ := rvh.kids
        have S36 := hS5.trans hS6
        have hS06 := hS3.trans S36
        have g6 := S36 _ _ g3
        have gk6 := S36 _ _ gkt
        have gks6 := gks.ex (.of S36)
        have lgk := gks6.length
        have lhk := hhks.length
        rw [List.length_map] at lgk lhk
        refine ⟨m1, _, ((2 : Nat) : Int), .ref mk1, rfl, rfl, SqT.of h3, atI_nat rfl, ?_⟩
        refine s_if (rdT_or (rdT_test (rd_neS (rd_ixT (n := 1) (rd_var rfl) rd_c g6 rfl) (rd_ixT (n := 1) (rd_ixT (n := 0) (rd_var rfl) rd_c hk3 rfl) rd_c hh3 rfl))) fun _ => rdT_test (rd_neI (rd_lenT (rd_ixT (n := 2) (rd_var rfl) rd_c g6 rfl) gk6) (rd_lenT (rd_ixT (n := 2) (rd_ixT (n := 0) (rd_var rfl) rd_c hk3 rfl) rd_c hh3 rfl) hhk))) (fun z => ?_) fun _ => ?_
        · have e : V.int (gvs.length : Int) = V.int (hvs.length : Int) := by rw [lgk, lhk, hul]
          rw [decide_eq_true rfl, decide_eq_true e] at z
          cases z
        have hmemC : (Tm.app f ks, lift (i + 1) (.app f us)) ∈ Cend := hC' _ (List.mem_cons_self ..)
        have eqv := hsatL _ hmemC
        have ecl : conc idn (lift (i + 1) (.app f us)) = markT i (.app f us) := conc_lift idn i _
        rw [ecl] at eqv
        have tmh := (gat_k ro.th (k := i) hiw hwl).tm
        have tmh : LTm (Vt N 20) (conc idn (lift (i + 1) (.app f us))) := tmh
        rw [ecl] at tmh
        refine s_asg (x_cl (sp := spLOne 200) (ra_cons (rd_var rfl) (ra_cons (rd_ixT (n := 0) (rd_var rfl) rd_c hk3 rfl) (ra_cons (rd_var rfl) ra_nil))) ⟨conc idn (.app f ks), markT i (.app f us), Vt N 20, P', σ, rk, θL, .ref ga1, .ref h1, d', rfl, ?_, rvh0, hP3.same S36, G, hvl, hga.tm, tmh, hθP, eqv, ?_, fun P2 d2 U7 σ2 rk2 hS7 hP7 G2 hiff2 => ?_⟩)
        · rw [conc_app]
          exact ⟨ga1, gk, gvs, rfl, g6, gk6, gks6⟩
        · rw [hback _ hga.dom]
          exact (hdep _ hmemC).1
        have hS07 := hS06.trans hS7
        have ecut : cutV (V.ref h1 :: vbs) (some 1) none = vbs := cutV_suf (V.ref h1 :: vbs) 1
        have hlv7 := (S36.trans hS7) _ _ hlv3
        have hk7 := hS7 _ _ hk3
        have hnw : ¬ (HT.sIx (V.ref h1 :: vbs).length 0 (some 1) = 0 ∧ HT.sIx (V.ref h1 :: vbs).length (V.ref h1 :: vbs).length none = (V.ref h1 :: vbs).length) := by
          rintro ⟨z, _⟩
          have e1 : HT.sIx (V.ref h1 :: vbs).length 0 (some ((1 : Nat) : Int)) = min 1 (V.ref h1 :: vbs).length := HT.sIx_nat _ _ 1
          have e2 : HT.sIx (V.ref h1 :: vbs).length 0 (some 1) = min 1 (V.ref h1 :: vbs).length := e1
          rw [e2] at z
          simp at z
        have lvb := rvb.length
        rw [List.length_map] at lvb
        have lgs := hL3.length
        rw [List.length_map] at lgs
        refine ⟨.ref mk1, rfl, 1, rfl, mk1, V.ref h1 :: vbs, rfl, SqT.of hk7, hnw, fun q8 hq8 => ?_⟩
        rw [ecut]
        have s8 := same_new (o := HO.tup vbs) hq8
        refine ⟨q8, vbs, rfl, .inr (SqT.of upd_same), fun q9 hq9 => ?_⟩
        have s9 := same_new (o := HO.lst vbs) hq9
        have s89 := s8.trans s9
        refine ⟨.ref lf', rfl, q9, lf', vbs, lv', rfl, rfl, upd_same, s89 _ _ hlv7, sz (by omega), fun q10 hq10 => ?_⟩
        have s10 := same_new (o := HO.lst (vbs ++ lv')) hq10
        have s810 := s89.trans s10
        have hSf := hS07.trans s810
        refine ⟨_, _, _, _, d2, q10, P2, σ2, rk2, C ++ [(.app f ks, lift (i + 1) (.app f us))], bd.map (lift (i + 1)) ++ gs', vbs ++ lv', rfl, hSf, hP7.same s810, G2, fun θ' => ?_, (hS07.trans s89).free hq10, upd_same, ?_, hp', fun g hg => ?_, ?_⟩
        · rw [hiff2 θ', satC_app, hiff θ']
          constructor
          · rintro ⟨a1, a2⟩
            refine ⟨a1, fun p hp0 => ?_⟩
            rw [List.mem_singleton.mp hp0]
            show (conc idn (.app f ks)).sub θ' = (conc idn (lift (i + 1) (.app f us))).sub θ'
            rw [ecl]
            exact a2
          · rintro ⟨a1, a2⟩
            have := a2 _ (List.mem_cons_self ..)
            have this : (conc idn (.app f ks)).sub θ' = (conc idn (lift (i + 1) (.app f us))).sub θ' := this
            rw [ecl] at this
            exact ⟨a1, this⟩
        · have emap : (bd.map (lift (i + 1)) ++ gs').map (conc idn) = bd.map (markT i) ++ gs'.map (conc idn) := by
            rw [List.map_append, List.map_map]
            congr 1
            refine List.map_congr_left fun t _ => ?_
            exact conc_lift idn i t
          rw [emap]
          exact (rvb.ex (.of (hS7.trans s810))).append (hL3.ex (.of ((S36.trans hS7).trans s810)))
        · rcases List.mem_append.mp hg with h | h
          · obtain ⟨t, ht, rfl⟩ := List.mem_map.mp h
            exact gat_k (ro.body t ht).th hiw hwl
          · exact hgat g (List.mem_cons_of_mem _ h)
        · rw [List.length_append, List.length_map]
          omega
    · obtain ⟨x5, x6, x7, x8, d', lf', P', σ, rk, C, gs, lv, rfl, hS, hP, G, hiff, hlfH, hlv, hL, hp, hgat, hgn⟩ := hJ
      have hwv : (wayV way).length = way.length := List.length_map ..
      rw [hwv, List.drop_length] at hp
      generalize hnil : ([] : List Nat) = wn at hp
      cases hp with
      | step _ _ => cases hnil
      | done =>
        have hlv0 : lv = [] := hL
        subst hlv0
        refine ⟨.ref lf', rfl, sz (by simp), fun q hq => ⟨lf', q, [], rfl, rfl, SqL.of (same_new hq _ _ hlv), SqL.of upd_same, _, rfl, ?_⟩⟩
        have s3 := same_new (o := HO.lst []) hq
        refine iteF ?_
        refine ⟨.ref d', rfl, rfl, _, rfl, iteF ?_⟩
        exact s_ret (v := .ref d') (rd_var rfl) (k P' d' _ σ rk (hS.trans s3) (hP.same s3) G hiff)
end
end G35

/-! GEq1 -/
set_option Elab.async false
set_option linter.all false
set_option maxRecDepth 100000
set_option maxHeartbeats 4000000
/-! == of nested lists and tuples that are alike. -/
namespace G35
open PySem PySem.Spec PyProof.Rows L2
/-- alike, of nesting below n -/
def EqX (K : PySem.W.Frag) (H : Hp) : Nat → V → V → Prop
  | 0 => fun _ _ => False
  | n + 1 => fun x y => (x = y ∧ flatB x = true) ∨ (∃ a, x = .ref a ∧ y = .ref a) ∨ (∃ a b xs ys, x = .ref a ∧ y = .ref b ∧ SqL K H a xs ∧ SqL K H b ys ∧ Paired (EqX K H n) xs ys) ∨ ∃ a b xs ys, x = .ref a ∧ y = .ref b ∧ SqT K H a xs ∧ SqT K H b ys ∧ Paired (EqX K H n) xs ys
theorem itemsX {A : Around} {s : Shared} {F : V → V → Prop} (ih : ∀ x y v u, F x y → RelV x v → RelV y u → SeqAt.EqAt A s v u true) {xs ys : List V} (hp : Paired F xs ys) :
    ∀ {us ws : List Value}, Vals xs us → Vals ys ws → ∀ j (h1 : j < us.length) (h2 : j < ws.length), SeqAt.EqAt A s us[j] ws[j] true := by
  induction hp with
  | nil =>
    intro us ws r1 r2 j h1 h2
    cases r1
    exact absurd h1 (Nat.not_lt_zero j)
  | cons h _ k =>
    intro us ws r1 r2 j h1 h2
    cases r1 with
    | cons a1 b1 =>
      cases r2 with
      | cons a2 b2 =>
        cases j with
        | zero => exact ih _ _ _ _ h a1 a2
        | succ j => exact k b1 b2 j (Nat.lt_of_succ_lt_succ h1) (Nat.lt_of_succ_lt_succ h2)
theorem all_true (n : Nat) : (List.range n).all (fun _ => true) = true := List.all_eq_true.mpr fun _ _ => rfl
section
variable {X : Cx} {pins : List (Addr × Obj)} {σ : L2.St} {H : Hp} {s : Shared}
theorem listsX (I : Inv X pins σ H s) {A : Around} {F : V → V → Prop} (hu : A.units < cLine) (ih : ∀ x y v u, F x y → RelV x v → RelV y u → SeqAt.EqAt A.in1 s v u true) {a b : Addr} {xs ys : List V} (ha : SqL X.K H a xs) (hb : SqL X.K H b ys) (hp : Paired F xs ys) : SeqAt.RcAt A s (.ref a) (.ref b) true := by
  obtain ⟨us, r1, p1, _⟩ := I.list ha
  obtain ⟨ws, r2, p2, _⟩ := I.list hb
  have hsz : us.toArray.size = ws.toArray.size := by
    rw [List.size_toArray, List.size_toArray, ← r1.length, ← r2.length]
    exact Paired.length hp
  have k := SeqAt.RcAt.lists (A := A) (s := s) (e := fun _ => true) p1.isList p2.isList hsz hu (fun j h1 h2 => by
    have k := itemsX ih hp r1 r2 j (by simpa using h1) (by simpa using h2)
    simpa using k)
  rw [all_true] at k
  exact k
theorem tupsX (I : Inv X pins σ H s) {A : Around} {F : V → V → Prop} (hu : A.units < cLine) (ih : ∀ x y v u, F x y → RelV x v → RelV y u → SeqAt.EqAt A.in1 s v u true) {a b : Addr} {xs ys : List V} (ha : SqT X.K H a xs) (hb : SqT X.K H b ys) (hp : Paired F xs ys) : SeqAt.RcAt A s (.ref a) (.ref b) true := by
  obtain ⟨us, r1, p1, _⟩ := I.tuple ha
  obtain ⟨ws, r2, p2, _⟩ := I.tuple hb
  have hsz : us.toArray.size = ws.toArray.size := by
    rw [List.size_toArray, List.size_toArray, ← r1.length, ← r2.length]
    exact Paired.length hp
  have k := SeqAt.RcAt.tuples (A := A) (s := s) (e := fun _ => true) (show s.heap.IsTuple a us.toArray from p1) (show s.heap.IsTuple b ws.toArray from p2) hu (fun j h1 h2 => by
    have k := itemsX ih hp r1 r2 j (by simpa using h1) (by simpa using h2)
    simpa using k)
  rw [all_true, hsz, beq_self_eq_true, Bool.and_true] at k
  exact k
theorem eqX_run (I : Inv X pins σ H s) : ∀ (n : Nat) (A : Around), A.units + n < cLine → ∀ (x y : V) (v u : Value), EqX X.K H n x y → RelV x v → RelV y u → SeqAt.EqAt A s v u true
  | 0, _, _, _, _, _, _, h, _, _ => (show False from h).elim
  | n + 1, A, hu, x, y, v, u, h, rx, ry => by
    have ih := eqX_run I n A.in1 (by show A.units + 1 + n < cLine; omega)
    rcases h with ⟨rfl, f⟩ | ⟨a, rfl, rfl⟩ | ⟨a, b, xs, ys, rfl, rfl, ha, hb, hp⟩ | ⟨a, b, xs, ys, rfl, rfl, ha, hb, hp⟩
    · exact eqAt_same rx ry f
    · cases (show v = Value.ref a from rx)
      cases (show u = Value.ref a from ry)
      exact SeqAt.EqAt.same _
    · cases (show v = Value.ref a from rx)
      cases (show u = Value.ref b from ry)
      by_cases e : a = b
      · subst e
        exact SeqAt.EqAt.same _
      · exact SeqAt.EqAt.of_refs e (listsX I (by omega) ih ha hb hp)
    · cases (show v = Value.ref a from rx)
      cases (show u = Value.ref b from ry)
      by_cases e : a = b
      · subst e
        exact SeqAt.EqAt.same _
      · exact SeqAt.EqAt.of_refs e (tupsX I (by omega) ih ha hb hp)
end
/-- a == b, two lists or two tuples that are alike -/
def rEqX (K : PySem.W.Frag) : R2 := fun x y H Q => ∃ n a b xs ys, n ≤ 600 ∧ x = .ref a ∧ y = .ref b ∧ ((SqL K H a xs ∧ SqL K H b ys) ∨ (SqT K H a xs ∧ SqT K H b ys)) ∧ Paired (EqX K H n) xs ys ∧ Q (.bl true) H
theorem op_eqX {X : Cx} (hu : X.A.units + 602 < cLine) : OpR X (compareOp .Eq) (rEqX X.K) := by
  intro pins s σ H x y v u Q I rx ry h
  obtain ⟨n, a, b, xs, ys, hn, rfl, rfl, h, hp, q⟩ := h
  cases (show v = Value.ref a from rx)
  cases (show u = Value.ref b from ry)
  have ih := eqX_run I n X.A.in1 (by show X.A.units + 1 + n < cLine; omega)
  rcases h with ⟨ha, hb⟩ | ⟨ha, hb⟩
  · exact listsX I (by omega) ih ha hb hp X.prog X.w _ _ ⟨.bl true, H, I, rfl, q⟩
  · exact tupsX I (by omega) ih ha hb hp X.prog X.w _ _ ⟨.bl true, H, I, rfl, q⟩
theorem eqX_flat {K : PySem.W.Frag} {H : Hp} {n : Nat} {x : V} (h : flatB x = true) : EqX K H (n + 1) x x := .inl ⟨rfl, h⟩
theorem eqX_term {K : PySem.W.Frag} {H : Hp} : ∀ (t : PT) (n : Nat) (v w : V), 2 * t.depth ≤ n → RepT H t v → RepT H t w → EqX K H n v w := by
  refine Tm.ind (fun m n v w hn h1 h2 => ?_) (fun x n v w hn h1 h2 => ?_) (fun f ks ih n v w hn h1 h2 => ?_)
  · rw [Tm.depth_num] at hn
    obtain ⟨a, rfl, ha⟩ := h1
    obtain ⟨b, rfl, hb⟩ := h2
    obtain ⟨n, rfl⟩ : ∃ j, n = j + 2 := ⟨n - 2, by omega⟩
    exact .inr (.inr (.inr ⟨a, b, _, _, rfl, rfl, SqT.of ha, SqT.of hb, .cons (eqX_flat rfl) (.cons (eqX_flat rfl) .nil)⟩))
  · rw [Tm.depth_any] at hn
    obtain ⟨a, rfl, ha⟩ := h1
    obtain ⟨b, rfl, hb⟩ := h2
    obtain ⟨n, rfl⟩ : ∃ j, n = j + 2 := ⟨n - 2, by omega⟩
    exact .inr (.inr (.inr ⟨a, b, _, _, rfl, rfl, SqT.of ha, SqT.of hb, .cons (eqX_flat rfl) (.cons (eqX_flat rfl) .nil)⟩))
  · have hd := (Tm.app f ks : PT).depth_pos
    obtain ⟨a, ka, va, rfl, ha, hka, hra⟩ := h1.kids
    obtain ⟨b, kb, vb, rfl, hb, hkb, hrb⟩ := h2.kids
    obtain ⟨n, rfl⟩ : ∃ j, n = j + 2 := ⟨n - 2, by omega⟩
    have hp : Paired (EqX K H n) va vb := by
      have : ∀ (ks' : List PT) (va vb : List V), (∀ k ∈ ks', k ∈ ks) → RepL H ks' va → RepL H ks' vb → Paired (EqX K H n) va vb := by
        intro ks'
        induction ks' with
        | nil =>
          intro va vb _ h1 h2
          have e1 : va = [] := h1
          have e2 : vb = [] := h2
          rw [e1, e2]
          exact .nil
        | cons k ks' ihk =>
          intro va vb hk h1 h2
          obtain ⟨x, r, rfl, hx, hr⟩ := h1
          obtain ⟨y, r', rfl, hy, hr'⟩ := h2
          have hkm := hk k (List.mem_cons_self ..)
          have := Tm.depth_kid (f := f) hkm
          exact .cons (ih k hkm n x y (by omega) hx hy) (ihk r r' (fun j hj => hk j (List.mem_cons_of_mem _ hj)) hr hr')
      exact this ks va vb (fun _ h => h) hra hrb
    exact .inr (.inr (.inr ⟨a, b, _, _, rfl, rfl, SqT.of ha, SqT.of hb, .cons (eqX_flat rfl) (.cons (eqX_flat rfl) (.cons (.inr (.inr (.inr ⟨ka, kb, va, vb, rfl, rfl, SqT.of hka, SqT.of hkb, hp⟩))) .nil))⟩))
end G35

/-! GLaw15 -/
set_option Elab.async false
set_option linter.all false
set_option maxRecDepth 100000
set_option maxHeartbeats 4000000
namespace G35
open PySem PySem.Spec PyProof.Rows L2
/-! ### the law's leads -/
theorem pe_bty {X : Cx} {x : Str} {T : String} {pos : Pos} (hg : Gl X x) (hm : X.mg x = none) (hv : bootBuiltins x = some (.type T)) (hn : x ≠ "__name__" := by decide) (hdb : (x == ("__debug__" : Str)) = false := by decide) : PE X (.Name x pos) (tC (.ty T)) :=
  ⟨fun pins s σ H Q I h => ld_blt I hg hm hv ⟨.ty T, H, I, rfl, h⟩ hn hdb⟩
def rNeX (K : PySem.W.Frag) : R2 := fun x y H Q => ∃ n a b xs ys, n ≤ 600 ∧ x = .ref a ∧ y = .ref b ∧ SqL K H a xs ∧ SqL K H b ys ∧ Paired (EqX K H n) xs ys ∧ Q (.bl false) H
theorem op_neX {X : Cx} (hu : X.A.units + 602 < cLine) : OpR X (compareOp .NotEq) (rNeX X.K) := by
  intro pins s σ H x y v u Q I rx ry h
  obtain ⟨n, a, b, xs, ys, hn, rfl, rfl, ha, hb, hp, q⟩ := h
  cases (show v = Value.ref a from rx)
  cases (show u = Value.ref b from ry)
  have ih := eqX_run I n X.A.in1 (by show X.A.units + 1 + n < cLine; omega)
  obtain ⟨us, r1, p1, _⟩ := I.list ha
  obtain ⟨ws, r2, p2, _⟩ := I.list hb
  have hsz : us.toArray.size = ws.toArray.size := by
    rw [List.size_toArray, List.size_toArray, ← r1.length, ← r2.length]
    exact Paired.length hp
  have k := SeqAt.RcNeAt.lists (A := X.A) (s := s) (e := fun _ => true) p1.isList p2.isList hsz (by omega) (fun j h1 h2 => by
    have k := itemsX ih hp r1 r2 j (by simpa using h1) (by simpa using h2)
    simpa using k)
  rw [all_true] at k
  exact k X.prog X.w _ _ ⟨.bl false, H, I, rfl, q⟩
theorem size_ren (ρ : Str → Str) : ∀ t : PT, (t.sub fun x => .any (ρ x)).size = t.size := by
  refine Tm.ind (fun n => by rw [Tm.sub_num]) (fun x => by rw [Tm.sub_any, Tm.size_any, Tm.size_any]) fun f ks ih => ?_
  rw [Tm.sub_app, Tm.size_app, Tm.size_app, List.map_map]
  congr 2
  exact List.map_congr_left fun k hk => ih k hk
theorem size_le_sub (θ : Str → PT) : ∀ t : PT, t.size ≤ (t.sub θ).size := by
  refine Tm.ind (fun n => by rw [Tm.sub_num]; exact Nat.le_refl _) (fun x => by rw [Tm.size_any]; exact (Tm.sub θ (.any x)).size_pos) fun f ks ih => ?_
  rw [Tm.sub_app, Tm.size_app, Tm.size_app, List.map_map]
  have : ∀ ks : List PT, (∀ k ∈ ks, k.size ≤ (k.sub θ).size) → (ks.map Tm.size).sum ≤ (ks.map (Tm.size ∘ Tm.sub θ)).sum := by
    intro ks
    induction ks with
    | nil => intro _; exact Nat.le_refl _
    | cons k ks ihk =>
      intro h
      rw [List.map_cons, List.map_cons, List.sum_cons, List.sum_cons]
      have h1 := h k (List.mem_cons_self ..)
      have h2 := ihk fun j hj => h j (List.mem_cons_of_mem _ hj)
      show k.size + _ ≤ (k.sub θ).size + _
      omega
  have := this ks ih
  omega
theorem paired_same {K : PySem.W.Frag} {H : Hp} {n : Nat} : ∀ l : List Str, Paired (EqX K H (n + 1)) (l.map V.str) (l.map V.str)
  | [] => .nil
  | x :: l => .cons (eqX_flat rfl) (paired_same l)
theorem paired_of {F : V → V → Prop} : ∀ {xs ys : List V}, xs.length = ys.length → (∀ (j : Nat) (x y : V), xs[j]? = some x → ys[j]? = some y → F x y) → Paired F xs ys
  | [], [], _, _ => .nil
  | x :: xs, y :: ys, hl, h => .cons (h 0 x y rfl rfl) (paired_of (by simpa using hl) fun j a b ha hb => h (j + 1) a b ha hb)
  | [], _ :: _, hl, _ => by cases hl
  | _ :: _, [], hl, _ => by cases hl
def spLLeads : Sp := fun vs H Q _ => ∃ (ra ga : Addr) (va : V) (N : List Str) (rules : List Rule) (gs0 : List PT) (rv gv : List V) (an : Ans), vs = [.ref ra, .ref ga, va] ∧ H ra = some (.lst rv) ∧ Rp RepR H rules rv ∧ H ga = some (.lst gv) ∧ RepL H gs0 gv ∧ Drawn N rules gs0 ∧ RepA H an va ∧
  AnsOk rules gs0 (firsts (varsT gs0)) 200 an ∧ (∀ p ∈ an.1, p.2.size ≤ 40) ∧ ∀ H', Same H H' → Q (.bl true) H'
section
variable {P : Program} {w : World} {K : PySem.W.Frag} {mg : Str → Option Value} {base : Heap}
theorem sc_lleads : FnScope ["_law_rules", "_law_goals", "_law_answer", "_law_names_here", "_law_puts", "_law_due", "_law_name", "_law_pair"] ["_law_rules", "_law_goals", "_law_answer"] d_law_leads.scope := ⟨rfl, rfl, rfl, by decide +kernel, rfl, by decide +kernel, by decide +kernel⟩
theorem ok_lleads (T : T35 K mg) : Cl P w K mg base CX0 207 "_law_leads" ["_law_rules", "_law_goals", "_law_answer"] spLLeads := by
  have cE := ok_leow (P := P) (w := w) (base := base) T
  have cN := ok_lnamed (P := P) (w := w) (base := base) T 40
  have cA := ok_lanew (P := P) (w := w) (base := base) T 202
  have cR := ok_lread (P := P) (w := w) (base := base) T 200
  refine cl_of (d := d_law_leads) T 48 rfl rfl rfl rfl sc_lleads (fun vs H Q E h => ?_) (fun _ _ _ _ _ _ us hl => match us, hl with | [_, _, _], _ => rfl) (fun cdv A outer s H vs Q E hr h => ?_)
  · obtain ⟨ra, ga, va, N, rules, gs0, rv, gv, an, rfl, _⟩ := h
    rfl
  · obtain ⟨ra, ga, va, N, rules, gs0, rv, gv, an, rfl, hra, hrv, hga, hgv, hdr, han, hok, hsz40, k⟩ := h
    have hu2 : (A.deeper (envOfC d_law_leads.qual d_law_leads.scope s.heap.objs.size (He.ga K "_law_leads") cdv)).units + 602 < cLine := by
      have := hr.un
      omega
    refine ⟨_, (pss_cons (ps_if (PW.pt (pw_or (pt_not (pt_truth (pe_callB RZ.call_isTy rfl (T.free 14 _ rfl) PyProof.Rows.boot_isinstance (pa_cons (pv 2) (pa_cons (pe_bty rfl (T.free 3 _ rfl) PyProof.Rows.boot_tuple) pa_nil))) (fun _ => rfl))) (pw_or (pt_not (pt_truth (pe_callB RZ.call_isTy rfl (T.free 14 _ rfl) PyProof.Rows.boot_isinstance (pa_cons (pe_ix ix_tup (pv 2) pe_int (fun _ _ => rfl)) (pa_cons (pe_bty rfl (T.free 1 _ rfl) PyProof.Rows.boot_list) pa_nil))) (fun _ => rfl))) (pw_or1 (pt_not (pt_truth (pe_callB RZ.call_isTy rfl (T.free 14 _ rfl) PyProof.Rows.boot_isinstance (pa_cons (pe_ix ix_tup (pv 2) pe_int (fun _ _ => rfl)) (pa_cons (pe_bty rfl (T.free 1 _ rfl) PyProof.Rows.boot_list) pa_nil))) (fun _ => rfl))))))) (pss_one (ps_ret pe_bl)) pss_nil) (pss_cons (ps_set (i := 3) sc_lleads.nd rfl (Or.inl rfl) (pe_cl cN hr (by omega) rfl (pa_cons (pe_tup (pa_cons pe_str (pa_cons pe_str (pa_cons (pe_tupleOf rfl (T.free 3 _ rfl) (pv 1)) pa_nil)))) (pa_cons (pe_lst pa_nil) pa_nil)))) (pss_cons (ps_set (i := 4) sc_lleads.nd rfl (Or.inr rfl) (pe_cl cE hr (by omega) rfl (pa_cons (pv 0) (pa_cons (pv 1) (pa_cons (pe_ix ix_tup (pv 2) pe_int (fun _ _ => rfl)) pa_nil))))) (pss_cons (ps_if (PW.pt (pw_or (pt_cmpR op_isN (pv 4) pe_non (nomark _)) (pw_or1 (pt_cmpR (op_neX hu2) (pe_lc (own := [("_law_pair", 7)]) (g := gName 7) (tt := tYes) rfl sc_lleads.nd (pi_list (pe_ix ix_tup (pv 2) pe_int (fun _ _ => rfl))) (blkOk_by (N := ["_law_rules", "_law_goals", "_law_answer", "_law_names_here", "_law_puts", "_law_due", "_law_name", "_law_pair"]) (sc := d_law_leads.scope) (by decide +kernel)) (fun _ _ _ _ _ => (pg_name (i := 7) sc_lleads.nd rfl (Or.inl rfl))) (fun _ _ _ _ _ => pts_nil) (fun s2 H2 C2 cl2 fp2 => (pe_ix (show IxR _ (rIxT K) from ix_tup) (pv 7) pe_int (fun _ _ => rfl)))) (pv 3) (nomark _))))) (pss_one (ps_ret pe_bl)) pss_nil) (pss_cons (ps_set (i := 5) sc_lleads.nd rfl (Or.inl rfl) (pe_cl cA hr (by omega) rfl (pa_cons (pe_tup (pa_cons pe_str (pa_cons pe_str (pa_cons (pe_tupleOf rfl (T.free 3 _ rfl) (pe_lc (own := [("_law_name", 6)]) (g := gName 6) (tt := tYes) rfl sc_lleads.nd (pi_list (pv 3)) (blkOk_by (N := ["_law_rules", "_law_goals", "_law_answer", "_law_names_here", "_law_puts", "_law_due", "_law_name", "_law_pair"]) (sc := d_law_leads.scope) (by decide +kernel)) (fun _ _ _ _ _ => (pg_name (i := 6) sc_lleads.nd rfl (Or.inl rfl))) (fun _ _ _ _ _ => pts_nil) (fun s2 H2 C2 cl2 fp2 => (pe_cl cR hr (by omega) rfl (pa_cons (pe_tup (pa_cons pe_str (pa_cons (pv 6) pa_nil))) (pa_cons (pv 4) pa_nil)))))) pa_nil)))) pa_nil))) (pss_one (ps_ret (pe_cmpR (op_eqX hu2) (pe_ix ix_tup (pv 2) pe_int (fun _ _ => rfl)) (pe_listZip rfl rfl (T.free 1 _ rfl) rfl (T.free 9 _ rfl) (pa_cons (pv 3) (pa_cons (pe_ix ix_tup (pv 5) pe_int (fun _ _ => rfl)) pa_nil))) (nomark _))))))))), ?_⟩
    obtain ⟨prs, way⟩ := an
    obtain ⟨t, l, w', ps, rfl, ht, hl, hpr, hw⟩ := han
    dsimp only at hpr hw hsz40
    obtain ⟨hwl, Cend, θ, hpath, hsat, hdep, hdom, htold, hdeps, hmgu⟩ := hok
    dsimp only at hwl hpath hdom htold
    have isT : Rds (tCB RZ.rIsTy (tCons (tVar 2) (tCons (tC (.ty "tuple")) tNil))) [some (.ref ra), some (.ref ga), some (.ref t), none, none, none, none, none] H (.bl true) := fun Q q => ⟨_, rfl, .ref t, "tuple", rfl, .tup ht, q⟩
    have isL0 : Rds (tCB RZ.rIsTy (tCons (tOp (rIxT K) (tVar 2) (tC (.int 0))) (tCons (tC (.ty "list")) tNil))) [some (.ref ra), some (.ref ga), some (.ref t), none, none, none, none, none] H (.bl true) := fun Q q => rd_ixT (n := 0) (rd_var rfl) rd_c ht rfl _ ⟨.ref l, "list", rfl, .lst hl, q⟩
    have isL1 : Rds (tCB RZ.rIsTy (tCons (tOp (rIxT K) (tVar 2) (tC (.int 1))) (tCons (tC (.ty "list")) tNil))) [some (.ref ra), some (.ref ga), some (.ref t), none, none, none, none, none] H (.bl true) := fun Q q => rd_ixT (n := 1) (rd_var rfl) rd_c ht rfl _ ⟨.ref w', "list", rfl, .lst hw, q⟩
    refine s_if (rdT_or (rdT_not (rdT_tru isT)) fun _ => rdT_or (rdT_not (rdT_tru isL0)) fun _ => rdT_not (rdT_tru isL1)) (fun z => nomatch z) fun _ => ?_
    -- names
    have hgs : (Tm.app "0" gs0 : PT).size ≤ 15 := by
      rw [Tm.size_app]
      have h1 := go_size hdr.gls
      have h2 := hdr.glen
      omega
    have hgd := (Tm.app "0" gs0 : PT).depth_le_size
    have hgv0 := len_vars (Tm.app "0" gs0)
    refine ⟨.ref ga, rfl, .inl ⟨ga, gv, rfl, SqL.of hga, fun p1 hp1 => ⟨sz (by simp), fun p2 hp2 => ⟨sz (by simp), fun q hq => ?_⟩⟩⟩⟩
    have s1 := same_new (o := HO.tup gv) hp1
    have s2 := same_new (o := HO.tup [.str "app", .str "0", .ref p1]) hp2
    have s3 := same_new (o := HO.lst []) hq
    refine ⟨.app "0" gs0, .ref p2, q, [], rfl, ⟨p2, p1, gv, rfl, s3 _ _ upd_same, (s2.trans s3) _ _ upd_same, hgv.ex (.of ((s1.trans s2).trans s3))⟩, by omega, upd_same, by simp; omega, ?_⟩
    rw [upd_upd]
    have evk : (Tm.app "0" gs0 : PT).vars = varsT gs0 := Tm.vars_app _ gs0
    rw [evk]
    have S1 : Same H (upd (upd (upd H p1 (.tup gv)) p2 (.tup [.str "app", .str "0", .ref p1])) q (.lst ((firstsF [] (varsT gs0)).map V.str))) := (s1.trans s2).trans (same_new hq)
    have hq1 : (upd (upd (upd H p1 (.tup gv)) p2 (.tup [.str "app", .str "0", .ref p1])) q (.lst ((firstsF [] (varsT gs0)).map V.str))) q = some (.lst ((firstsF [] (varsT gs0)).map V.str)) := upd_same
    have hl0m : ∀ x, x ∈ firstsF [] (varsT gs0) → x ∈ varsT gs0 := fun x hx => mem_firsts.mp hx
    have hl0l : (firstsF [] (varsT gs0)).length ≤ 15 := by
      have a := len_firstsF (l := varsT gs0) (acc := [])
      rw [evk] at hgv0
      have c : ([] : List Str).length = 0 := rfl
      omega
    unfold firsts at htold hdeps hmgu
    generalize hl0 : firstsF [] (varsT gs0) = l0 at htold hdeps hmgu S1 hq1 hl0m hl0l ⊢
    generalize hU1 : upd (upd (upd H p1 (.tup gv)) p2 (.tup [.str "app", .str "0", .ref p1])) q (.lst (l0.map V.str)) = U1 at S1 hq1 ⊢
    refine s_asg (x_cl (sp := spLEow) (ra_cons (rd_var rfl) (ra_cons (rd_var rfl) (ra_cons (rd_ixT (n := 1) (rd_var rfl) rd_c (S1 _ _ ht) rfl) ra_nil))) ⟨ra, ga, w', N, rules, gs0, rv, gv, way, Cend, θ, rfl, S1 _ _ hra, hrv.ex fun _ _ z => z.ex S1, S1 _ _ hga, hgv.ex (.of S1), S1 _ _ hw, hdr, hwl, hpath, hsat, hdep, hdom, fun P' d U2 σ rk hS2 hP G hiff => ?_⟩)
    have S2 := S1.trans hS2
    -- the two readings are variants
    have M := marks_id (n := way.length) hwl
    obtain ⟨β, hβ⟩ := hmgu (fun a => σ (nu idn a)) (satC_iff.mp ((hiff σ).mp G.good.sol))
    have hsolL : Sol (fun y => θ (back way.length idn y)) P' := (hiff _).mpr (sat_back M hdom hsat)
    have hbk : ∀ x ∈ l0, θ (back way.length idn x) = θ (x, 0) := fun x hx => by
      obtain ⟨g, hg, hxg⟩ := List.mem_flatMap.mp (hl0m x hx)
      have hN := (hdr.gls g hg).th.vars x hxg
      have e : back way.length idn (nu idn (x, 0)) = (x, 0) := back_nu M (show Dom way.length (x, 0) from (hdr.names x hN).dot)
      have e : back way.length idn x = (x, 0) := e
      rw [e]
    have hthr : ∀ x ∈ l0, (σ x).sub (fun y => θ (back way.length idn y)) = θ (x, 0) := fun x hx => by
      rw [G.good.through hsolL x]
      exact hbk x hx
    have htl : (tolds (l0.map fun x => θ (x, 0))).length = l0.length := by
      unfold tolds
      rw [List.length_map, List.length_map]
    have hvar : tolds (l0.map fun x => θ (x, 0)) = tolds (l0.map σ) := by
      refine tolds_variant (α := β) (β := fun y => θ (back way.length idn y)) ?_ ?_
      · rw [List.map_map]
        exact List.map_congr_left fun x hx => hβ x hx
      · rw [List.map_map]
        exact List.map_congr_left fun x hx => (hthr x hx).symm
    have hsz : ∀ x ∈ l0, (σ x).size ≤ 40 := fun x hx => by
      have h1 := size_le_sub (fun y => θ (back way.length idn y)) (σ x)
      rw [hthr x hx] at h1
      obtain ⟨j, hj⟩ := List.mem_iff_getElem?.mp hx
      have hjl := (List.getElem?_eq_some_iff.mp hj).1
      have h2 : (tolds (l0.map fun x => θ (x, 0)))[j]? = some (toldBy (firsts (varsT (l0.map fun x => θ (x, 0)))) (θ (x, 0))) := by
        unfold tolds
        rw [List.getElem?_map, List.getElem?_map, hj]
        rfl
      have h3 : (x, toldBy (firsts (varsT (l0.map fun x => θ (x, 0)))) (θ (x, 0))) ∈ prs := by
        rw [htold]
        exact List.mem_iff_getElem?.mpr ⟨j, List.getElem?_zip_eq_some.mpr ⟨hj, h2⟩⟩
      have h4 := hsz40 _ h3
      have h5 : (toldBy (firsts (varsT (l0.map fun x => θ (x, 0)))) (θ (x, 0))).size = (θ (x, 0)).size := size_ren _ _
      rw [h5] at h4
      omega
    have hsd : ∀ x ∈ l0, (σ x).depth ≤ 40 := fun x hx => Nat.le_trans (σ x).depth_le_size (hsz x hx)
    have hfst : prs.map Prod.fst = l0 := by
      rw [htold, List.map_fst_zip (by rw [htl]; exact Nat.le_refl _)]
    have hpl := hpr.1
    refine ⟨.ref d, rfl, rfl, _, rfl, iteF ?_⟩
    refine ⟨.ref t, rfl, t, _, ((0 : Nat) : Int), .ref l, rfl, rfl, SqT.of (S2 _ _ ht), atI_nat rfl, l, rfl, ⟨_, SqL.of (S2 _ _ hl)⟩, fun D hD => ?_⟩
    refine lc_list (xs := ps) (fun j U => Same U2 U ∧ U D = some (.lst ((prs.take j).map fun p => V.str p.1))) ⟨same_new hD, upd_same⟩ (fun j U _ z => SqL.of ((S2.trans z.1) _ _ hl)) (fun j y U hy z => ?_) (fun U3 z => ?_)
    · obtain ⟨hS, hDl⟩ := z
      have hjp := (List.getElem?_eq_some_iff.mp hy).1
      have hpj : prs[j]? = some prs[j] := List.getElem?_eq_getElem (by omega)
      obtain ⟨tt, u, rfl, htt, hu⟩ := hpr.2 j _ _ hpj hy
      refine ⟨rfl, x_yes (rd_ixT (n := 0) (rd_var rfl) rd_c ((S2.trans hS) _ _ htt) rfl _ ⟨_, hDl, szl ?_, same_mut hS hD, ?_⟩)⟩
      · rw [List.length_map, List.length_take]
        have : prs.length = l0.length := by rw [← hfst, List.length_map]
        omega
      · rw [upd_same, take_snoc hpj, List.map_append]
        rfl
    · obtain ⟨hS3, hD3⟩ := z
      rw [hpl, List.take_length] at hD3
      have emap : (prs.map fun p => V.str p.1) = l0.map V.str := by
        rw [← hfst, List.map_map]
        rfl
      rw [emap] at hD3
      have S3 := S2.trans hS3
      have hq3 := (hS2.trans hS3) _ _ hq1
      refine ⟨.ref q, rfl, 1, D, q, _, _, by omega, rfl, rfl, SqL.of hD3, SqL.of hq3, paired_same l0, _, rfl, iteF ?_⟩
      have hP3 := hP.same hS3
      refine ⟨.ref q, rfl, q, rfl, ⟨_, SqL.of hq3⟩, fun D2 hD2 => ?_⟩
      refine lc_list (xs := l0.map V.str) (fun j U => Same U3 U ∧ ∃ acc, U D2 = some (.lst acc) ∧ RepL U ((l0.take j).map σ) acc) ⟨same_new hD2, [], upd_same, RepL.nil⟩ (fun j U _ z => SqL.of (z.1 _ _ hq3)) (fun j y U hy z => ?_) (fun U4 z => ?_)
      · obtain ⟨hS, acc, hacc, hL⟩ := z
        have hal := hL.length
        rw [List.length_map, List.length_take] at hal
        rw [List.getElem?_map] at hy
        cases hxa : l0[j]? with
        | none => rw [hxa] at hy; cases hy
        | some nm =>
          rw [hxa] at hy
          cases hy
          have hnm := List.mem_of_getElem? hxa
          refine ⟨rfl, x_yes (x_clc (x_tup (ra_cons rd_c (ra_cons (rd_var rfl) ra_nil)) (sz (by simp)) fun q' hq' => ?_))⟩
          have t1 := same_new (o := HO.tup [.str "any", .str nm]) hq'
          refine ra_cons (rd_var rfl) ra_nil _ ⟨.any nm, P', σ, rk, .ref q', d, rfl, ⟨q', rfl, upd_same⟩, (hP3.same hS).same t1, G.good, by rw [Tm.sub_any]; have := hsd nm hnm; omega, by rw [Tm.sub_any]; exact (G.shp nm).ar, fun v' U5 e r => ?_⟩
          have e' := t1.trans e
          have ex : TupEx U5 (upd U5 D2 (.lst (acc ++ [v']))) := tupex_ls (e' _ _ hacc)
          refine ⟨acc, e' _ _ hacc, szl (by omega), same_mut (hS.trans e') hD2, _, upd_same, ?_⟩
          rw [take_snoc hxa, List.map_append]
          rw [Tm.sub_any] at r
          exact (hL.ex ((TupEx.of e').trans ex)).snoc (r.ex ex)
      · obtain ⟨hS4, acc, hacc, hL⟩ := z
        rw [List.length_map, List.take_length] at hL
        refine .inl ⟨D2, acc, rfl, SqL.of hacc, fun p5 hp5 => ⟨sz (by simp), fun p6 hp6 => ?_⟩⟩
        have s5 := same_new (o := HO.tup acc) hp5
        have s6 := same_new (o := HO.tup [.str "app", .str "0", .ref p5]) hp6
        have S46 := hS4.trans (s5.trans s6)
        have hszs : ((l0.map σ).map Tm.size).sum ≤ 40 * 15 := by
          have : ∀ l : List Str, (∀ x ∈ l, (σ x).size ≤ 40) → ((l.map σ).map Tm.size).sum ≤ 40 * l.length := by
            intro l
            induction l with
            | nil => intro _; simp
            | cons x l ih =>
              intro h
              rw [List.map_cons, List.map_cons, List.sum_cons, List.length_cons]
              have h1 := h x (List.mem_cons_self ..)
              have h2 := ih fun y hy => h y (List.mem_cons_of_mem _ hy)
              omega
          have := this l0 hsz
          omega
        have hTs : (Tm.app "0" (l0.map σ) : PT).size ≤ 601 := by
          rw [Tm.size_app]
          omega
        have hTd : (Tm.app "0" (l0.map σ) : PT).depth ≤ 202 := by
          rw [Tm.depth_app]
          have : Tm.depthL (l0.map σ) ≤ 40 := Tm.depthL_le.mpr fun k hk => by
            obtain ⟨x, hx, rfl⟩ := List.mem_map.mp hk
            exact hsd x hx
          omega
        have hTv := len_vars (Tm.app "0" (l0.map σ))
        refine ⟨.app "0" (l0.map σ), .ref p6, rfl, ⟨p6, p5, acc, rfl, upd_same, s6 _ _ upd_same, hL.ex (.of (s5.trans s6))⟩, ⟨hTd, fun f ks hm => ?_, by omega⟩, fun v7 U7 hS7 hr7 => ?_⟩
        · rw [Tm.apps_app] at hm
          rcases List.mem_cons.mp hm with e | hm
          · injection e with _ e
            rw [e, List.length_map]
            omega
          · obtain ⟨u, hu, hm⟩ := List.mem_flatMap.mp hm
            obtain ⟨x, hx, rfl⟩ := List.mem_map.mp hu
            have := (G.shp x).ar f ks hm
            omega
        · have etold : toldBy (firsts (Tm.app "0" (l0.map σ) : PT).vars) (.app "0" (l0.map σ)) = .app "0" (tolds (l0.map σ)) := by
            have e1 : (Tm.app "0" (l0.map σ) : PT).vars = varsT (l0.map σ) := Tm.vars_app _ _
            rw [e1]
            exact Tm.sub_app ..
          rw [etold] at hr7
          obtain ⟨a7, k7, us, rfl, h7, hk7, hus⟩ := hr7.kids
          have S37 := S46.trans hS7
          have S7 := S3.trans S37
          have husl := hus.length
          rw [← hvar, htl] at husl
          refine ⟨.ref t, rfl, t, _, ((0 : Nat) : Int), .ref l, rfl, rfl, SqT.of (S7 _ _ ht), atI_nat rfl, .ref q, rfl, .ref a7, rfl, a7, _, ((2 : Nat) : Int), .ref k7, rfl, rfl, SqT.of h7, atI_nat rfl, q, k7, l0.map V.str, us, rfl, SqL.of (S37 _ _ hq3), .inr (SqT.of hk7), by rw [List.length_map, husl], fun q8 ts U8 hS8 hq8n hq8 htsl hts => ?_⟩
          have S8 := S7.trans hS8
          rw [List.length_map] at htsl
          have hprl : prs.length = l0.length := by rw [← hfst, List.length_map]
          refine ⟨500, l, q8, ps, ts.map V.ref, by omega, rfl, rfl, .inl ⟨SqL.of (S8 _ _ hl), SqL.of hq8⟩, paired_of (by rw [List.length_map, hpl, htsl, hprl]) fun j x y hx hy => ?_, k U8 S8⟩
          have hjp := (List.getElem?_eq_some_iff.mp hx).1
          have hpj : prs[j]? = some prs[j] := List.getElem?_eq_getElem (by omega)
          have hpm := List.mem_of_getElem? hpj
          obtain ⟨tt, u0, rfl, htt, hu0⟩ := hpr.2 j _ _ hpj hx
          rw [List.getElem?_map] at hy
          cases htj : ts[j]? with
          | none => rw [htj] at hy; cases hy
          | some t1 =>
            rw [htj] at hy
            cases hy
            have hz := hpj
            generalize hpe : prs[j] = pe at hz htt hu0 hpm
            obtain ⟨x0, td⟩ := pe
            rw [htold, List.getElem?_zip_eq_some] at hz
            obtain ⟨hz1, hz2⟩ := hz
            rw [hvar] at hz2
            obtain ⟨u1, hu1, hru1⟩ := hus.get j _ hz2
            have ht1 := hts j (.str x0) u1 t1 (by rw [List.getElem?_map, hz1]; rfl) hu1 htj
            have hd40 := hsz40 _ hpm
            have hdl := td.depth_le_size
            dsimp only at hd40 htt hu0
            exact .inr (.inr (.inr ⟨tt, t1, _, _, rfl, rfl, SqT.of (S8 _ _ htt), SqT.of ht1, .cons (eqX_flat rfl) (.cons (eqX_term td 499 u0 u1 (by omega) (hu0.ex (.of S8)) (hru1.ex (.of hS8))) .nil)⟩))
end
end G35

/-! GLaw16 -/
set_option Elab.async false
set_option linter.all false
set_option maxRecDepth 100000
set_option maxHeartbeats 4000000
namespace G35
open PySem PySem.Spec PyProof.Rows L2
/-! ### the law's word on the end -/
/-- a tuple of one text in a tuple of such -/
def rInT (K : PySem.W.Frag) : R2 := fun x y H Q => ∃ b p xs z, x = .ref b ∧ y = .ref p ∧ SqT K H b [.str z] ∧ SqT K H p xs ∧ (∀ u ∈ xs, ∃ a s, u = .ref a ∧ SqT K H a [.str s]) ∧ (∃ a, V.ref a ∈ xs ∧ SqT K H a [.str z]) ∧ Q (.bl true) H
theorem eqAt_one {X : Cx} {pins : List (Addr × Obj)} {σ : L2.St} {H : Hp} {s : Shared} (I : Inv X pins σ H s) {A : Around} (hu : A.units < cLine) {a b : Addr} {y z : Str} (ha : SqT X.K H a [.str y]) (hb : SqT X.K H b [.str z]) : SeqAt.EqAt A s (.ref a) (.ref b) (decide (y = z)) := by
  by_cases e : a = b
  · subst e
    obtain ⟨us, r1, p1, _⟩ := I.tuple ha
    obtain ⟨ws, r2, p2, _⟩ := I.tuple hb
    have hyz : y = z := by
      have e1 : us = ws := by
        obtain ⟨o1, h1, _, n1, d1⟩ := p1
        obtain ⟨o2, h2, _, n2, d2⟩ := p2
        rw [h1] at h2
        cases h2
        rw [d1] at d2
        injection d2 with d2 _
        simpa using d2
      subst e1
      obtain ⟨u1, rfl, q1⟩ := r1.one
      obtain ⟨u2, e2, q2⟩ := r2.one
      cases e2
      obtain ⟨t1, rfl⟩ := q1
      obtain ⟨t2, e3⟩ := q2
      cases e3
      rfl
    rw [decide_eq_true hyz]
    exact SeqAt.EqAt.same _
  · obtain ⟨us, r1, p1, _⟩ := I.tuple ha
    obtain ⟨ws, r2, p2, _⟩ := I.tuple hb
    have k := SeqAt.RcAt.tuples (A := A) (s := s) (e := fun j => decide (([V.str y] : List V).getD j .non = ([V.str z] : List V).getD j .non)) (show s.heap.IsTuple a us.toArray from p1) (show s.heap.IsTuple b ws.toArray from p2) hu (fun j h1 h2 => flat_items r1 r2 (fun j u v h1 h2 => by
      match j, h1, h2 with
      | 0, h1, h2 => cases h1; cases h2; exact ⟨rfl, rfl⟩) j h1 h2)
    rw [all_dec (xs := [V.str y]) (ys := [V.str z]) (by rw [List.size_toArray, r1.length]) (by rw [List.size_toArray, r2.length])] at k
    have e2 : decide (([V.str y] : List V) = [V.str z]) = decide (y = z) := by
      rw [decide_eq_decide]
      constructor
      · intro h
        injection h with h _
        injection h
      · intro h
        rw [h]
    rw [e2] at k
    exact SeqAt.EqAt.of_refs e k
theorem op_inT {X : Cx} (hu : X.A.units + 2 < cLine) : OpR X (compareOp .In) (rInT X.K) := by
  intro pins s σ H x y v u Q I rx ry h
  obtain ⟨b, p, xs, z, rfl, rfl, hb, hp, hall, ⟨a, ham, haz⟩, q⟩ := h
  cases (show v = Value.ref b from rx)
  cases (show u = Value.ref p from ry)
  classical
  obtain ⟨its, r, pl, hz⟩ := I.tuple hp
  have key : ∀ w ∈ its, ∃ k : Bool, SeqAt.EqAt X.A.in1 s w (.ref b) k := by
    intro w hw
    obtain ⟨i, hi⟩ := List.mem_iff_getElem?.mp hw
    have hil := (List.getElem?_eq_some_iff.mp hi).1
    have hxl : i < xs.length := by rw [r.length]; exact hil
    obtain ⟨a', s', e1, e2⟩ := hall _ (List.getElem_mem hxl)
    obtain ⟨w', hw', rw'⟩ := r.get (List.getElem?_eq_getElem hxl)
    rw [hi] at hw'
    cases hw'
    rw [e1] at rw'
    cases (show w = Value.ref a' from rw')
    exact ⟨_, eqAt_one I (by show X.A.units + 1 < cLine; omega) e2 hb⟩
  refine SeqAt.in_tupleAt (fun w => if SeqAt.EqAt X.A.in1 s w (.ref b) true then true else false) pl (fun w hw => ?_) ⟨.bl true, H, I, ?_, q⟩
  · by_cases h : SeqAt.EqAt X.A.in1 s w (.ref b) true
    · rw [if_pos h]
      exact h
    · rw [if_neg h]
      obtain ⟨k, hk⟩ := key w (by simpa using hw)
      cases k with
      | false => exact hk
      | true => exact absurd hk h
  · obtain ⟨i, hi⟩ := List.mem_iff_getElem?.mp ham
    obtain ⟨w', hw', rw'⟩ := r.get hi
    cases (show w' = Value.ref a from rw')
    have ht : SeqAt.EqAt X.A.in1 s (.ref a) (.ref b) true := by
      have k := eqAt_one I (A := X.A.in1) (by show X.A.units + 1 < cLine; omega) haz hb
      rw [decide_eq_true rfl] at k
      exact k
    have hany : its.toArray.any (fun w => if SeqAt.EqAt X.A.in1 s w (.ref b) true then true else false) = true := by
      rw [List.any_toArray]
      exact List.any_eq_true.mpr ⟨_, List.mem_of_getElem? hw', by rw [if_pos ht]⟩
    rw [hany]
    rfl
end G35

/-! GLaw17 -/
set_option Elab.async false
set_option linter.all false
set_option maxRecDepth 100000
set_option maxHeartbeats 4000000
namespace G35
open PySem PySem.Spec PyProof.Rows L2
def spLEnd : Sp := fun vs H Q _ => ∃ (t : Addr) (c : Cfg) (s : SSt), vs = [.ref t, .int (c.bound : Int), .int (c.most : Int)] ∧ RepF H s t ∧ s.fin ≠ none ∧ FinOk c s ∧ s.taken ≤ c.bound ∧ ∀ H', Same H H' → Q (.bl true) H'
/-- the texts at the end's head -/
def finW : Fin → Str
  | .all => "all"
  | .spent => "spent"
  | .big => "big"
  | .enough => "enough"
  | .fault _ _ => "fault"
theorem endV_at {H : Hp} {f : Fin} {ev : V} (h : EndV H (some f) ev) : ∃ e r, ev = .ref e ∧ H e = some (.tup (.str (finW f) :: r)) ∧ ((∀ w g, f ≠ .fault w g) → r = []) ∧ (∀ w g, f = .fault w g → ∃ u, r = [.str w, u] ∧ RepT H g u) := by
  cases f with
  | all => obtain ⟨t, h1, h2⟩ := h; exact ⟨t, [], h1, h2, fun _ => rfl, fun w g z => nomatch z⟩
  | spent => obtain ⟨t, h1, h2⟩ := h; exact ⟨t, [], h1, h2, fun _ => rfl, fun w g z => nomatch z⟩
  | big => obtain ⟨t, h1, h2⟩ := h; exact ⟨t, [], h1, h2, fun _ => rfl, fun w g z => nomatch z⟩
  | enough => obtain ⟨t, h1, h2⟩ := h; exact ⟨t, [], h1, h2, fun _ => rfl, fun w g z => nomatch z⟩
  | fault w g =>
    obtain ⟨t, u, h1, h2, h3⟩ := h
    refine ⟨t, [.str w, u], h1, h2, fun z => absurd rfl (z w g), fun w' g' z => ?_⟩
    cases z
    exact ⟨u, rfl, h3⟩
theorem flat_head {w z : Str} {r : List V} : FlatTo (.str w :: r) [.str z] := fun j u v h1 h2 => by
  match j, h1, h2 with
  | 0, h1, h2 => cases h1; cases h2; exact ⟨rfl, rfl⟩
theorem head_no {w z : Str} {r : List V} (h : w ≠ z) : decide ((V.str w :: r) = [V.str z]) = false := decide_eq_false fun e => h (by injection e with e _; injection e)
section
variable {P : Program} {w : World} {K : PySem.W.Frag} {mg : Str → Option Value} {base : Heap}
theorem sc_lend : FnScope ["_law_found", "_law_bound", "_law_most", "_law_told", "_law_end_here", "_law_count"] ["_law_found", "_law_bound", "_law_most"] d_law_end.scope := ⟨rfl, rfl, rfl, by decide +kernel, rfl, by decide +kernel, by decide +kernel⟩
theorem ok_lend (T : T35 K mg) : Cl P w K mg base CX0 1 "_law_end" ["_law_found", "_law_bound", "_law_most"] spLEnd := by
  refine cl_of (d := d_law_end) T 49 rfl rfl rfl rfl sc_lend (fun vs H Q E h => ?_) (fun _ _ _ _ _ _ us hl => match us, hl with | [_, _, _], _ => rfl) (fun cdv A outer s0 H vs Q E hr h => ?_)
  · obtain ⟨t, c, s, rfl, _⟩ := h
    rfl
  · obtain ⟨t, c, s, rfl, ⟨g, ev, gv, ht, hg, hG, hE⟩, hfin, hok, htk, k⟩ := h
    have hu := hu_of hr
    have hu3 : (A.deeper (envOfC d_law_end.qual d_law_end.scope s0.heap.objs.size (He.ga K "_law_end") cdv)).units + 2 < cLine := by
      have := hr.units
      omega
    refine ⟨_, (pss_cons (ps_asg (pv 0) (pg_tup (n := 3) rfl (pgs_cons (pg_name (i := 3) sc_lend.nd rfl (Or.inl rfl)) (pgs_cons (pg_name (i := 4) sc_lend.nd rfl (Or.inl rfl)) (pgs_cons (pg_name (i := 5) sc_lend.nd rfl (Or.inl rfl)) pgs_nil))))) (pss_cons (ps_if (PW.pt (pw_or (pt_not (pt_truth (pe_callB RZ.call_isTy rfl (T.free 14 _ rfl) PyProof.Rows.boot_isinstance (pa_cons (pv 4) (pa_cons (pe_bty rfl (T.free 3 _ rfl) PyProof.Rows.boot_tuple) pa_nil))) (fun _ => rfl))) (pw_or (pt_cmpR op_gt (pv 5) (pv 1) (nomark _)) (pw_or1 (pt_cmpR op_ne (pe_cmpR (op_eqF hu) (pv 4) (pe_tup (pa_cons pe_str pa_nil)) (nomark _)) (pe_cmpR op_eq (pe_callB call_len_seq rfl (T.free 0 _ rfl) PySem.boot_len (pa_cons (pv 3) pa_nil)) (pv 2) (nomark _)) (nomark _)))))) (pss_one (ps_ret pe_bl)) pss_nil) (pss_cons (ps_if (pt_cmpR (op_eqF hu) (pv 4) (pe_tup (pa_cons pe_str pa_nil)) (nomark _)) (pss_one (ps_ret (pe_cmpR op_eq (pv 5) (pv 1) (nomark _)))) pss_nil) (pss_cons (ps_if (pt_cmpR op_eq (pe_ix ix_tup (pv 4) pe_int (fun _ _ => rfl)) pe_str (nomark _)) (pss_one (ps_ret (pe_and (pe_cmpR op_in_seq (pe_ix ix_tup (pv 4) pe_int (fun _ _ => rfl)) (pe_tup (pa_cons pe_str (pa_cons pe_str (pa_cons pe_str (pa_cons pe_str pa_nil))))) rfl) (pe_one (pe_cmpR op_in_seq (pe_ix ix_tup (pe_ix ix_tup (pv 4) pe_int (fun _ _ => rfl)) pe_int (fun _ _ => rfl)) (pe_tup (pa_cons pe_str (pa_cons pe_str (pa_cons pe_str (pa_cons pe_str pa_nil))))) rfl))))) pss_nil) (pss_one (ps_ret (pe_cmpR (op_inT hu3) (pv 4) (pe_tup (pa_cons (pe_tup (pa_cons pe_str pa_nil)) (pa_cons (pe_tup (pa_cons pe_str pa_nil)) (pa_cons (pe_tup (pa_cons pe_str pa_nil)) pa_nil)))) rfl))))))), ?_⟩
    have hgl := hG.1
    refine ⟨_, rfl, t, _, rfl, SqT.of ht, rfl, _, _, rfl, _, _, rfl, _, _, rfl, rfl, ?_⟩
    cases hff : s.fin with
    | none => exact absurd hff hfin
    | some f =>
      rw [hff] at hE
      obtain ⟨e, r, rfl, he, hr0, hrf⟩ := endV_at hE
      unfold FinOk at hok
      rw [hff] at hok
      have P1 : decide ((V.str (finW f) :: r) = [V.str "enough"]) = decide (V.int (gv.length : Int) = V.int (c.most : Int)) := by
        have len : gv.length = c.most ↔ f = .enough := by
          cases f with
          | enough => rw [hgl]; exact ⟨fun _ => rfl, fun _ => hok⟩
          | all => rw [hgl]; exact ⟨fun z => absurd z (by have : s.given.length < c.most := hok; omega), fun z => nomatch z⟩
          | spent => rw [hgl]; exact ⟨fun z => absurd z (by have : s.given.length < c.most := hok.1; omega), fun z => nomatch z⟩
          | big => rw [hgl]; exact ⟨fun z => absurd z (by have : s.given.length < c.most := hok; omega), fun z => nomatch z⟩
          | fault w' g' => rw [hgl]; exact ⟨fun z => absurd z (by have : s.given.length < c.most := hok.1; omega), fun z => nomatch z⟩
        rw [decide_eq_decide]
        constructor
        · intro z
          injection z with z _
          injection z with z
          refine congrArg V.int ?_
          have hfe : f = .enough := by
            cases f with
            | enough => rfl
            | all => exact absurd z (by decide +kernel)
            | spent => exact absurd z (by decide +kernel)
            | big => exact absurd z (by decide +kernel)
            | fault w' g' => exact absurd (show Str.ofString "fault" = Str.ofString "enough" from z) (by decide +kernel)
          rw [len.mpr hfe]
        · intro z
          injection z with z
          have hfe := len.mp (by omega)
          subst hfe
          rw [hr0 fun w g z => nomatch z]
          rfl
      -- the first test
      have isT : Rds (tCB RZ.rIsTy (tCons (tVar 4) (tCons (tC (.ty "tuple")) tNil))) [some (.ref t), some (.int (c.bound : Int)), some (.int (c.most : Int)), some (.ref g), some (.ref e), some (.int (s.taken : Int))] H (.bl true) := fun Q q => ⟨_, rfl, .ref e, "tuple", rfl, .tup he, q⟩
      refine isT _ ⟨true, rfl, iteF ?_⟩
      refine ⟨_, rfl, _, rfl, (s.taken : Int), (c.bound : Int), rfl, rfl, _, rfl, ?_⟩
      rw [decide_eq_false (by omega : ¬ (c.bound : Int) < (s.taken : Int))]
      refine iteF ?_
      refine ⟨.ref e, rfl, sz (by simp), fun q hq => ?_⟩
      have s1 := same_new (o := HO.tup [.str "enough"]) hq
      refine ⟨e, q, _, _, rfl, rfl, SqT.of (s1 _ _ he), SqT.of upd_same, flat_head, ?_⟩
      refine rd_eqI (rd_lenL (rd_var rfl) (s1 _ _ hg)) (rd_var rfl) _ ⟨rfl, _, rfl, ?_⟩
      rw [P1, decide_eq_true rfl]
      refine iteF ?_
      have he1 := s1 _ _ he
      generalize hH1 : upd H q (.tup [.str "enough"]) = H1 at s1 he1 ⊢
      -- spent
      refine ⟨.ref e, rfl, sz (by simp), fun q2 hq2 => ?_⟩
      have s2 := same_new (o := HO.tup [.str "spent"]) hq2
      have he2 := s2 _ _ he1
      refine ⟨e, q2, _, _, rfl, rfl, SqT.of he2, SqT.of upd_same, flat_head, _, rfl, ?_⟩
      have S2 := s1.trans s2
      generalize hH2 : upd H1 q2 (.tup [.str "spent"]) = H2 at s2 he2 S2 ⊢
      by_cases hsp : finW f = "spent"
      · have hfs : f = .spent := by
          cases f with
          | spent => rfl
          | all => exact absurd hsp (by decide +kernel)
          | enough => exact absurd hsp (by decide +kernel)
          | big => exact absurd hsp (by decide +kernel)
          | fault w' g' => exact absurd (show Str.ofString "fault" = Str.ofString "spent" from hsp) (by decide +kernel)
        subst hfs
        have hr00 := hr0 fun w g z => nomatch z
        subst hr00
        have ht2 : s.taken = c.bound := hok.2
        have ed : decide ([V.str (finW .spent)] = [V.str (Str.ofString "spent")]) = true := decide_eq_true rfl
        rw [ed]
        refine iteT ?_
        refine s_ret (v := .bl (decide (V.int (s.taken : Int) = V.int (c.bound : Int)))) (rd_eqI (rd_var rfl) (rd_var rfl)) ?_
        rw [ht2, decide_eq_true rfl]
        exact k H2 S2
      · rw [head_no hsp]
        refine iteF ?_
        refine s_if (rdT_test (rd_eqS (rd_ixT (n := 0) (rd_var rfl) rd_c he2 rfl) rd_c)) (fun z => ?_) fun z => ?_
        · rw [decS, decide_eq_true_iff] at z
          cases f with
          | all => exact absurd z (by decide +kernel)
          | spent => exact absurd z (by decide +kernel)
          | big => exact absurd z (by decide +kernel)
          | enough => exact absurd z (by decide +kernel)
          | fault w' g' =>
            obtain ⟨u, rfl, hu0⟩ := hrf w' g' rfl
            obtain ⟨_, hwf, f0, ks0, rfl, hfs, _⟩ := hok
            obtain ⟨gu, gk, gvs, rfl, h3, hk3, _⟩ := hu0.kids
            refine ⟨.ref e, rfl, e, _, ((1 : Nat) : Int), .str w', rfl, rfl, SqT.of he2, atI_nat rfl, sz (by simp), fun q3 hq3 => ⟨q3, _, rfl, .inr (SqT.of upd_same), rfl, rfl, _, rfl, ?_⟩⟩
            have hin : inV (.str w') [.str "open", .str "kind", .str "nought", .str "far"] = decide (w' ∈ faultW) := inV_strs w' ["open", "kind", "nought", "far"]
            rw [hin, decide_eq_true hwf]
            refine iteT ?_
            have s3 := same_new (o := HO.tup [.str "open", .str "kind", .str "nought", .str "far"]) hq3
            refine ⟨.ref e, rfl, e, _, ((2 : Nat) : Int), .ref gu, rfl, rfl, SqT.of (s3 _ _ he2), atI_nat rfl, gu, _, ((1 : Nat) : Int), .str f0, rfl, rfl, SqT.of (s3 _ _ (S2 _ _ h3)), atI_nat rfl, sz (by simp), fun q4 hq4 => ⟨q4, _, rfl, .inr (SqT.of upd_same), rfl, rfl, ?_⟩⟩
            have hin2 : inV (.str f0) [.str ":=", .str "<", .str "<=", .str "not"] = decide (f0 ∈ faultS) := inV_strs f0 [":=", "<", "<=", "not"]
            have s4 := same_new (o := HO.tup [.str ":=", .str "<", .str "<=", .str "not"]) hq4
            have kk := k _ ((S2.trans s3).trans s4)
            rw [← decide_eq_true hfs, ← hin2] at kk
            exact kk
        · rw [decS, decide_eq_false_iff_not] at z
          have hr00 : r = [] := hr0 fun w' g' e => by
            rw [e] at z
            exact z rfl
          subst hr00
          refine ⟨.ref e, rfl, sz (by simp), fun a1 h1 => ⟨sz (by simp), fun a2 h2 => ⟨sz (by simp), fun a3 h3 => ⟨sz (by simp), fun p hp => ?_⟩⟩⟩⟩
          have t1 := same_new (o := HO.tup [.str "all"]) h1
          have t2 := same_new (o := HO.tup [.str "big"]) h2
          have t3 := same_new (o := HO.tup [.str "enough"]) h3
          have t4 := same_new (o := HO.tup [.ref a1, .ref a2, .ref a3]) hp
          have A1 := ((t2.trans t3).trans t4) _ _ (upd_same (H := H2) (a := a1) (o := HO.tup [.str "all"]))
          have A2 := (t3.trans t4) _ _ (upd_same (H := upd H2 a1 (.tup [.str "all"])) (a := a2) (o := HO.tup [.str "big"]))
          have A3 := t4 _ _ (upd_same (H := upd (upd H2 a1 (.tup [.str "all"])) a2 (.tup [.str "big"])) (a := a3) (o := HO.tup [.str "enough"]))
          have T4 := ((t1.trans t2).trans t3).trans t4
          refine ⟨e, p, _, finW f, rfl, rfl, SqT.of (T4 _ _ he2), SqT.of upd_same, fun u hu => ?_, ?_, k _ (S2.trans T4)⟩
          · simp only [List.mem_cons, List.not_mem_nil, or_false] at hu
            rcases hu with rfl | rfl | rfl
            · exact ⟨_, _, rfl, SqT.of A1⟩
            · exact ⟨_, _, rfl, SqT.of A2⟩
            · exact ⟨_, _, rfl, SqT.of A3⟩
          · cases f with
            | all => exact ⟨a1, by simp, SqT.of A1⟩
            | big => exact ⟨a2, by simp, SqT.of A2⟩
            | enough => exact ⟨a3, by simp, SqT.of A3⟩
            | spent => exact absurd rfl hsp
            | fault w' g' => exact absurd rfl z
end
end G35

/-! GLM2 -/
set_option Elab.async false
set_option linter.all false
set_option maxRecDepth 10000
/-! What was drawn bears a run; the answers are small. -/
namespace G35
open PySem PySem.Spec
def GivOk (s : SSt) : Prop := ∀ an ∈ s.given, ∀ p ∈ an.1, p.2.size ≤ 40
theorem takeF_given {c : Cfg} {s s' : SSt} {left : List Ent} {g : PT} {h : Nat} {gs : List (Option PT × Nat)} {P : Puts} {way : List Nat} (e : takeF c s left g h gs P way = some s') : s'.given = s.given := by
  unfold takeF at e
  split at e
  · cases e; rfl
  · split at e
    · cases e; rfl
    · split at e
      · split at e
        · cases e; rfl
        · split at e
          · split at e
            · cases e; rfl
            · split at e
              · cases e; rfl
              · cases e
          · split at e
            · split at e
              · split at e
                · cases e
                · cases e; rfl
                · cases e; rfl
                · cases e; rfl
              · cases e
            · split at e
              · cases e
              · cases e; rfl
      · cases e
theorem tellF_given {c : Cfg} {s : SSt} {left : List Ent} {P : Puts} {way : List Nat} (h : GivOk s) : GivOk (tellF c s left P way) := by
  unfold tellF
  split
  · exact h
  · rename_i hb
    intro an han p hp
    rcases List.mem_append.mp han with q | q
    · exact h an q p hp
    · rw [List.mem_singleton.mp q] at hp
      have small := parts40_sum hb
      obtain ⟨j, hj⟩ := List.mem_iff_getElem?.mp hp
      obtain ⟨x, td⟩ := p
      rw [List.getElem?_zip_eq_some] at hj
      obtain ⟨h1, h2⟩ := hj
      unfold tolds at h2
      rw [List.getElem?_map, List.getElem?_map, h1] at h2
      have h2 : some (toldBy (firsts (varsT (c.asked.map (full P)))) (full P x)) = some td := h2
      have h3 : (toldBy (firsts (varsT (c.asked.map (full P)))) (full P x)).size = (full P x).size := size_ren _ _
      rw [← Option.some.inj h2]
      show (toldBy _ (full P x)).size ≤ 40
      rw [h3]
      exact small x (List.mem_of_getElem? h1)
theorem stepF_given {c : Cfg} {s s' : SSt} (h : GivOk s) (e : stepF c s = some s') : GivOk s' := by
  unfold stepF at e
  split at e
  · cases e; exact h
  · split at e
    · cases e; exact tellF_given h
    · cases e; exact h
    · intro an han
      rw [takeF_given e] at han
      exact h an han
theorem runF_given {c : Cfg} : ∀ {n : Nat} {s s' : SSt}, runF c n s = some s' → GivOk s → GivOk s'
  | 0, s, s', e, h => by unfold runF at e; cases e
  | n + 1, s, s', e, h => by
    unfold runF at e
    split at e
    · split at e
      · cases e; exact h
      · split at e
        · cases e
        · rename_i hs
          exact runF_given e (stepF_given h hs)
    · cases e
theorem start_given {gs0 : List PT} : GivOk (startS gs0) := fun an h => nomatch h
theorem Drawn.cok {N : List Str} {rules : List Rule} {gs0 : List PT} (d : Drawn N rules gs0) : COk N rules gs0 := by
  refine ⟨by rw [d.nlen]; exact Nat.le_refl _, d.rlen, fun r hr => ?_, d.glen, fun g hg => ?_, ?_⟩
  · have ro := d.rls r hr
    exact ⟨ro.head, ro.th.shp, ro.th.vars, ro.len, fun g hg => ⟨(ro.body g hg).th.shp, (ro.body g hg).ok, (ro.body g hg).th.vars⟩, ro.apps, by have h1 := ro.th.apps; have h2 := go_sum ro.body; omega⟩
  · have go := d.gls g hg
    exact ⟨go.th.shp, go.ok, fun x hx => ⟨go.th.vars x hx, (d.names x (go.th.vars x hx)).dot⟩⟩
  · have h1 := go_sum d.gls
    have h2 := d.glen
    omega
theorem th_tg1 {N : List Str} {n s : Nat} {t : PT} (h : Th N n s t) (hs : s ≤ 40) (hN : ∀ x ∈ N, NOk x) : TG1 t := by
  have h1 := t.depth_le_size
  have h2 := h.size
  exact ⟨by omega, by omega, fun x hx => Nat.le_trans (hN x (h.vars x hx)).len (by omega)⟩
theorem Drawn.rg {N : List Str} {gs0 : List PT} {c : Cfg} (d : Drawn N c.rules gs0) (hb : c.bound ≤ 20) (hm : c.most ≤ 40) : RG c := by
  refine ⟨fun r hr => ?_, fun r hr => ?_, by have := d.rlen; omega, by omega, by omega⟩
  · have ro := d.rls r hr
    obtain ⟨f, us, e, _⟩ := ro.head
    exact ⟨⟨f, us, e⟩, th_tg1 ro.th (by omega) d.names⟩
  · have ro := d.rls r hr
    exact ⟨by have := ro.len; omega, fun q hq => th_tg1 (ro.body q hq).th (by omega) d.names⟩
theorem Drawn.one {N : List Str} {rules : List Rule} {gs0 : List PT} (d : Drawn N rules gs0) (n : Nat) : Drawn N rules (gs0.take n) :=
  ⟨d.names, d.nlen, d.rls, d.rlen, fun g hg => d.gls g (List.mem_of_mem_take hg), by rw [List.length_take]; have := d.glen; omega⟩
theorem Drawn.run {N : List Str} {gs0 : List PT} {c : Cfg} (d : Drawn N c.rules gs0) (ha : c.asked = firsts (varsT gs0)) (hb : c.bound ≤ 20) (hm : 1 ≤ c.most ∧ c.most ≤ 40) :
    ∃ n s', runF c n (startS gs0) = some s' ∧ s'.fin ≠ none ∧ SInv c gs0 N s' ∧ GivOk s' := by
  have K : CfgOk c gs0 N := ⟨d.cok, ha, hb, hm⟩
  obtain ⟨n, s', h1, h2, h3⟩ := run_ok K _ _ rfl (start_ok K)
  exact ⟨n, s', h1, h2, h3, runF_given h1 start_given⟩
end G35

/-! GLt1 -/
set_option Elab.async false
set_option linter.all false
set_option maxRecDepth 100000
set_option maxHeartbeats 4000000
/-! A list of numbers before another. -/
namespace G35
open PySem PySem.Spec PyProof.Rows L2
theorem firstLt_at {e r : Nat → Bool} {fin : Bool} : ∀ (l : List Nat) (n k : Nat), (∀ j, j < k → ∃ a, l[j]? = some a ∧ e a = true) → l[k]? = some n → e n = false → r n = true → SeqAt.firstLt e r fin l = true
  | [], n, k, _, hn, _, _ => by cases hn
  | a :: l, n, 0, _, hn, he, hr => by
    cases hn
    rw [SeqAt.firstLt_no he, hr]
  | a :: l, n, k + 1, h, hn, he, hr => by
    obtain ⟨b, hb, hbe⟩ := h 0 (Nat.succ_pos k)
    cases hb
    rw [SeqAt.firstLt_yes hbe]
    exact firstLt_at l n k (fun j hj => h (j + 1) (by omega)) hn he hr
theorem ltD_at {us vs : List Nat} (h : LtD us vs) : ∃ k, k < us.length ∧ k < vs.length ∧ (∀ j, j < k → us.getD j 0 = vs.getD j 0) ∧ us.getD k 0 < vs.getD k 0 := by
  obtain ⟨p, x, y, a', b', rfl, rfl, hxy⟩ := h
  refine ⟨p.length, by simp, by simp, fun j hj => ?_, ?_⟩
  · rw [List.getD_eq_getElem?_getD, List.getD_eq_getElem?_getD, List.getElem?_append_left hj, List.getElem?_append_left hj]
  · rw [List.getD_eq_getElem?_getD, List.getD_eq_getElem?_getD, List.getElem?_append_right (Nat.le_refl _), List.getElem?_append_right (Nat.le_refl _), Nat.sub_self]
    exact hxy
def rLtW (K : PySem.W.Frag) : R2 := fun x y H Q => ∃ a b us vs, x = .ref a ∧ y = .ref b ∧ SqL K H a (wayV us) ∧ SqL K H b (wayV vs) ∧ LtD us vs ∧ Q (.bl true) H
theorem way_get {us : List Nat} {ws : List Value} (r : Vals (wayV us) ws) {j : Nat} (h : j < ws.length) : ∃ t, ws[j] = .int ((us.getD j 0 : Nat) : Int) t := by
  have hl := r.length
  unfold wayV at hl
  rw [List.length_map] at hl
  have hj : j < us.length := by omega
  have e : (wayV us)[j]? = some (.int ((us[j] : Nat) : Int)) := by
    unfold wayV
    rw [List.getElem?_map, List.getElem?_eq_getElem hj]
    rfl
  obtain ⟨w, hw, rw'⟩ := r.get e
  obtain ⟨t, rfl⟩ := rw'
  obtain ⟨_, e2⟩ := List.getElem?_eq_some_iff.mp hw
  refine ⟨t, ?_⟩
  rw [e2, List.getD_eq_getElem?_getD, List.getElem?_eq_getElem hj]
  rfl
theorem op_ltW {X : Cx} (hu : X.A.units + 1 < cLine) : OpR X (compareOp .Lt) (rLtW X.K) := by
  intro pins s σ H x y v u Q I rx ry h
  obtain ⟨a, b, us, vs, rfl, rfl, ha, hb, hlt, q⟩ := h
  cases (show v = Value.ref a from rx)
  cases (show u = Value.ref b from ry)
  obtain ⟨its, r1, p1, _⟩ := I.list ha
  obtain ⟨its2, r2, p2, _⟩ := I.list hb
  have l1 := r1.length
  have l2 := r2.length
  unfold wayV at l1 l2
  rw [List.length_map] at l1 l2
  have k := SeqAt.RcLt.lists (A := X.A) (s := s) (e := fun j => decide (us.getD j 0 = vs.getD j 0)) (r := fun j => decide (us.getD j 0 < vs.getD j 0)) p1.isList p2.isList (by omega) (fun j h1 h2 => by
    obtain ⟨t1, e1⟩ := way_get r1 (j := j) (by simpa using h1)
    obtain ⟨t2, e2⟩ := way_get r2 (j := j) (by simpa using h2)
    simp only [List.getElem_toArray]
    rw [e1, e2]
    have k := SeqAt.EqAt.int_int (A := X.A.in1) (s := s) ((us.getD j 0 : Nat) : Int) t1 ((vs.getD j 0 : Nat) : Int) t2
    have e3 : (((us.getD j 0 : Nat) : Int) == ((vs.getD j 0 : Nat) : Int)) = decide (us.getD j 0 = vs.getD j 0) := by
      rw [Bool.eq_iff_iff, beq_iff_eq, decide_eq_true_iff]
      omega
    rw [e3] at k
    exact k) (fun j h1 h2 _ => by
    obtain ⟨t1, e1⟩ := way_get r1 (j := j) (by simpa using h1)
    obtain ⟨t2, e2⟩ := way_get r2 (j := j) (by simpa using h2)
    simp only [List.getElem_toArray]
    rw [e1, e2]
    intro prog w E Q hq
    have e3 : decide (((us.getD j 0 : Nat) : Int) < ((vs.getD j 0 : Nat) : Int)) = decide (us.getD j 0 < vs.getD j 0) := by
      rw [decide_eq_decide]
      omega
    rw [← e3] at hq
    exact lt_int hq)
  obtain ⟨n, h1, h2, h3, h4⟩ := ltD_at hlt
  have hf : SeqAt.firstLt (fun j => decide (us.getD j 0 = vs.getD j 0)) (fun j => decide (us.getD j 0 < vs.getD j 0)) (decide (its.toArray.size < its2.toArray.size)) (List.range (min its.toArray.size its2.toArray.size)) = true := by
    refine firstLt_at _ n n (fun j hj => ⟨j, ?_, decide_eq_true (h3 j hj)⟩) ?_ (decide_eq_false (by omega)) (decide_eq_true h4)
    · rw [List.getElem?_range (by simp; omega)]
    · rw [List.getElem?_range (by simp; omega)]
  rw [hf] at k
  exact k X.prog X.w _ _ ⟨.bl true, H, I, rfl, q⟩
end G35

/-! GEq2 -/
set_option Elab.async false
set_option linter.all false
set_option maxRecDepth 100000
set_option maxHeartbeats 4000000
/-! Two findings that are alike. -/
namespace G35
open PySem PySem.Spec PyProof.Rows L2
section
variable {K : PySem.W.Frag} {H : Hp}
theorem paired_Rp {α : Type} {R : Hp → α → V → Prop} {F : V → V → Prop} {xs : List α} {vs ws : List V} (h1 : Rp R H xs vs) (h2 : Rp R H xs ws) (h : ∀ x ∈ xs, ∀ v w, R H x v → R H x w → F v w) : Paired F vs ws := by
  refine paired_of (by rw [h1.1, h2.1]) fun j v w hv hw => ?_
  have hj := (List.getElem?_eq_some_iff.mp hv).1
  rw [h1.1] at hj
  have hx : xs[j]? = some xs[j] := List.getElem?_eq_getElem hj
  exact h _ (List.getElem_mem hj) v w (h1.2 j _ _ hx hv) (h2.2 j _ _ hx hw)
theorem paired_way {n : Nat} : ∀ w : List Nat, Paired (EqX K H (n + 1)) (wayV w) (wayV w)
  | [] => .nil
  | x :: w => .cons (eqX_flat rfl) (paired_way w)
theorem eqX_ans {n : Nat} {a : Ans} {v w : V} (ha : ∀ p ∈ a.1, p.2.size ≤ 40) (h1 : RepA H a v) (h2 : RepA H a w) : EqX K H (n + 200) v w := by
  obtain ⟨t, l, y, ps, rfl, e1, e2, e3, e4⟩ := h1
  obtain ⟨t', l', y', ps', rfl, f1, f2, f3, f4⟩ := h2
  refine .inr (.inr (.inr ⟨t, t', _, _, rfl, rfl, SqT.of e1, SqT.of f1, .cons (.inr (.inr (.inl ⟨l, l', ps, ps', rfl, rfl, SqL.of e2, SqL.of f2, ?_⟩))) (.cons (.inr (.inr (.inl ⟨y, y', _, _, rfl, rfl, SqL.of e4, SqL.of f4, paired_way a.2⟩))) .nil)⟩))
  refine paired_Rp e3 f3 fun p hp v w r1 r2 => ?_
  obtain ⟨u, z, rfl, g1, g2⟩ := r1
  obtain ⟨u', z', rfl, g3, g4⟩ := r2
  have hs := ha p hp
  have hd := p.2.depth_le_size
  exact .inr (.inr (.inr ⟨u, u', _, _, rfl, rfl, SqT.of g1, SqT.of g3, .cons (eqX_flat rfl) (.cons (eqX_term p.2 _ z z' (Nat.le_trans (show 2 * p.2.depth ≤ 80 by omega) (Nat.le_trans (by decide : 80 ≤ 197) (Nat.le_add_left 197 n))) g2 g4) .nil)⟩))
theorem eqX_found {s : SSt} {t t' : Addr} (hg : ∀ an ∈ s.given, ∀ p ∈ an.1, p.2.size ≤ 40) (hf : s.fin ≠ none) (hd : ∀ x g, s.fin = some (.fault x g) → g.depth ≤ 60) (h1 : RepF H s t) (h2 : RepF H s t') (end_ : ∀ {n : Nat} {f : Fin} {v w : V}, (∀ x g, f = .fault x g → g.depth ≤ 60) → EndV H (some f) v → EndV H (some f) w → EqX K H (n + 200) v w) :
    ∃ xs ys, SqT K H t xs ∧ SqT K H t' ys ∧ Paired (EqX K H 401) xs ys := by
  obtain ⟨g, ev, gv, e1, e2, e3, e4⟩ := h1
  obtain ⟨g', ev', gv', f1, f2, f3, f4⟩ := h2
  refine ⟨_, _, SqT.of e1, SqT.of f1, .cons (.inr (.inr (.inl ⟨g, g', gv, gv', rfl, rfl, SqL.of e2, SqL.of f2, paired_Rp e3 f3 fun a ha v w r1 r2 => eqX_ans (n := 200) (hg a ha) r1 r2⟩))) (.cons ?_ (.cons (eqX_flat rfl) .nil))⟩
  cases hfin : s.fin with
  | none => exact absurd hfin hf
  | some f =>
    rw [hfin] at e4 f4 hd
    exact end_ (n := 201) (fun x g e => hd x g (by rw [e])) e4 f4
theorem eqX_end {n : Nat} {f : Fin} {v w : V} (hd : ∀ x g, f = .fault x g → g.depth ≤ 60) (h1 : EndV H (some f) v) (h2 : EndV H (some f) w) : EqX K H (n + 200) v w := by
  have one : ∀ {z : Str} {v w : V}, (∃ t, v = .ref t ∧ H t = some (.tup [.str z])) → (∃ t, w = .ref t ∧ H t = some (.tup [.str z])) → EqX K H (n + 200) v w := by
    rintro z v w ⟨t, rfl, e⟩ ⟨t', rfl, e'⟩
    exact .inr (.inr (.inr ⟨t, t', _, _, rfl, rfl, SqT.of e, SqT.of e', .cons (eqX_flat rfl) .nil⟩))
  cases f with
  | all => exact one h1 h2
  | spent => exact one h1 h2
  | big => exact one h1 h2
  | enough => exact one h1 h2
  | fault x g =>
    obtain ⟨t, u, rfl, e1, e2⟩ := h1
    obtain ⟨t', u', rfl, f1, f2⟩ := h2
    have := hd x g rfl
    exact .inr (.inr (.inr ⟨t, t', _, _, rfl, rfl, SqT.of e1, SqT.of f1, .cons (eqX_flat rfl) (.cons (eqX_flat rfl) (.cons (eqX_term g _ u u' (Nat.le_trans (show 2 * g.depth ≤ 120 by omega) (Nat.le_trans (by decide : 120 ≤ 199) (Nat.le_add_left 199 n))) e2 f2) .nil))⟩))
end
end G35

/-! GHead1 -/
set_option Elab.async false
set_option linter.all false
set_option maxRecDepth 100000
set_option maxHeartbeats 4000000
/-! The head: what is looked at behind the top, and what it says. -/
namespace G35
open PySem PySem.Spec PyProof.Rows L2
abbrev runFs : List Str := ["rules", "asked", "bound", "most", "given", "taken", "end", "left"]
abbrev runMs : List Str := ["step", "tell", "take", "fault", "take_not", "take_deed", "take_named"]
def fa : List He.Fa :=
  fn.filterMap (fun d => match d.at_.2 with | none => some (He.Fa.glo d.at_.1) | some _ => none) ++ (glos.map He.Fa.glo ++ (frees.map He.Fa.free ++ (runFs.map (He.Fa.noat "Run") ++ (runMs.map (He.Fa.meth "Run") ++
    [.cls "Run", .mkr "Run", .int "MOST_PARTS_puts" 40, .int "MOST_PARTS_search" 40, .int "FAR" (10 ^ 30), .glo "DEEDS", .glo "SUMS", .noat "Fault" "row", .noat "Fault" "word", .exm "Fault" "Fault" true]))))
/-- an own error class, its slots and its line -/
def oexB (K : PySem.W.Frag) (C : Addr) : Bool := match K.lookup C with
  | some ⟨.type t, _, .cls cd, sl⟩ => (match cd.mro, sl.toList with
    | .ref C' :: bm, [_, _, _, _, some (.builtin n), _] => t == "type" && (C' == C && (n == "ValueError.__new__" && (!cd.hasDel && (cd.hasDict && PySem.HandSPX.refsVE bm))))
    | _, _ => false)
  | _ => false
theorem oexB_ok {K : PySem.W.Frag} {C : Addr} (h : oexB K C = true) : ∃ nm q N bs bm sn sub ab col dd k0 k1 k2 k3 k5, K.lookup C = some (excClassObj nm q C N bs bm true sn sub ab col dd k0 k1 k2 k3 k5 "ValueError.__new__") ∧ PySem.HandSPX.refsVE bm = true := by
  unfold oexB at h
  split at h
  · rename_i t od cd sl ho
    split at h
    · rename_i C' bm k0 k1 k2 k3 n k5 hm hs
      simp only [Bool.and_eq_true, beq_iff_eq, Bool.not_eq_true'] at h
      obtain ⟨rfl, rfl, rfl, h1, h2, hb⟩ := h
      obtain ⟨nm, bs, mro, ns, qn, hd, sn, sb, ab, col, del⟩ := cd
      dsimp only at hm h1 h2
      subst hm h1 h2
      have e : sl = #[k0, k1, k2, k3, some (.builtin "ValueError.__new__"), k5] := by
        rw [← Array.toArray_toList (xs := sl), hs]
      subst e
      exact ⟨nm, qn, ns, bs, bm, sn, sb, ab, col, od, k0, k1, k2, k3, k5, ho, hb⟩
    · cases h
  · cases h
def cfB (c : Option PySem.W.CFound) (v : Value) : Bool := match c with
  | some (.val u) => decide (u = v)
  | _ => false
theorem cfB_ok {c : Option PySem.W.CFound} {v : Value} (h : cfB c v = true) : c = some (.val v) := by
  cases c with
  | none => cases h
  | some c =>
    cases c with
    | val u =>
      have e : u = v := of_decide_eq_true h
      rw [e]
    | get _ _ _ _ => cases h
def ex1 (K : PySem.W.Frag) : Bool := oexB K (He.ga K "Fault") && (He.eqO (PySem.W.findIn K (.ref (He.ga K "Fault")) "__setattr__") (some (some (.builtin "object.__setattr__"))) && (decide (PySem.W.subIn K (.ref (He.ga K "Fault")) (.type "BaseException") = some true) &&
  (decide (PySem.W.typeIn K (.ref (He.ga K "Fault")) = some (.type "type")) && (PySem.W.keepIn K (.ref (He.ga K "Fault")) && xfB K (He.ga K "Fault")))))
def ex2 (K : PySem.W.Frag) : Bool := He.eqO (PySem.W.findIn K (.ref (He.ga K "Fault")) "__init__") (some (some (.ref (He.ma K (He.ga K "Fault") "__init__")))) && (decide (PySem.W.typeIn K (.ref (He.ma K (He.ga K "Fault") "__init__")) = some (.type "function")) &&
  (PySem.W.readsIn K (He.ga K "TrailError") (.type "type") && (He.eqO (PySem.W.specialIn K (.ref (He.ga K "TrailError")) "__getattribute__") (some (some (.builtin "type.__getattribute__"))) &&
  (cfB (PySem.W.findCls K (.ref (He.ga K "TrailError")) (.type "type") "__init__") (.ref (He.ma K (He.ga K "TrailError") "__init__")) && cfB (PySem.W.findCls K (.type "ValueError") (.type "type") "__init__") (.builtin "ValueError.__init__")))))
def ex3 (K : PySem.W.Frag) : Bool := He.tupB K "DEEDS" [.str "=", .str ":=", .str "<", .str "<="] && He.tupB K "SUMS" [.str "+", .str "-", .str "*", .str "/", .str "/:"]
def exB (K : PySem.W.Frag) : Bool := ex1 K && (ex2 K && ex3 K)
section
variable {K : PySem.W.Frag} {h : Heap} {mg : Str → Option Value}
theorem t35 (X : K.In h) (G : h.Ns mainGlobals mg) (c : He.SaysD fa fn K) : T35 K mg := by
  refine ⟨fun i d hd => ⟨c.def_ i hd, fun e => ?_⟩, fun i x hx => ?_, fun i x hx => ?_⟩
  · refine He.glo_ok X G (c.facts ?_)
    refine List.mem_append_left _ (List.mem_filterMap.mpr ⟨d, List.mem_of_getElem? hd, ?_⟩)
    rw [e]
  · exact He.glo_ok X G (c.facts (List.mem_append_right _ (List.mem_append_left _ (List.mem_map.mpr ⟨x, List.mem_of_getElem? hx, rfl⟩))))
  · exact He.free_ok X G (c.facts (List.mem_append_right _ (List.mem_append_right _ (List.mem_append_left _ (List.mem_map.mpr ⟨x, List.mem_of_getElem? hx, rfl⟩)))))
theorem fa_in {f : He.Fa} {i : Nat} (h : ([.cls "Run", .mkr "Run", .int "MOST_PARTS_puts" 40, .int "MOST_PARTS_search" 40, .int "FAR" (10 ^ 30), .glo "DEEDS", .glo "SUMS", .noat "Fault" "row", .noat "Fault" "word", .exm "Fault" "Fault" true] : List He.Fa)[i]? = some f) : f ∈ fa :=
  List.mem_append_right _ (List.mem_append_right _ (List.mem_append_right _ (List.mem_append_right _ (List.mem_append_right _ (List.mem_of_getElem? h)))))
theorem r36 (X : K.In h) (G : h.Ns mainGlobals mg) (c : He.SaysD fa fn K) : R36 K mg :=
  ⟨He.cls_ok (c.facts (fa_in (i := 0) rfl)),
    fun f hf => He.noat_ok (c.facts (List.mem_append_right _ (List.mem_append_right _ (List.mem_append_right _ (List.mem_append_left _ (List.mem_map.mpr ⟨f, hf, rfl⟩)))))),
    fun m hm => He.meth_ok (c.facts (List.mem_append_right _ (List.mem_append_right _ (List.mem_append_right _ (List.mem_append_right _ (List.mem_append_left _ (List.mem_map.mpr ⟨m, hm, rfl⟩))))))),
    He.mkr_ok (c.facts (fa_in (i := 1) rfl)), (t35 X G c).glo 3 "Run" rfl⟩
theorem t36 (X : K.In h) (G : h.Ns mainGlobals mg) (c : He.SaysD fa fn K) (e : exB K = true) : T36 K mg := by
  obtain ⟨_, e⟩ := He.ba e
  obtain ⟨_, e3⟩ := He.ba e
  obtain ⟨d1, d2⟩ := He.ba e3
  exact ⟨t35 X G c, He.int_ok X G (c.facts (fa_in (i := 2) rfl)), He.int_ok X G (c.facts (fa_in (i := 3) rfl)), He.int_ok X G (c.facts (fa_in (i := 4) rfl)),
    ⟨_, He.glo_ok X G (c.facts (fa_in (i := 5) rfl)), He.tupB_ok d1⟩, ⟨_, He.glo_ok X G (c.facts (fa_in (i := 6) rfl)), He.tupB_ok d2⟩⟩
theorem e36 (X : K.In h) (G : h.Ns mainGlobals mg) (c : He.SaysD fa fn K) (e : exB K = true) : E36 K mg := by
  obtain ⟨e1, e⟩ := He.ba e
  obtain ⟨e2, _⟩ := He.ba e
  obtain ⟨a1, e1⟩ := He.ba e1
  obtain ⟨a2, e1⟩ := He.ba e1
  obtain ⟨a3, e1⟩ := He.ba e1
  obtain ⟨a4, e1⟩ := He.ba e1
  obtain ⟨a5, a6⟩ := He.ba e1
  obtain ⟨b1, e2⟩ := He.ba e2
  obtain ⟨b2, e2⟩ := He.ba e2
  obtain ⟨b3, e2⟩ := He.ba e2
  obtain ⟨b4, e2⟩ := He.ba e2
  obtain ⟨b5, b6⟩ := He.ba e2
  exact ⟨⟨oexB_ok a1, He.eqO_ok a2, of_decide_eq_true a3, of_decide_eq_true a4, a5⟩, He.eqO_ok b1, of_decide_eq_true b2, b3, He.eqO_ok b4, cfB_ok b5, cfB_ok b6,
    He.noat_ok (c.facts (fa_in (i := 7) rfl)), He.noat_ok (c.facts (fa_in (i := 8) rfl)), He.exm_ok (c.facts (fa_in (i := 9) rfl)), xfB_ok a6⟩
end
/-! ### the Hook -/
abbrev AlZ : Type := He.AlD × Bool
def obsZ (K : PySem.W.Frag) : AlZ := (He.obsD fa fn K, exB K)
def asZ (g : Addr → Option Obj) : List Addr := cStatics :: He.asD g 5
def obsZG (g : Addr → Option Obj) : AlZ := obsZ (He.frG g (asZ g))
def hkZ : PySem.W.Hook where
  α := AlZ
  obs := fun s => obsZG s.heap.get?
  val := fun _ => (He.valD fn, true)
  says := fun _ h => ∃ K : PySem.W.Frag, K.In h ∧ He.SaysD fa fn K ∧ exB K = true
  of := fun _ _ e => ⟨_, He.frG_in, congrArg (fun z : AlZ => z.1) e, congrArg (fun z : AlZ => z.2) e⟩
  keeps := fun _ _ _ ⟨K, hK, c⟩ k => ⟨K, PySem.W.Frag.In.keeps hK k, c⟩
def obZ (s : PySem.W.SharedT) : AlZ := obsZG (HandSHeadRun.getT s)
theorem obZ_eq (s : PySem.W.SharedT) : obZ s = hkZ.obs s.abs := by
  have e : HandSHeadRun.getT s = s.abs.heap.get? := funext fun a => HandSHeadRun.getT_eq s a
  unfold obZ
  rw [e] <;> rfl
end G35

/-! GHead2 -/
set_option Elab.async false
set_option linter.all false
set_option maxRecDepth 100000
set_option maxHeartbeats 0
namespace G35
open PySem PySem.Spec PyProof.Rows L2
abbrev R : PySem.W.OpenRow := PySem.W.OpenLaw.row PySem.Challenge.rw_goaltrail_k35_whole_ways_lead
theorem run (w : World) : HandSHeadRun.RunEq R (PySem.W.view R.prog [57]) hkZ obZ 8000 names w := by
  intro os
  kernel_rfl
end G35

/-! GLaw18 -/
set_option Elab.async false
set_option linter.all false
set_option maxRecDepth 100000
set_option maxHeartbeats 4000000
namespace G35
open PySem PySem.Spec PyProof.Rows L2
/-! ### law -/
def spLaw (K : PySem.W.Frag) : Sp := fun vs H Q _ => ∃ (l : Addr) (ns : List Int), vs = [.ref l] ∧ SqL K H l (ns.map V.int) ∧ ns.length ≤ 1000 ∧ ∀ H', Q (.bl true) H'
theorem s_ifNT {K : PySem.W.Frag} {σ : L2.St} {H : Hp} {te : TE} {tu tw : TS} {D : Ends} (h : te σ H fun x H1 => ∃ k, TruV K x H1 k ∧ (if (!k) = true then tu D σ H1 else tw D σ H1)) : tIfS (tNot (fun σ H Q => te σ H fun x H' => ∃ k, TruV K x H' k ∧ Q k H')) tu tw D σ H := h
theorem s_ifONT {K : PySem.W.Frag} {σ : L2.St} {H : Hp} {te : TE} {u : TT} {tu tw : TS} {D : Ends} (h : te σ H fun x H1 => ∃ k, TruV K x H1 k ∧ (if (!k) = true then tu D σ H1 else u σ H1 fun b H2 => if b = true then tu D σ H2 else tw D σ H2)) : tIfS (tOr (tNot (fun σ H Q => te σ H fun x H' => ∃ k, TruV K x H' k ∧ Q k H')) u) tu tw D σ H := by
  have e : tIfS (tOr (tNot (fun σ H Q => te σ H fun x H' => ∃ k, TruV K x H' k ∧ Q k H')) u) tu tw D σ H = te σ H fun x H1 => ∃ k, TruV K x H1 k ∧ (if (!k) = true then (if true = true then tu D σ H1 else tw D σ H1) else u σ H1 fun b H2 => if b = true then tu D σ H2 else tw D σ H2) := rfl
  rw [e]
  simpa using h
section
variable {P : Program} {w : World} {K : PySem.W.Frag} {mg : Str → Option Value} {base : Heap}
theorem sc_law : FnScope ["_law_script", "_law_words_here", "_law_way", "_law_names_here", "_law_rules", "_law_goals", "_law_bound", "_law_most", "_law_found", "_law_before", "_law_answer", "_law_k"] ["_law_script"] d_law.scope := ⟨rfl, rfl, rfl, by decide +kernel, rfl, by decide +kernel, by decide +kernel⟩
theorem ok_law (T : T36 K mg) (E6 : E36 K mg) (R6 : R36 K mg) {fd : FuncData} (F : FunD K d_law.name d_law.qual d_law.params d_law.body d_law.scope [] [] (He.ga K "law") fd) : FnOk P w K mg base CX0 208 (He.ga K "law") fd ["_law_script"] (spLaw K) := by
  have cC := ok_cell (P := P) (w := w) (base := base) T.t
  have cP := ok_pick (P := P) (w := w) (base := base) T.t
  have cW := ok_words (P := P) (w := w) (base := base) T.t
  have cN := ok_names (P := P) (w := w) (base := base) T.t
  have cR := ok_rule (P := P) (w := w) (base := base) T.t
  have cG := ok_goal (P := P) (w := w) (base := base) T.t
  have cS := ok_search (P := P) (w := w) (base := base) T E6 R6
  have cE := ok_lend (P := P) (w := w) (base := base) T.t
  have cL := ok_lleads (P := P) (w := w) (base := base) T.t
  refine F.ok sc_law (fun vs H Q E h => ?_) (fun cdv A outer s H vs Q E hr h => ?_)
  · obtain ⟨l, ns, rfl, _⟩ := h
    rfl
  · obtain ⟨l, ns, rfl, hl, hnl, k⟩ := h
    have hu := hu_of hr
    have hu2 : (A.deeper (envOfC d_law.qual d_law.scope s.heap.objs.size (He.ga K "law") cdv)).units + 602 < cLine := by
      have := hr.un
      omega
    refine ⟨_, PSs.nox (pss_cons (ps_set (i := 1) sc_law.nd rfl (Or.inr rfl) (pe_cl cW hr (by omega) rfl (pa_cons (pe_op op_fdiv (pe_cl cC hr (by omega) rfl (pa_cons (pv 0) (pa_cons pe_int pa_nil))) pe_int) pa_nil))) (pss_cons (ps_set (i := 2) sc_law.nd rfl (Or.inl rfl) (pe_cl cC hr (by omega) rfl (pa_cons (pv 0) (pa_cons pe_int pa_nil)))) (pss_cons (ps_set (i := 3) sc_law.nd rfl (Or.inr rfl) (pe_cl cN hr (by omega) rfl (pa_cons (pv 1) (pa_cons (pv 2) pa_nil)))) (pss_cons (ps_setLc (i := 4) (own := [("_law_k", 11)]) (g := gName 11) (tt := tYes) rfl sc_law.nd rfl rfl (sw_true rfl rfl rfl (by decide +kernel)) (pi_range1 rfl (T.t.free 11 _ rfl) (pa_cons (pe_op op_add pe_int (pe_cl cP hr (by omega) rfl (pa_cons (pv 2) (pa_cons pe_int (pa_cons pe_int pa_nil))))) pa_nil)) (blkOk_by (N := ["_law_script", "_law_words_here", "_law_way", "_law_names_here", "_law_rules", "_law_goals", "_law_bound", "_law_most", "_law_found", "_law_before", "_law_answer", "_law_k"]) (sc := d_law.scope) (by decide +kernel)) (fun _ _ _ _ _ => (pg_name (i := 11) sc_law.nd rfl (Or.inl rfl))) (fun _ _ _ _ _ => pts_nil) (fun s2 H2 C2 cl2 fp2 => (pe_cl cR hr (by omega) rfl (pa_cons (pv 0) (pa_cons (pv 11) (pa_cons (pv 3) (pa_cons (pv 1) pa_nil))))))) (pss_cons (ps_setLc (i := 5) (own := [("_law_k", 11)]) (g := gName 11) (tt := tYes) rfl sc_law.nd rfl rfl (sw_true rfl rfl rfl (by decide +kernel)) (pi_range1 rfl (T.t.free 11 _ rfl) (pa_cons (pe_op op_add pe_int (pe_cl cP hr (by omega) rfl (pa_cons (pv 2) (pa_cons pe_int (pa_cons pe_int pa_nil))))) pa_nil)) (blkOk_by (N := ["_law_script", "_law_words_here", "_law_way", "_law_names_here", "_law_rules", "_law_goals", "_law_bound", "_law_most", "_law_found", "_law_before", "_law_answer", "_law_k"]) (sc := d_law.scope) (by decide +kernel)) (fun _ _ _ _ _ => (pg_name (i := 11) sc_law.nd rfl (Or.inl rfl))) (fun _ _ _ _ _ => pts_nil) (fun s2 H2 C2 cl2 fp2 => (pe_cl cG hr (by omega) rfl (pa_cons (pe_cl cC hr (by omega) rfl (pa_cons (pv 0) (pa_cons (pe_op op_add pe_int (pv 11)) pa_nil))) (pa_cons (pv 3) (pa_cons (pv 1) pa_nil)))))) (pss_cons (ps_set (i := 6) sc_law.nd rfl (Or.inl rfl) (pe_cl cP hr (by omega) rfl (pa_cons (pe_cl cC hr (by omega) rfl (pa_cons (pv 0) (pa_cons pe_int pa_nil))) (pa_cons pe_int (pa_cons pe_int pa_nil))))) (pss_cons (ps_set (i := 7) sc_law.nd rfl (Or.inl rfl) (pe_op op_add pe_int (pe_cl cP hr (by omega) rfl (pa_cons (pe_cl cC hr (by omega) rfl (pa_cons (pv 0) (pa_cons pe_int pa_nil))) (pa_cons pe_int (pa_cons pe_int pa_nil)))))) (pss_cons (ps_set (i := 8) sc_law.nd rfl (Or.inl rfl) (pe_cl cS hr (by omega) rfl (pa_cons (pe_callTy call_list_of rfl (T.t.free 1 _ rfl) PyProof.Rows.boot_list (pa_cons (pv 4) pa_nil)) (pa_cons (pe_callTy call_list_of rfl (T.t.free 1 _ rfl) PyProof.Rows.boot_list (pa_cons (pv 5) pa_nil)) (pa_cons (pv 6) (pa_cons (pv 7) pa_nil)))))) (pss_cons (ps_if (pt_not (pt_truth (pe_cl cE hr (by omega) rfl (pa_cons (pv 8) (pa_cons (pv 6) (pa_cons (pv 7) pa_nil)))) (fun _ => rfl))) (pss_one (ps_ret pe_bl)) pss_nil) (pss_cons (ps_set (i := 9) sc_law.nd rfl (Or.inl rfl) pe_non) (pss_cons (ps_for PassesOwn.never rfl (pi_list (pe_ix ix_tup (pv 8) pe_int (fun _ _ => rfl))) (pg_name (i := 10) sc_law.nd rfl (Or.inl rfl)) (pss_cons (ps_if (PW.pt (pw_or (pt_not (pt_truth (pe_cl cL hr (by omega) rfl (pa_cons (pv 4) (pa_cons (pv 5) (pa_cons (pv 10) pa_nil)))) (fun _ => rfl))) (pw_or1 (PW.pt (pw_and (pt_cmpR op_notN (pv 9) pe_non (nomark _)) (pw_and1 (pt_not (pt_cmpR (op_ltW hu) (pv 9) (pe_ix ix_tup (pv 10) pe_int (fun _ _ => rfl)) (nomark _))))))))) (pss_one (ps_ret pe_bl)) pss_nil) (pss_one (ps_set (i := 9) sc_law.nd rfl (Or.inl rfl) (pe_ix ix_tup (pv 10) pe_int (fun _ _ => rfl)))))) (pss_cons (ps_expr (pe_cl cS hr (by omega) rfl (pa_cons (pe_callTy call_list_of rfl (T.t.free 1 _ rfl) PyProof.Rows.boot_list (pa_cons (pv 4) pa_nil)) (pa_cons (pe_slice sl_list (pe_callTy call_list_of rfl (T.t.free 1 _ rfl) PyProof.Rows.boot_list (pa_cons (pv 5) pa_nil)) po_none (po_some pe_int)) (pa_cons (pv 6) (pa_cons pe_int pa_nil)))))) (pss_one (ps_ret (pe_cmpR (op_eqX hu2) (pe_cl cS hr (by omega) rfl (pa_cons (pe_callTy call_list_of rfl (T.t.free 1 _ rfl) PyProof.Rows.boot_list (pa_cons (pv 4) pa_nil)) (pa_cons (pe_callTy call_list_of rfl (T.t.free 1 _ rfl) PyProof.Rows.boot_list (pa_cons (pv 5) pa_nil)) (pa_cons (pv 6) (pa_cons (pv 7) pa_nil))))) (pv 8) (nomark _)))))))))))))))), ?_⟩
    refine ⟨.ref l, rfl, l, ns, 0, rfl, hl, by omega, fun c0 H1 s1 => ⟨c0, 2, rfl, rfl, ⟨by omega, by omega⟩, c0 / 2, rfl, fun wa ws H2 s2 hwa hwl hwo => ?_⟩⟩
    have S2 := s1.trans s2
    refine s_asg (x_cl (sp := spCellAt K) (ra_cons (rd_var rfl) (ra_cons rd_c ra_nil)) ⟨l, ns, 1, rfl, sqL_sm hl S2, by omega, fun wy H3 s3 => ?_⟩)
    have S3 := S2.trans s3
    refine s_asg (x_cl (sp := spNames) (ra_cons (rd_var rfl) (ra_cons (rd_var rfl) ra_nil)) ⟨wa, ws, wy, rfl, s3 _ _ hwa, hwl, hwo, fun na N H4 s4 hna hNl hNo => ?_⟩)
    have S4 := S3.trans s4
    have nw : NW H4 na wa N ws := ⟨hna, hNl, (s3.trans s4) _ _ hwa, hwl, hwo⟩
    -- rules
    refine ⟨.int wy, rfl, wy, 0, 7, rfl, by omega, by omega, fun r7 hr7 => ⟨1, (r7 : Int), rfl, rfl, 1 + (r7 : Int), rfl, by omega, by omega, fun D hD => ?_⟩⟩
    refine lc_range (n := (1 + (r7 : Int)).toNat) (fun j U => Same H4 U ∧ ∃ rs acc, U D = some (.lst acc) ∧ Rp RepR U rs acc ∧ rs.length = j ∧ ∀ r ∈ rs, RO N r) ⟨same_new hD, [], [], upd_same, Rp.nil, rfl, (fun r hr => nomatch hr)⟩ (fun j U hj hJ => ?_) (fun H5 hJ => ?_)
    · obtain ⟨hS, rs, acc, hacc, hR, hrl, hro⟩ := hJ
      have hal := hR.1
      refine ⟨rfl, x_yes (x_cl (sp := spRule K) (ra_cons (rd_var rfl) (ra_cons (rd_var rfl) (ra_cons (rd_var rfl) (ra_cons (rd_var rfl) ra_nil)))) ⟨l, ns, j, na, wa, N, ws, by rw [Int.zero_add], sqL_sm hl (S4.trans hS), by omega, nw.sm hS, fun r v U2 s5 r5 ro => ?_⟩)⟩
      have hacc2 := s5 _ _ hacc
      have tx := tupex_ls (o := .lst (acc ++ [v])) hacc2
      refine ⟨acc, hacc2, szl (by omega), same_mut (hS.trans s5) hD, rs ++ [r], acc ++ [v], upd_same, ?_, by rw [List.length_append, hrl]; rfl, fun x hx => ?_⟩
      · exact (hR.ex fun _ _ z => z.exT ((TupEx.of s5).trans tx)).snoc (r5.exT tx)
      · rcases List.mem_append.mp hx with z | z
        · exact hro x z
        · rw [List.mem_singleton.mp z]
          exact ro
    · obtain ⟨s5, rs, rv, hrv, hR, hrl, hro⟩ := hJ
      have S5 := S4.trans s5
      have nw5 := nw.sm s5
      -- goals
      refine ⟨.int wy, rfl, wy, 1, 2, rfl, by omega, by omega, fun r2 hr2 => ⟨1, (r2 : Int), rfl, rfl, 1 + (r2 : Int), rfl, by omega, by omega, fun D2 hD2 => ?_⟩⟩
      refine lc_range (n := (1 + (r2 : Int)).toNat) (fun j U => Same H5 U ∧ ∃ gs acc, U D2 = some (.lst acc) ∧ RepL U gs acc ∧ gs.length = j ∧ ∀ g ∈ gs, GO N g) ⟨same_new hD2, [], [], upd_same, RepL.nil, rfl, (fun r hr => nomatch hr)⟩ (fun j U hj hJ => ?_) (fun H6 hJ => ?_)
      · obtain ⟨hS, gs, acc, hacc, hL, hgl, hgo⟩ := hJ
        have hal := hL.length
        have ej : ((2 + j : Nat) : Int) = 2 + (0 + (j : Int)) := by omega
        refine ⟨rfl, x_yes (x_clc ?_)⟩
        refine x_cl (sp := spCellAt K) (ra_cons (rd_var rfl) (ra_cons (x := .int ((2 + j : Nat) : Int)) (by rw [ej]; exact rd_I0 (g := fun i j => .int (i + j)) rd_c (rd_var rfl)) ra_nil)) ⟨l, ns, 2 + j, rfl, sqL_sm hl (S5.trans hS), by omega, fun cg U2 sg => ?_⟩
        refine ra_cons (rd_var rfl) (ra_cons (rd_var rfl) ra_nil) _ ⟨cg, na, wa, N, ws, rfl, nw5.sm (hS.trans sg), fun g v U3 s6 r6 go => ?_⟩
        have s76 := sg.trans s6
        have hacc2 := s76 _ _ hacc
        have tx := tupex_ls (o := .lst (acc ++ [v])) hacc2
        refine ⟨acc, hacc2, szl (by omega), same_mut (hS.trans s76) hD2, gs ++ [g], acc ++ [v], upd_same, ?_, by rw [List.length_append, hgl]; rfl, fun x hx => ?_⟩
        · exact (hL.ex ((TupEx.of s76).trans tx)).snoc (r6.ex tx)
        · rcases List.mem_append.mp hx with z | z
          · exact hgo x z
          · rw [List.mem_singleton.mp z]
            exact go
      · obtain ⟨s6, gs0, gv, hgv, hL, hgl, hgo⟩ := hJ
        have S6 := S5.trans s6
        have hR6 : Rp RepR H6 rs rv := hR.ex fun _ _ z => z.ex s6
        have hrv6 := s6 _ _ hrv
        have hdr : Drawn N rs gs0 := ⟨hNo, hNl, hro, by omega, hgo, by omega⟩
        refine ⟨.ref l, rfl, l, ns, 4, rfl, sqL_sm hl S6, by omega, fun cb H7 s7 => ⟨cb, 0, 21, rfl, by omega, by omega, fun bd hbd => ?_⟩⟩
        have S7 := S6.trans s7
        refine ⟨.ref l, rfl, l, ns, 5, rfl, sqL_sm hl S7, by omega, fun cm H8 s8 => ⟨cm, 0, 6, rfl, by omega, by omega, fun mo hmo => ⟨1, (mo : Int), rfl, rfl, ?_⟩⟩⟩
        have S8 := S7.trans s8
        have s68 := s7.trans s8
        have hR8 : Rp RepR H8 rs rv := hR6.ex fun _ _ z => z.ex s68
        have hrv8 := s68 _ _ hrv6
        have hgv8 := s68 _ _ hgv
        have hL8 := hL.ex (.of s68)
        have hrsl := hR6.1
        have hgvl := hL.length
        have hgz : sizes gs0 ≤ 100000 := by
          have := go_size hgo
          unfold sizes
          omega
        obtain ⟨n1, f1, hrun1, hfin1, hinv1, hgiv1⟩ := Drawn.run (c := ⟨rs, firsts (varsT gs0), bd, 1 + mo⟩) hdr rfl (by show bd ≤ 20; omega) ⟨by show 1 ≤ 1 + mo; omega, by show 1 + mo ≤ 40; omega⟩
        have hrg : RG (⟨rs, firsts (varsT gs0), bd, 1 + mo⟩ : Cfg) := hdr.rg (by show bd ≤ 20; omega) (by show 1 + mo ≤ 40; omega)
        have em : (fun i j : Int => V.int (i + j)) 1 (mo : Int) = V.int ((1 + mo : Nat) : Int) := congrArg V.int (by omega : (1 : Int) + (mo : Int) = ((1 + mo : Nat) : Int))
        rw [em]
        have hal : (firsts (varsT gs0)).length ≤ 1000 := by
          have a := len_firstsF (l := varsT gs0) (acc := [])
          have b := len_varsT gs0
          have c := go_size hgo
          have e0 : ([] : List Str).length = 0 := rfl
          unfold firsts
          unfold sizes at b
          omega
        refine ⟨.ref D, rfl, D, rv, rfl, .inl (SqL.of hrv8), fun q1 hq1 => ?_⟩
        have t1 := same_new (o := HO.lst rv) hq1
        refine ⟨.ref D2, rfl, D2, gv, rfl, .inl (SqL.of (t1 _ _ hgv8)), fun q2 hq2 => ?_⟩
        have t2 := same_new (o := HO.lst gv) hq2
        have t12 := t1.trans t2
        refine ⟨_, rfl, _, rfl, q1, q2, ⟨rs, firsts (varsT gs0), bd, 1 + mo⟩, gs0, rv, gv, n1, f1, rfl, t2 _ _ upd_same, hR8.ex fun _ _ z => z.ex t12, upd_same, hL8.ex (.of t12), hgz, by omega, rfl, hal, hrg, hrun1, hfin1, fun tf H9 s9 hF => ?_⟩
        refine s_ifNT (x_cl (sp := spLEnd) (ra_cons (rd_var rfl) (ra_cons (rd_var rfl) (ra_cons (rd_var rfl) ra_nil))) ⟨tf, ⟨rs, firsts (varsT gs0), bd, 1 + mo⟩, f1, rfl, hF, hfin1, hinv1.fin, hinv1.tak, fun H10 s10 => ⟨true, rfl, iteF ?_⟩⟩)
        have S810 := (t12.trans s9).trans s10
        -- before = None; the loop
        refine s_set rd_c ?_
        obtain ⟨gF, evF, gvF, htf, hgF, hGF, hEF⟩ := hF
        have htf10 := s10 _ _ htf
        have hgF10 := s10 _ _ hgF
        have hGF10 : Rp RepA H10 f1.given gvF := hGF.ex fun _ _ z => z.ex s10
        refine ⟨.ref tf, rfl, tf, _, ((0 : Nat) : Int), .ref gF, rfl, rfl, SqT.of htf10, atI_nat rfl, gF, rfl, ⟨_, SqL.of hgF10⟩, ?_⟩
        have S6_10 := s68.trans S810
        have hgFl := hGF10.1
        refine for_list (xs := gvF) (fun i τ U => ∃ x9 x10, τ = [some (.ref l), some (.ref wa), some (.int wy), some (.ref na), some (.ref D), some (.ref D2), some (.int (bd : Int)), some (.int ((1 + mo : Nat) : Int)), some (.ref tf), some x9, x10, none] ∧ Same H10 U ∧ ((i = 0 ∧ x9 = .non) ∨ ∃ j an w', i = j + 1 ∧ f1.given[j]? = some an ∧ x9 = .ref w' ∧ U w' = some (.lst (wayV an.2)))) ⟨_, _, rfl, Same.refl _, .inl ⟨rfl, rfl⟩⟩ (fun i τ U _ hJ => ?_) (fun i y τ U hy hJ => ?_) (fun τ U hJ => ?_)
        · obtain ⟨x9, x10, rfl, hS, _⟩ := hJ
          exact SqL.of (hS _ _ hgF10)
        · obtain ⟨x9, x10, rfl, hS, hb⟩ := hJ
          have hig := (List.getElem?_eq_some_iff.mp hy).1
          have han : f1.given[i]? = some f1.given[i] := List.getElem?_eq_getElem (by omega)
          have hmem := List.mem_of_getElem? han
          have hA := (hGF10.2 i _ _ han hy).ex hS
          generalize f1.given[i] = an at han hmem hA
          have hok := (hinv1.giv an hmem).1
          have S6U := S6_10.trans hS
          refine s_ifONT (x_cl (sp := spLLeads) (ra_cons (rd_var rfl) (ra_cons (rd_var rfl) (ra_cons (rd_var rfl) ra_nil))) ⟨D, D2, y, N, rs, gs0, rv, gv, an, rfl, S6U _ _ hrv6, hR6.ex fun _ _ z => z.ex S6U, S6U _ _ hgv, hL.ex (.of S6U), hdr, hA, hok, hgiv1 an hmem, fun U2 s2' => ⟨true, rfl, iteF ?_⟩⟩)
          obtain ⟨at', al, aw, aps, rfl, a1, a2, a3, a4⟩ := hA
          have a1' := s2' _ _ a1
          have a4' := s2' _ _ a4
          have nxt : tAsg (tOp (rIxT K) (tVar 10) (tC (.int 1))) (gName 9) { nx := fun τ U => ∃ x9 x10, τ = [some (.ref l), some (.ref wa), some (.int wy), some (.ref na), some (.ref D), some (.ref D2), some (.int (bd : Int)), some (.int ((1 + mo : Nat) : Int)), some (.ref tf), some x9, x10, none] ∧ Same H10 U ∧ ((i + 1 = 0 ∧ x9 = .non) ∨ ∃ j an w', i + 1 = j + 1 ∧ f1.given[j]? = some an ∧ x9 = .ref w' ∧ U w' = some (.lst (wayV an.2))), rt := Q } [some (.ref l), some (.ref wa), some (.int wy), some (.ref na), some (.ref D), some (.ref D2), some (.int (bd : Int)), some (.int ((1 + mo : Nat) : Int)), some (.ref tf), some x9, some (.ref at'), none] U2 :=
            s_set (rd_ixT (n := 1) (rd_var rfl) rd_c a1' rfl) ⟨_, _, rfl, hS.trans s2', .inr ⟨i, an, aw, rfl, han, rfl, a4'⟩⟩
          rcases hb with ⟨rfl, rfl⟩ | ⟨j, anj, wj, rfl, hj, rfl, hwj⟩
          · refine rdT_and (a := false) (b := false) (rdT_test (rd_op (rd_var rfl) rd_c fun Q q => ⟨rfl, q⟩)) (fun z => nomatch z) _ (iteF ?_)
            exact nxt
          · have hlt : LtD anj.2 an.2 := by
              have := List.pairwise_iff_getElem.mp hinv1.gord j (j + 1) (List.getElem?_eq_some_iff.mp hj).1 (List.getElem?_eq_some_iff.mp han).1 (Nat.lt_succ_self j)
              rw [(List.getElem?_eq_some_iff.mp hj).2, (List.getElem?_eq_some_iff.mp han).2] at this
              exact this
            refine rdT_and (a := true) (b := false) (rdT_test (rd_op (rd_var rfl) rd_c fun Q q => ⟨rfl, q⟩)) (fun _ => rdT_not (a := true) (rdT_test (rd_op (rd_var rfl) (rd_ixT (n := 1) (rd_var rfl) rd_c a1' rfl) fun Q q => ⟨wj, aw, anj.2, an.2, rfl, rfl, SqL.of (s2' _ _ hwj), SqL.of a4', hlt, q⟩))) _ (iteF ?_)
            exact nxt
        · obtain ⟨x9, x10, rfl, hS, hb⟩ := hJ
          have S6U := S6_10.trans hS
          obtain ⟨n2, f2, hrun2, hfin2, _, _⟩ := Drawn.run (c := ⟨rs, firsts (varsT (gs0.take 1)), bd, 1⟩) (hdr.one 1) rfl (by show bd ≤ 20; omega) ⟨Nat.le_refl _, by show 1 ≤ 40; omega⟩
          have hrg2 : RG (⟨rs, firsts (varsT (gs0.take 1)), bd, 1⟩ : Cfg) := (hdr.one 1).rg (by show bd ≤ 20; omega) (by show 1 ≤ 40; omega)
          refine ⟨.ref D, rfl, D, rv, rfl, .inl (SqL.of (S6U _ _ hrv6)), fun r1 h1 => ?_⟩
          have u1 := same_new (o := HO.lst rv) h1
          refine ⟨.ref D2, rfl, D2, gv, rfl, .inl (SqL.of (u1 _ _ (S6U _ _ hgv))), fun r3 h3 => ?_⟩
          have u2 := same_new (o := HO.lst gv) h3
          refine ⟨1, rfl, r3, gv, rfl, SqL.of upd_same, fun r4 h4 => ?_⟩
          have ec : cutV gv none (some 1) = gv.take 1 := cutV_pre gv 1
          rw [ec]
          have u3 := same_new (o := HO.lst (gv.take 1)) h4
          have SU := (S6U.trans (u1.trans u2)).trans u3
          have hz2 : sizes (gs0.take 1) ≤ 100000 := by
            have := go_size (hdr.one 1).gls
            unfold sizes
            have l1 : (gs0.take 1).length ≤ 1 := by rw [List.length_take]; omega
            omega
          have hal2 : (firsts (varsT (gs0.take 1))).length ≤ 1000 := by
            have a := len_firstsF (l := varsT (gs0.take 1)) (acc := [])
            have b := len_varsT (gs0.take 1)
            have c := go_size (hdr.one 1).gls
            have l1 : (gs0.take 1).length ≤ 1 := by rw [List.length_take]; omega
            have e0 : ([] : List Str).length = 0 := rfl
            unfold firsts
            unfold sizes at b
            omega
          refine ⟨_, rfl, r1, r4, ⟨rs, firsts (varsT (gs0.take 1)), bd, 1⟩, gs0.take 1, rv, gv.take 1, n2, f2, rfl, (u2.trans u3) _ _ upd_same, hR6.ex fun _ _ z => z.ex SU, upd_same, Rp_repL ((repL_Rp (hL.ex (.of SU))).take 1), hz2, by rw [List.length_take]; omega, rfl, hal2, hrg2, hrun2, hfin2, fun tf2 U9 s9' _ => ?_⟩
          have SU9 := SU.trans s9'
          refine ⟨.ref D, rfl, D, rv, rfl, .inl (SqL.of (SU9 _ _ hrv6)), fun r5 h5 => ?_⟩
          have v1 := same_new (o := HO.lst rv) h5
          refine ⟨.ref D2, rfl, D2, gv, rfl, .inl (SqL.of (v1 _ _ (SU9 _ _ hgv))), fun r6 h6 => ?_⟩
          have v2 := same_new (o := HO.lst gv) h6
          have SV := SU9.trans (v1.trans v2)
          refine ⟨_, rfl, _, rfl, r5, r6, ⟨rs, firsts (varsT gs0), bd, 1 + mo⟩, gs0, rv, gv, n1, f1, rfl, v2 _ _ upd_same, hR6.ex fun _ _ z => z.ex SV, upd_same, hL.ex (.of SV), hgz, by omega, rfl, hal, hrg, hrun1, hfin1, fun tf3 V9 t9 hF3 => ?_⟩
          have SUV := ((u1.trans u2).trans u3).trans (s9'.trans ((v1.trans v2).trans t9))
          have S10V := hS.trans SUV
          have hF1 : RepF V9 f1 tf := ⟨gF, evF, gvF, S10V _ _ htf10, S10V _ _ hgF10, hGF10.ex fun _ _ z => z.ex S10V, hEF.ex (s10.trans S10V)⟩
          have hdp : ∀ x g, f1.fin = some (.fault x g) → g.depth ≤ 60 := fun x g e => by
            have := hinv1.fin
            unfold FinOk at this
            rw [e] at this
            obtain ⟨_, _, f, ks, _, _, _, hd⟩ := this
            exact hd
          obtain ⟨xs, ys, hx, hy, hp⟩ := eqX_found (K := K) hgiv1 hfin1 hdp hF3 hF1 (fun hd a b => eqX_end hd a b)
          exact ⟨.ref tf, rfl, 401, tf3, tf, xs, ys, by omega, rfl, rfl, .inr ⟨hx, hy⟩, hp, k _⟩
end
end G35

/-! GEnd -/
set_option Elab.async false
set_option linter.all false
set_option maxRecDepth 100000
set_option maxHeartbeats 0
namespace G35
open PySem PySem.Spec PyProof.Rows L2
theorem facts {P : Program} {w : World} {K : PySem.W.Frag} {h : Heap} {mg : Str → Option Value} {f : Addr} (X : K.In h) (G : h.Ns mainGlobals mg) (hfa : mg ("law" : Str) = some (.ref f)) (c : He.SaysD fa fn K) (e : exB K = true) :
    ∃ fd : FuncData, (∀ (s : Shared) (v : Value), BindsTo s fd ⟨[v], []⟩ [("_law_script", v)]) ∧ ∀ base : Heap, FnOk P w K mg base CX0 208 f fd ["_law_script"] (spLaw K) := by
  have T := t36 X G c e
  obtain ⟨⟨fd, F⟩, g⟩ := T.t.def_ 50 d_law rfl
  have e1 : mg ("law" : Str) = some (.ref (He.ga K "law")) := g rfl
  have e2 := hfa.symm.trans e1
  cases e2
  have F2 : FunD K d_law.name d_law.qual d_law.params d_law.body d_law.scope [] [] (He.ga K "law") fd := F
  have b := FunD.bindsA (ps := ["_law_script"]) F2 fun _ _ _ _ _ _ us hl => match us, hl with | [_], _ => rfl
  exact ⟨fd, fun s v => b s [v] rfl, fun base => ok_law T (e36 X G c e) (r36 X G c) F2⟩
end G35
open PySem PySem.W PySem.Calls PyProof.Rows
set_option maxRecDepth 100000 in
set_option maxHeartbeats 0 in
theorem PySem.Challenge.cw_goaltrail_k35_whole_ways_lead_holds : PySem.Challenge.rw_goaltrail_k35_whole_ways_lead.Holds := by
  w_on; o_law
  refine HandSHeadRun.head_any (r := OpenLaw.row PySem.Challenge.rw_goaltrail_k35_whole_ways_lead) (q := view (OpenLaw.row PySem.Challenge.rw_goaltrail_k35_whole_ways_lead).prog [57]) (H := G35.hkZ) (ob := G35.obZ) (M := 8000) (loose := G35.names) (d := HandSHeadRun.topDef (OpenLaw.row PySem.Challenge.rw_goaltrail_k35_whole_ways_lead).prog 57) (kwd := []) G35.obZ_eq
    (by kernel_rfl) (fun s => by kernel_rfl) G35.run (by kernel_rfl) (by kernel_rfl) (by kernel_rfl) (by rfl) (by first | assumption | decide +kernel) (by decide +kernel) ⟨rfl, rfl, rfl, rfl, rfl, by decide +kernel⟩ ?hw ?hc
  case hw => w_witness2
  case hc =>
    refine L2.walk_ofE (l := PySem.Challenge.rw_goaltrail_k35_whole_ways_lead) (n := 63) (k := 208) (x := "_law_script") (CX := L2.CX0) rfl (by decide) (by kernel_rfl) ⟨rfl, by decide, by decide⟩ ?F (fun _ _ _ _ z => z)
    intro w mg fa h Y G hmg0
    obtain ⟨K, KX, c, e⟩ := Y
    have hmg : mg ("law" : PySem.Str) = some (.ref fa) := by
      have e : (HandSHeadRun.topDef (OpenLaw.row PySem.Challenge.rw_goaltrail_k35_whole_ways_lead).prog 57).name = ("law" : PySem.Str) := by kernel_rfl
      rw [← e]
      exact hmg0
    obtain ⟨fd, hb, hF⟩ := G35.facts (P := (PySem.Challenge.rw_goaltrail_k35_whole_ways_lead).prog) (w := w) KX G hmg c e
    exact ⟨K, fd, G35.spLaw K, KX, hb, fun H a ns hl _ hS => ⟨a, ns, rfl, hS, by omega, fun _ => rfl⟩, fun base _ _ => hF base⟩
