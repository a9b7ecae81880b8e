import PyProof.Rows.All
import Wide.All
import OpenK.AllK
import Wide.FinOn
import HandS.ForMost
import HandS.ForExc
import HandS.Style
import HandS.IsInst
import HandS.Wide
import KE.SortData
import HandS.EndBits
import HandS.Conv
import KE.IntBitsLaws
import PySem.Challenge.RW_tripgauge_k04_whole_judged
set_option Elab.async false
set_option linter.all false
set_option autoImplicit false
set_option maxRecDepth 100000
set_option maxHeartbeats 4000000
/-! Fx1: a functional store over the hand layer: data D, objects O, outcomes R, the tie to the abstract heap. -/
namespace Fx
open PySem L2

/-- data: tuples are plain trees, what may change is an index into the store -/
inductive D where
  | non | bl (b : Bool) | int (i : Int) | str (x : Str) | tup (xs : List D) | rl (xs : List D) | ref (n : Nat) | fn (a : Addr)
  deriving Inhabited
/-- what stands in the store -/
inductive O where
  | lst (xs : List D) | dic (kvs : List (Int × D)) | ins (c : Nat) (fs : List (Str × D))
  deriving Inhabited
abbrev Sto := List O
abbrev En := List (Option D)
inductive R (α : Type) where
  | ok (a : α) (S : Sto) | exc (c : Nat) (S : Sto) | bad
def R.bind {α β : Type} (r : R α) (f : α → Sto → R β) : R β := match r with
  | .ok a S => f a S
  | .exc c S => .exc c S
  | .bad => .bad
@[simp] theorem R.bind_ok {α β : Type} (a : α) (S : Sto) (f : α → Sto → R β) : (R.ok a S).bind f = f a S := rfl
@[simp] theorem R.bind_exc {α β : Type} (c : Nat) (S : Sto) (f : α → Sto → R β) : (R.exc c S : R α).bind f = .exc c S := rfl
@[simp] theorem R.bind_bad {α β : Type} (f : α → Sto → R β) : (R.bad : R α).bind f = .bad := rfl

/-- the written part, and where the classes stand -/
structure Cc where
  K : PySem.W.Frag
  ca : Nat → Addr

/-- a list that is only read: locked, or written by the top -/
def RoL (K : PySem.W.Frag) (H : Hp) (a : Addr) (xs : List V) : Prop :=
  (∃ o, H a = some (.frz o (.lst xs))) ∨ ∃ (o : Obj) (its : Array Value) (n : Nat), K.lookup a = some o ∧ o.cls = .type "list" ∧ o.dict = none ∧ o.data = .seq its n ∧ its.size ≤ sizeLine ∧ Vals xs its.toList
theorem RoL.sq {K : PySem.W.Frag} {H : Hp} {a : Addr} {xs : List V} (h : RoL K H a xs) : SqL K H a xs := by
  rcases h with ⟨o, h⟩ | h
  · exact .inl (.inr ⟨o, h⟩)
  · exact .inr h
inductive Rep (G : Cc) (ρ : List Addr) (H : Hp) : D → V → Prop where
  | non : Rep G ρ H .non .non
  | bl (b : Bool) : Rep G ρ H (.bl b) (.bl b)
  | int (i : Int) : Rep G ρ H (.int i) (.int i)
  | str (x : Str) : Rep G ρ H (.str x) (.str x)
  | tup {ds : List D} {a : Addr} {vs : List V} (h : SqT G.K H a vs) (hl : ds.length = vs.length) (hi : ∀ (i : Nat) (d : D) (v : V), ds[i]? = some d → vs[i]? = some v → Rep G ρ H d v) : Rep G ρ H (.tup ds) (.ref a)
  | rl {ds : List D} {a : Addr} {vs : List V} (h : RoL G.K H a vs) (hl : ds.length = vs.length) (hi : ∀ (i : Nat) (d : D) (v : V), ds[i]? = some d → vs[i]? = some v → Rep G ρ H d v) : Rep G ρ H (.rl ds) (.ref a)
  | ref {n : Nat} {a : Addr} (h : ρ[n]? = some a) : Rep G ρ H (.ref n) (.ref a)
  | fn (a : Addr) : Rep G ρ H (.fn a) (.ref a)
def Reps (G : Cc) (ρ : List Addr) (H : Hp) (ds : List D) (vs : List V) : Prop := ds.length = vs.length ∧ ∀ (i : Nat) (d : D) (v : V), ds[i]? = some d → vs[i]? = some v → Rep G ρ H d v

section
variable {G : Cc} {ρ ρ' : List Addr} {H H' : Hp} {d : D} {v : V} {ds es : List D} {vs ws : List V}
theorem Reps.nil : Reps G ρ H [] [] := ⟨rfl, fun i d v h => by simp at h⟩
theorem Reps.cons (h : Rep G ρ H d v) (t : Reps G ρ H ds vs) : Reps G ρ H (d :: ds) (v :: vs) := by
  refine ⟨by simp [t.1], fun i e w h1 h2 => ?_⟩
  cases i with
  | zero => simp at h1 h2; subst h1 h2; exact h
  | succ i => exact t.2 i e w (by simpa using h1) (by simpa using h2)
theorem Reps.uncons {vs : List V} (t : Reps G ρ H (d :: ds) vs) : ∃ v ws, vs = v :: ws ∧ Rep G ρ H d v ∧ Reps G ρ H ds ws := by
  cases vs with
  | nil => have := t.1; simp at this
  | cons v ws => exact ⟨v, ws, rfl, t.2 0 d v rfl rfl, by have := t.1; simpa using this, fun i e w h1 h2 => t.2 (i + 1) e w (by simpa using h1) (by simpa using h2)⟩
theorem Reps.unnil {vs : List V} (t : Reps G ρ H [] vs) : vs = [] := by
  have := t.1
  cases vs with
  | nil => rfl
  | cons _ _ => simp at this
theorem Reps.append (a : Reps G ρ H ds vs) (b : Reps G ρ H es ws) : Reps G ρ H (ds ++ es) (vs ++ ws) := by
  refine ⟨by simp [a.1, b.1], fun i e w h1 h2 => ?_⟩
  have hl := a.1
  by_cases hi : i < ds.length
  · rw [List.getElem?_append_left hi] at h1
    rw [List.getElem?_append_left (by omega)] at h2
    exact a.2 i e w h1 h2
  · rw [List.getElem?_append_right (by omega)] at h1
    rw [List.getElem?_append_right (by omega), ← hl] at h2
    exact b.2 _ e w h1 h2
theorem Reps.get {i : Nat} (a : Reps G ρ H ds vs) (h : ds[i]? = some d) : ∃ v, vs[i]? = some v ∧ Rep G ρ H d v := by
  have hl := a.1
  have hi : i < ds.length := (List.getElem?_eq_some_iff.mp h).1
  refine ⟨vs[i]'(by omega), by simp, ?_⟩
  exact a.2 i d _ h (by simp)
theorem Reps.getV {i : Nat} (a : Reps G ρ H ds vs) (h : vs[i]? = some v) : ∃ d, ds[i]? = some d ∧ Rep G ρ H d v := by
  have hl := a.1
  have hi : i < vs.length := (List.getElem?_eq_some_iff.mp h).1
  refine ⟨ds[i]'(by omega), by simp, ?_⟩
  exact a.2 i _ v (by simp) h
theorem Reps.set {i : Nat} (a : Reps G ρ H ds vs) (h : Rep G ρ H d v) : Reps G ρ H (ds.set i d) (vs.set i v) := by
  refine ⟨by simp [a.1], fun j e w h1 h2 => ?_⟩
  by_cases hj : i = j
  · subst hj
    have hi : i < ds.length := by
      have := (List.getElem?_eq_some_iff.mp h1).1
      simpa using this
    have hi2 : i < vs.length := by rw [← a.1]; exact hi
    rw [List.getElem?_set_self hi] at h1
    rw [List.getElem?_set_self hi2] at h2
    cases h1; cases h2
    exact h
  · rw [List.getElem?_set_ne hj] at h1 h2
    exact a.2 j e w h1 h2
theorem Reps.take (n : Nat) (a : Reps G ρ H ds vs) : Reps G ρ H (ds.take n) (vs.take n) := by
  refine ⟨by simp [a.1], fun j e w h1 h2 => ?_⟩
  rw [List.getElem?_take] at h1 h2
  by_cases hj : j < n
  · rw [if_pos hj] at h1 h2
    exact a.2 j e w h1 h2
  · rw [if_neg hj] at h1; cases h1
theorem Reps.drop (n : Nat) (a : Reps G ρ H ds vs) : Reps G ρ H (ds.drop n) (vs.drop n) := by
  refine ⟨by simp [a.1], fun j e w h1 h2 => ?_⟩
  rw [List.getElem?_drop] at h1 h2
  exact a.2 _ e w h1 h2
theorem Reps.reverse (a : Reps G ρ H ds vs) : Reps G ρ H ds.reverse vs.reverse := by
  refine ⟨by simp [a.1], fun j e w h1 h2 => ?_⟩
  have hj : j < ds.length := by
    have := (List.getElem?_eq_some_iff.mp h1).1
    simpa using this
  rw [List.getElem?_reverse (by omega)] at h1
  rw [List.getElem?_reverse (by rw [← a.1]; omega), ← a.1] at h2
  exact a.2 _ e w h1 h2

/-- later: more in the store, the tuples stand -/
structure Ext (G : Cc) (ρ : List Addr) (H : Hp) (ρ' : List Addr) (H' : Hp) : Prop where
  pre : ρ <+: ρ'
  tup : ∀ a xs, SqT G.K H a xs → SqT G.K H' a xs
  frz : ∀ a o u, H a = some (.frz o u) → H' a = some (.frz o u)
theorem Ext.refl (G : Cc) (ρ : List Addr) (H : Hp) : Ext G ρ H ρ H := ⟨List.prefix_rfl, fun _ _ h => h, fun _ _ _ h => h⟩
theorem Ext.trans {ρ'' : List Addr} {H'' : Hp} (a : Ext G ρ H ρ' H') (b : Ext G ρ' H' ρ'' H'') : Ext G ρ H ρ'' H'' := ⟨a.pre.trans b.pre, fun x xs h => b.tup x xs (a.tup x xs h), fun x o u h => b.frz x o u (a.frz x o u h)⟩
theorem pre_get {α : Type} {l m : List α} (h : l <+: m) {n : Nat} {a : α} (e : l[n]? = some a) : m[n]? = some a := by
  obtain ⟨t, rfl⟩ := h
  have hn : n < l.length := (List.getElem?_eq_some_iff.mp e).1
  rw [List.getElem?_append_left hn]
  exact e
theorem Rep.ext (e : Ext G ρ H ρ' H') (h : Rep G ρ H d v) : Rep G ρ' H' d v := by
  induction h with
  | non => exact .non
  | bl b => exact .bl b
  | int i => exact .int i
  | str x => exact .str x
  | tup h hl hi ih => exact .tup (e.tup _ _ h) hl ih
  | rl h hl hi ih => exact .rl (h.elim (fun ⟨o, z⟩ => .inl ⟨o, e.frz _ _ _ z⟩) .inr) hl ih
  | ref h => exact .ref (pre_get e.pre h)
  | fn a => exact .fn a
theorem Reps.ext (e : Ext G ρ H ρ' H') (h : Reps G ρ H ds vs) : Reps G ρ' H' ds vs := ⟨h.1, fun i d v h1 h2 => (h.2 i d v h1 h2).ext e⟩

/-- an object of the store as it stands in the abstract heap -/
def OR (G : Cc) (ρ : List Addr) (H : Hp) (a : Addr) : O → Prop
  | .lst ds => ∃ vs, H a = some (.lst vs) ∧ Reps G ρ H ds vs
  | .dic kvs => ∃ kws : List (Key × V), H a = some (.dK kws) ∧ kws.map (·.1) = kvs.map (fun p => (Sum.inl p.1 : Key)) ∧ Reps G ρ H (kvs.map (·.2)) (kws.map (·.2))
  | .ins c fs => ∃ dx gs, H a = some (.ins (G.ca c) dx gs) ∧ gs.map (·.1) = fs.map (·.1) ∧ Reps G ρ H (fs.map (·.2)) (gs.map (·.2))
theorem OR.some {a : Addr} {o : O} (h : OR G ρ H a o) : ∃ u, H a = some u ∧ (∀ xs, ¬ Rd H a (.tup xs)) ∧ ∀ o u, H a ≠ some (.frz o u) := by
  cases o with
  | lst ds => obtain ⟨vs, e, _⟩ := h; exact ⟨_, e, fun xs r => by rcases r with r | ⟨o, r⟩ <;> (rw [e] at r; cases r), fun o u r => by rw [e] at r; cases r⟩
  | dic kvs => obtain ⟨vs, e, _⟩ := h; exact ⟨_, e, fun xs r => by rcases r with r | ⟨o, r⟩ <;> (rw [e] at r; cases r), fun o u r => by rw [e] at r; cases r⟩
  | ins c fs => obtain ⟨vs, gs, e, _⟩ := h; exact ⟨_, e, fun xs r => by rcases r with r | ⟨o, r⟩ <;> (rw [e] at r; cases r), fun o u r => by rw [e] at r; cases r⟩
theorem OR.ext {a : Addr} {o : O} (e : Ext G ρ H ρ' H') (he : H' a = H a) (h : OR G ρ H a o) : OR G ρ' H' a o := by
  cases o with
  | lst ds => obtain ⟨vs, q, r⟩ := h; exact ⟨vs, he.trans q, r.ext e⟩
  | dic kvs => obtain ⟨vs, q, k, r⟩ := h; exact ⟨vs, he.trans q, k, r.ext e⟩
  | ins c fs => obtain ⟨dx, gs, q, k, r⟩ := h; exact ⟨dx, gs, he.trans q, k, r.ext e⟩

structure Rel (G : Cc) (ρ : List Addr) (S : Sto) (H : Hp) : Prop where
  len : ρ.length = S.length
  nd : ρ.Nodup
  ob : ∀ (n : Nat) (o : O), S[n]? = some o → ∃ a, ρ[n]? = some a ∧ OR G ρ H a o
variable {S S' : Sto}
theorem Rel.at (R : Rel G ρ S H) {n : Nat} {o : O} {a : Addr} (h : S[n]? = some o) (ha : ρ[n]? = some a) : OR G ρ H a o := by
  obtain ⟨b, hb, q⟩ := R.ob n o h
  rw [ha] at hb; cases hb
  exact q
theorem Rel.there (R : Rel G ρ S H) {n : Nat} {a : Addr} (ha : ρ[n]? = some a) : ∃ u, H a = some u ∧ (∀ xs, ¬ Rd H a (.tup xs)) ∧ ∀ o u, H a ≠ some (.frz o u) := by
  have hn : n < S.length := by rw [← R.len]; exact (List.getElem?_eq_some_iff.mp ha).1
  exact (R.at (o := S[n]) (by simp [hn]) ha).some
theorem sqT_fresh {K : PySem.W.Frag} {p : Addr} {o : HO} (hp : H p = Option.none) : ∀ a xs, SqT K H a xs → SqT K (upd H p o) a xs := fun a xs h => by
  rcases h with h | h
  · left
    rcases h with h | ⟨u, h⟩
    · exact .inl (by rw [upd_ne (ne_of_none h hp)]; exact h)
    · exact .inr ⟨u, by rw [upd_ne (ne_of_none h hp)]; exact h⟩
  · exact .inr h
theorem sqT_write {K : PySem.W.Frag} {p : Addr} {o : HO} (hp : ∀ xs, ¬ Rd H p (.tup xs)) : ∀ a xs, SqT K H a xs → SqT K (upd H p o) a xs := fun a xs h => by
  rcases h with h | h
  · left
    have hne : a ≠ p := fun e => by subst e; exact hp xs h
    rcases h with h | ⟨u, h⟩
    · exact .inl (by rw [upd_ne hne]; exact h)
    · exact .inr ⟨u, by rw [upd_ne hne]; exact h⟩
  · exact .inr h
/-- a fresh thing that is no store's object (a tuple, an instance's dict) -/
theorem Ext.fresh {p : Addr} {o : HO} (hp : H p = Option.none) : Ext G ρ H ρ (upd H p o) := ⟨List.prefix_rfl, sqT_fresh hp, fun a ob u h => by rw [upd_ne (ne_of_none h hp)]; exact h⟩
theorem Rel.fresh {p : Addr} {o : HO} (R : Rel G ρ S H) (hp : H p = Option.none) : Rel G ρ S (upd H p o) :=
  ⟨R.len, R.nd, fun n ob h => by
    obtain ⟨a, ha, q⟩ := R.ob n ob h
    obtain ⟨u, hu, _⟩ := q.some
    exact ⟨a, ha, q.ext (Ext.fresh hp) (upd_ne (ne_of_none hu hp))⟩⟩
theorem Rel.alloc {p : Addr} {u : HO} {o : O} (R : Rel G ρ S H) (hp : H p = Option.none) (new : Ext G ρ H (ρ ++ [p]) (upd H p u) → OR G (ρ ++ [p]) (upd H p u) p o) :
    Rel G (ρ ++ [p]) (S ++ [o]) (upd H p u) ∧ Ext G ρ H (ρ ++ [p]) (upd H p u) := by
  have e : Ext G ρ H (ρ ++ [p]) (upd H p u) := ⟨⟨[p], rfl⟩, sqT_fresh hp, fun a ob w h => by rw [upd_ne (ne_of_none h hp)]; exact h⟩
  refine ⟨⟨by simp [R.len], ?_, fun n ob h => ?_⟩, e⟩
  · rw [List.nodup_append]
    refine ⟨R.nd, by simp, fun a ha b hb => ?_⟩
    obtain ⟨n, hn⟩ := List.getElem?_of_mem ha
    obtain ⟨u, hu, _⟩ := R.there hn
    have : b = p := by simpa using hb
    subst this
    exact ne_of_none hu hp
  · by_cases hn : n < S.length
    · rw [List.getElem?_append_left hn] at h
      obtain ⟨a, ha, q⟩ := R.ob n ob h
      obtain ⟨w, hw, _⟩ := q.some
      exact ⟨a, pre_get ⟨[p], rfl⟩ ha, q.ext e (upd_ne (ne_of_none hw hp))⟩
    · rw [List.getElem?_append_right (by omega)] at h
      have hz : n = S.length := by
        have := (List.getElem?_eq_some_iff.mp h).1
        simp at this
        omega
      subst hz
      simp at h
      subst h
      exact ⟨p, by rw [← R.len]; simp, new e⟩
theorem Rel.write {n : Nat} {a : Addr} {u : HO} {o o' : O} (R : Rel G ρ S H) (hn : S[n]? = some o) (ha : ρ[n]? = some a) (new : Ext G ρ H ρ (upd H a u) → OR G ρ (upd H a u) a o') :
    Rel G ρ (S.set n o') (upd H a u) ∧ Ext G ρ H ρ (upd H a u) := by
  obtain ⟨w, hw, nt, nf⟩ := (R.at hn ha).some
  have e : Ext G ρ H ρ (upd H a u) := ⟨List.prefix_rfl, sqT_write nt, fun b ob w h => by rw [upd_ne (fun z => nf ob w (by rw [← z]; exact h))]; exact h⟩
  have hlt : n < S.length := (List.getElem?_eq_some_iff.mp hn).1
  refine ⟨⟨by simp [R.len], R.nd, fun m ob h => ?_⟩, e⟩
  by_cases hm : n = m
  · subst hm
    rw [List.getElem?_set_self hlt] at h
    cases h
    exact ⟨a, ha, new e⟩
  · rw [List.getElem?_set_ne hm] at h
    obtain ⟨b, hb, q⟩ := R.ob m ob h
    have hne : b ≠ a := fun z => by
      subst z
      exact hm (nodup_ix' R.nd ha hb)
    exact ⟨b, hb, q.ext e (upd_ne hne)⟩
where
  nodup_ix' {l : List Addr} (hN : l.Nodup) {i j : Nat} {x : Addr} (a : l[i]? = some x) (b : l[j]? = some x) : i = j := by
    obtain ⟨h1, e1⟩ := List.getElem?_eq_some_iff.mp a
    obtain ⟨h2, e2⟩ := List.getElem?_eq_some_iff.mp b
    exact (List.getElem_inj hN).mp (e1.trans e2.symm)

/-- the slots -/
def EnvR (G : Cc) (ρ : List Addr) (H : Hp) (env : En) (σ : L2.St) : Prop := env.length = σ.length ∧ ∀ (i : Nat) (d : D), env[i]? = some (some d) → ∃ v, σ[i]? = some (some v) ∧ Rep G ρ H d v
theorem EnvR.ext {env : En} {σ : L2.St} (e : Ext G ρ H ρ' H') (h : EnvR G ρ H env σ) : EnvR G ρ' H' env σ := ⟨h.1, fun i d q => let ⟨v, a, b⟩ := h.2 i d q; ⟨v, a, b.ext e⟩⟩
theorem EnvR.set {env : En} {σ : L2.St} {i : Nat} (h : EnvR G ρ H env σ) (r : Rep G ρ H d v) : EnvR G ρ H (env.set i (some d)) (σ.set i (some v)) := by
  refine ⟨by simp [h.1], fun j e q => ?_⟩
  by_cases hj : i = j
  · subst hj
    have hi : i < env.length := by
      have := (List.getElem?_eq_some_iff.mp q).1
      simpa using this
    rw [List.getElem?_set_self hi] at q
    cases q
    exact ⟨v, List.getElem?_set_self (by rw [← h.1]; exact hi), r⟩
  · rw [List.getElem?_set_ne hj] at q ⊢
    exact h.2 j e q
theorem EnvR.unset {env : En} {σ : L2.St} {i : Nat} (h : EnvR G ρ H env σ) : EnvR G ρ H (env.set i Option.none) (σ.set i Option.none) := by
  refine ⟨by simp [h.1], fun j e q => ?_⟩
  by_cases hj : i = j
  · subst hj
    have hi : i < env.length := by
      have := (List.getElem?_eq_some_iff.mp q).1
      simpa using this
    rw [List.getElem?_set_self hi] at q
    cases q
  · rw [List.getElem?_set_ne hj] at q ⊢
    exact h.2 j e q

/-! ### what is wanted of an outcome -/
def PoR (G : Cc) (W : WX) (σ : L2.St) {α : Type} (ρ : List Addr) (H : Hp) (Q : α → Sto → List Addr → Hp → Prop) : R α → Prop
  | .ok a S => ∀ ρ' H', Ext G ρ H ρ' H' → Rel G ρ' S H' → Q a S ρ' H'
  | .exc c S => ∀ ρ' H', Ext G ρ H ρ' H' → Rel G ρ' S H' → W (.ref (G.ca c)) Option.none σ H'
  | .bad => False
variable {W : WX} {σ : L2.St} {α β : Type}
theorem PoR.start {ρ1 : List Addr} {H1 : Hp} {Q : α → Sto → List Addr → Hp → Prop} {r : R α} (e : Ext G ρ H ρ1 H1) (h : PoR G W σ ρ H Q r) : PoR G W σ ρ1 H1 Q r := by
  cases r with
  | ok a S => exact fun ρ' H' e' R => h ρ' H' (e.trans e') R
  | exc c S => exact fun ρ' H' e' R => h ρ' H' (e.trans e') R
  | bad => exact h
theorem PoR.bind {Q : β → Sto → List Addr → Hp → Prop} {r : R α} {f : α → Sto → R β} (h : PoR G W σ ρ H Q (r.bind f)) : PoR G W σ ρ H (fun a S ρ1 H1 => PoR G W σ ρ1 H1 Q (f a S)) r := by
  cases r with
  | ok a S => exact fun ρ' H' e' R => PoR.start e' (show PoR G W σ ρ H Q (f a S) from h)
  | exc c S => exact h
  | bad => exact h
theorem PoR.imp {Q Q' : α → Sto → List Addr → Hp → Prop} {r : R α} (h : PoR G W σ ρ H Q r) (hq : ∀ a S ρ' H', Ext G ρ H ρ' H' → Rel G ρ' S H' → Q a S ρ' H' → Q' a S ρ' H') : PoR G W σ ρ H Q' r := by
  cases r with
  | ok a S => exact fun ρ' H' e' R => hq a S ρ' H' e' R (h ρ' H' e' R)
  | exc c S => exact h
  | bad => exact h
theorem PoR.now {Q : α → Sto → List Addr → Hp → Prop} {a : α} {S : Sto} (h : PoR G W σ ρ H Q (.ok a S)) (R : Rel G ρ S H) : Q a S ρ H := h ρ H (Ext.refl G ρ H) R

/-- what is wanted of a value, of values -/
def QE (G : Cc) (Q : VK) : D → Sto → List Addr → Hp → Prop := fun d _ ρ H => ∀ v, Rep G ρ H d v → Q v H
def QA (G : Cc) (Q : List V → Hp → Prop) : List D → Sto → List Addr → Hp → Prop := fun ds _ ρ H => ∀ vs, Reps G ρ H ds vs → Q vs H
def QT (Q : Bool → Hp → Prop) : Bool → Sto → List Addr → Hp → Prop := fun b _ _ H => Q b H
end

abbrev ME := En → Sto → R D
abbrev MA := En → Sto → R (List D)
abbrev MT := En → Sto → R Bool
/-- how a statement ends -/
inductive RS where
  | nx (e : En) (S : Sto) | rt (d : D) (S : Sto) | bk (e : En) (S : Sto) | ct (e : En) (S : Sto) | exc (c : Nat) (e : En) (S : Sto) | bad
abbrev MS := En → Sto → RS

section
variable (G : Cc) (W : WX)
def tE (m : ME) : TE := fun σ H Q => ∃ ρ S env, Rel G ρ S H ∧ EnvR G ρ H env σ ∧ PoR G W σ ρ H (QE G Q) (m env S)
def tA (m : MA) : TA := fun σ H Q => ∃ ρ S env, Rel G ρ S H ∧ EnvR G ρ H env σ ∧ PoR G W σ ρ H (QA G Q) (m env S)
def tT (m : MT) : TT := fun σ H Q => ∃ ρ S env, Rel G ρ S H ∧ EnvR G ρ H env σ ∧ PoR G W σ ρ H (QT Q) (m env S)
def PoS (ρ : List Addr) (H : Hp) (Dn : Ends) : RS → Prop
  | .nx e S => ∀ ρ' H' σ', Ext G ρ H ρ' H' → Rel G ρ' S H' → EnvR G ρ' H' e σ' → Dn.nx σ' H'
  | .rt d S => ∀ ρ' H' v, Ext G ρ H ρ' H' → Rel G ρ' S H' → Rep G ρ' H' d v → Dn.rt v H'
  | .bk e S => ∀ ρ' H' σ', Ext G ρ H ρ' H' → Rel G ρ' S H' → EnvR G ρ' H' e σ' → Dn.bk σ' H'
  | .ct e S => ∀ ρ' H' σ', Ext G ρ H ρ' H' → Rel G ρ' S H' → EnvR G ρ' H' e σ' → Dn.ct σ' H'
  | .exc c e S => ∀ ρ' H' σ', Ext G ρ H ρ' H' → Rel G ρ' S H' → EnvR G ρ' H' e σ' → W (.ref (G.ca c)) none σ' H'
  | .bad => False
def tS (m : MS) : TS := fun Dn σ H => ∃ ρ S env, Rel G ρ S H ∧ EnvR G ρ H env σ ∧ PoS G W ρ H Dn (m env S)
end
theorem PoS.start {G : Cc} {W : WX} {ρ ρ1 : List Addr} {H H1 : Hp} {Dn : Ends} {r : RS} (e : Ext G ρ H ρ1 H1) (h : PoS G W ρ H Dn r) : PoS G W ρ1 H1 Dn r := by
  cases r with
  | nx _ _ => exact fun ρ' H' σ' e' R => h ρ' H' σ' (e.trans e') R
  | rt _ _ => exact fun ρ' H' σ' e' R => h ρ' H' σ' (e.trans e') R
  | bk _ _ => exact fun ρ' H' σ' e' R => h ρ' H' σ' (e.trans e') R
  | ct _ _ => exact fun ρ' H' σ' e' R => h ρ' H' σ' (e.trans e') R
  | exc _ _ _ => exact fun ρ' H' σ' e' R => h ρ' H' σ' (e.trans e') R
  | bad => exact h

/-! ### weakening -/
theorem PE.imp {X : Cx} {e : Expr} {t t' : TE} (h : PE X e t) (hi : ∀ σ H Q, t' σ H Q → t σ H Q) : PE X e t' := ⟨fun pins s σ H Q I q => h.run pins s σ H Q I (hi _ _ _ q)⟩
theorem PT.imp {X : Cx} {e : Expr} {t t' : TT} (h : PT X e t) (hi : ∀ σ H Q, t' σ H Q → t σ H Q) : PT X e t' := ⟨fun pins s σ H Q I q => h.run pins s σ H Q I (hi _ _ _ q)⟩
theorem PW.imp {X : Cx} {e : Expr} {t t' : TT} (h : PW X e t) (hi : ∀ σ H Q, t' σ H Q → t σ H Q) : PW X e t' := ⟨fun wh pins s σ H Q I q => h.run wh pins s σ H Q I (hi _ _ _ q)⟩
theorem PA.imp {X : Cx} {e : List Expr} {t t' : TA} (h : PA X e t) (hi : ∀ σ H Q, t' σ H Q → t σ H Q) : PA X e t' := ⟨fun pos pins s σ H Q I q => h.run pos pins s σ H Q I (hi _ _ _ q)⟩
theorem PS.imp {X : Cx} {e : Stmt} {t t' : TS} (h : PS X e t) (hi : ∀ Dn σ H, t' Dn σ H → t Dn σ H) : PS X e t' := ⟨fun pins s σ H Dn I q => h.run pins s σ H Dn I (hi _ _ _ q)⟩
theorem PSs.imp {X : Cx} {e : List Stmt} {t t' : TS} (h : PSs X e t) (hi : ∀ Dn σ H, t' Dn σ H → t Dn σ H) : PSs X e t' := ⟨fun pins s σ H Dn I q => h.run pins s σ H Dn I (hi _ _ _ q)⟩
end Fx
/-! Fx2: expressions, tests, arguments, calls. -/
namespace Fx
open PySem L2

/-! ### the makers -/
def mVar (i : Nat) : ME := fun env S => match env[i]? with | some (some d) => .ok d S | _ => .bad
def mC (d : D) : ME := fun _ S => .ok d S
def mBin (f : D → D → Sto → R D) (a b : ME) : ME := fun env S => (a env S).bind fun x S1 => (b env S1).bind fun y S2 => f x y S2
def mUn (f : D → Sto → R D) (a : ME) : ME := fun env S => (a env S).bind fun x S1 => f x S1
def isB (d : D) (S : Sto) : R Bool := match d with | .bl b => .ok b S | _ => .bad
def mTest (a : ME) : MT := fun env S => (a env S).bind isB
def mAnd (a b : MT) : MT := fun env S => (a env S).bind fun c S1 => if c = true then b env S1 else .ok false S1
def mOr (a b : MT) : MT := fun env S => (a env S).bind fun c S1 => if c = true then .ok true S1 else b env S1
def mNot (a : MT) : MT := fun env S => (a env S).bind fun c S1 => .ok (!c) S1
def mAndV (a b : ME) : ME := fun env S => (a env S).bind fun x S1 => (isB x S1).bind fun c S2 => if c = true then b env S2 else .ok (.bl false) S2
def mOrV (a b : ME) : ME := fun env S => (a env S).bind fun x S1 => (isB x S1).bind fun c S2 => if c = true then .ok (.bl true) S2 else b env S2
def mNotV (a : ME) : ME := fun env S => (a env S).bind fun x S1 => (isB x S1).bind fun c S2 => .ok (.bl (!c)) S2
def mIfE (t : MT) (a b : ME) : ME := fun env S => (t env S).bind fun c S1 => if c = true then a env S1 else b env S1
/-- a op b op' c -/
def mCh2 (f g : D → D → Sto → R D) (a b c : ME) : ME := fun env S => (a env S).bind fun x S1 => (b env S1).bind fun y S2 => (f x y S2).bind fun z S3 => (isB z S3).bind fun k S4 =>
  if k = true then (c env S4).bind fun w S5 => g y w S5 else .ok (.bl false) S4
def mCh3 (f g h : D → D → Sto → R D) (a b c d : ME) : ME := fun env S => (a env S).bind fun x S1 => (b env S1).bind fun y S2 => (f x y S2).bind fun z S3 => (isB z S3).bind fun k S4 =>
  if k = true then (c env S4).bind fun w S5 => (g y w S5).bind fun z2 S6 => (isB z2 S6).bind fun k2 S7 => if k2 = true then (d env S7).bind fun w2 S8 => h w w2 S8 else .ok (.bl false) S7 else .ok (.bl false) S4
def mNil : MA := fun _ S => .ok [] S
def mCons (a : ME) (r : MA) : MA := fun env S => (a env S).bind fun x S1 => (r env S1).bind fun xs S2 => .ok (x :: xs) S2
def mCall (f : List D → Sto → R D) (a : MA) : ME := fun env S => (a env S).bind f
def mTup (a : MA) : ME := fun env S => (a env S).bind fun xs S1 => if xs.length ≤ 1000 then .ok (.tup xs) S1 else .bad
/-- the most items of a list here -/
abbrev LIM : Nat := 100000
def newL (xs : List D) (S : Sto) : R D := if xs.length ≤ LIM then .ok (.ref S.length) (S ++ [.lst xs]) else .bad
def mLst (a : MA) : ME := fun env S => (a env S).bind newL
def insAt (S : Sto) (n : Nat) : Option (Nat × List (Str × D)) := match S[n]? with | some (.ins c fs) => some (c, fs) | _ => none
/-- o.f -/
def mFld (cs : List Nat) (f : Str) (o : ME) : ME := fun env S => (o env S).bind fun x S1 => match x with
  | .ref n => match insAt S1 n with
    | some (c, fs) => if c ∈ cs then match fs.lookup f with | some d => .ok d S1 | none => .bad else .bad
    | none => .bad
  | _ => .bad
/-- o.m(..): by the class -/
def mMeth (tb : List (Nat × (List D → Sto → R D))) (m : Str) (o : ME) (a : MA) : ME := fun env S => (o env S).bind fun x S1 => match x with
  | .ref n => match insAt S1 n with
    | some (c, fs) => match tb.lookup c, fs.lookup m with
      | some f, none => (a env S1).bind fun ds S2 => f (x :: ds) S2
      | _, _ => .bad
    | none => .bad
  | _ => .bad
/-- C(..) -/
def mMake (c : Nat) (f : List D → Sto → R D) (a : MA) : ME := fun env S => (a env S).bind fun ds S1 => (f (.ref S1.length :: ds) (S1 ++ [.ins c []])).bind fun d S2 => match d with
  | .non => .ok (.ref S1.length) S2
  | _ => .bad

/-- a def's promise -/
def spF (G : Cc) (n : Nat) (mf : List D → Sto → R D) : Sp := fun vs H Q E => ∃ ρ S ds, Rel G ρ S H ∧ Reps G ρ H ds vs ∧ ds.length = n ∧ PoR G (fun cls d _ H' => E cls d H') [] ρ H (QE G Q) (mf ds S)
theorem spF.len {G : Cc} {n : Nat} {mf : List D → Sto → R D} {vs : List V} {H : Hp} {Q : VK} {E : XK} (h : spF G n mf vs H Q E) : vs.length = n := by
  obtain ⟨ρ, S, ds, _, r, hl, _⟩ := h
  rw [← r.1, hl]

section
variable {X : Cx} {G : Cc} {W : WX} {a b c d e o : Expr} {ma mb mc md me mo : ME} {pos : Pos} {σ : L2.St}

/-! ### names, constants -/
theorem fe_var (i : Nat) {x : Str} (hN : X.N[i]? = some x := by rfl) (hv : Vis X.env.scope x := by first | exact Or.inl rfl | exact Or.inr (Or.inl rfl) | exact Or.inr (Or.inr rfl)) (hd : (x == ("__debug__" : Str)) = false := by decide)
    (hcd : (x == ("__classdict__" : Str)) = false := by decide) : PE X (.Name x pos) (tE G W (mVar i)) := by
  refine PE.imp (pe_var hN hv hd hcd) fun σ H Q ⟨ρ, S, env, R, E, P⟩ => ?_
  unfold mVar at P
  split at P
  · rename_i d hd
    obtain ⟨v, h1, h2⟩ := E.2 i d hd
    exact ⟨v, h1, P.now R v h2⟩
  · exact P.elim
theorem fe_c {v : V} {dd : D} (h : PE X e (tC v)) (hr : ∀ ρ H, Rep G ρ H dd v) : PE X e (tE G W (mC dd)) :=
  PE.imp h fun σ H Q ⟨ρ, S, env, R, E, P⟩ => P.now R v (hr ρ H)
theorem fe_int {i : Int} {j : Nat} : PE X (.Constant (.int i) j pos) (tE G W (mC (.int i))) := fe_c pe_int fun _ _ => .int i
theorem fe_bl {k : Bool} {j : Nat} : PE X (.Constant (.bool k) j pos) (tE G W (mC (.bl k))) := fe_c pe_bl fun _ _ => .bl k
theorem fe_non {j : Nat} : PE X (.Constant .none j pos) (tE G W (mC .non)) := fe_c pe_non fun _ _ => .non
theorem fe_str {x : Str} {j : Nat} : PE X (.Constant (.str x) j pos) (tE G W (mC (.str x))) := fe_c pe_str fun _ _ => .str x
/-- a module's number -/
theorem fe_globI {x : Str} {i : Int} {t : Tok} (hm : X.mg x = some (.int i t)) (hg : Gl X x := by rfl) (hd : (x == ("__debug__" : Str)) = false := by decide) : PE X (.Name x pos) (tE G W (mC (.int i))) :=
  fe_c (pe_glob hg hm (v := .int i) ⟨t, rfl⟩ hd) fun _ _ => .int i

/-! ### two expressions in a row -/
theorem two {ma mb : ME} {f : D → D → Sto → R D} {H : Hp} {Q : VK} {r : R2} (h : tE G W (mBin f ma mb) σ H Q)
    (hf : ∀ ρ S H2 x y vx vy, Rel G ρ S H2 → Rep G ρ H2 x vx → Rep G ρ H2 y vy → PoR G W σ ρ H2 (QE G Q) (f x y S) → r vx vy H2 Q) : tOp r (tE G W ma) (tE G W mb) σ H Q := by
  obtain ⟨ρ, S, env, R, E, P⟩ := h
  refine ⟨ρ, S, env, R, E, (PoR.bind P).imp fun x S1 ρ1 H1 e1 R1 P1 vx rx => ?_⟩
  refine ⟨ρ1, S1, env, R1, E.ext e1, (PoR.bind P1).imp fun y S2 ρ2 H2 e2 R2 P2 vy ry => ?_⟩
  exact hf ρ2 S2 H2 x y vx vy R2 (rx.ext e2) ry P2
/-- the operation f does what r asks -/
def OpF (G : Cc) (r : R2) (f : D → D → Sto → R D) : Prop := ∀ (W : WX) (σ : L2.St) (ρ : List Addr) (S : Sto) (H : Hp) (x y : D) (vx vy : V) (Q : VK), Rel G ρ S H → Rep G ρ H x vx → Rep G ρ H y vy → PoR G W σ ρ H (QE G Q) (f x y S) → r vx vy H Q
def UnF (G : Cc) (r : V → Hp → VK → Prop) (f : D → Sto → R D) : Prop := ∀ (W : WX) (σ : L2.St) (ρ : List Addr) (S : Sto) (H : Hp) (x : D) (vx : V) (Q : VK), Rel G ρ S H → Rep G ρ H x vx → PoR G W σ ρ H (QE G Q) (f x S) → r vx H Q
def CallF (G : Cc) (r : List V → Hp → VK → Prop) (f : List D → Sto → R D) : Prop := ∀ (W : WX) (σ : L2.St) (ρ : List Addr) (S : Sto) (H : Hp) (xs : List D) (vs : List V) (Q : VK), Rel G ρ S H → Reps G ρ H xs vs → PoR G W σ ρ H (QE G Q) (f xs S) → r vs H Q
theorem fe_op {op : Operator} {r : R2} {f : D → D → Sto → R D} (ho : OpR X (binaryOp op) r) (hf : OpF G r f) (ha : PE X a (tE G W ma)) (hb : PE X b (tE G W mb)) : PE X (.BinOp a op b pos) (tE G W (mBin f ma mb)) :=
  PE.imp (pe_op ho ha hb) fun σ H Q h => two h fun ρ S H2 x y vx vy R rx ry P => hf W σ ρ S H2 x y vx vy Q R rx ry P
theorem fe_ix {r : R2} {f : D → D → Sto → R D} (ho : IxR X r) (hf : OpF G r f) (ha : PE X a (tE G W ma)) (hb : PE X b (tE G W mb)) (hs : PlainIx b := by intro _ _; rfl) : PE X (.Subscript a b pos) (tE G W (mBin f ma mb)) :=
  PE.imp (pe_ix ho ha hb hs) fun σ H Q h => two h fun ρ S H2 x y vx vy R rx ry P => hf W σ ρ S H2 x y vx vy Q R rx ry P
theorem fe_un {op : UnaryOp} {r : V → Hp → VK → Prop} {f : D → Sto → R D} (ho : UnR X (unaryOp op) r) (hf : UnF G r f) (ha : PE X a (tE G W ma)) : PE X (.UnaryOp op a pos) (tE G W (mUn f ma)) :=
  PE.imp (pe_un ho ha) fun σ H Q ⟨ρ, S, env, R, E, P⟩ => ⟨ρ, S, env, R, E, (PoR.bind P).imp fun x S1 ρ1 H1 e1 R1 P1 vx rx => hf W σ ρ1 S1 H1 x vx Q R1 rx P1⟩
theorem fe_cmp {op : CmpOp} {r : R2} {f : D → D → Sto → R D} (ho : OpR X (compareOp op) r) (hf : OpF G r f) (ha : PE X a (tE G W ma)) (hb : PE X b (tE G W mb)) (hm : behindInMarks op b = false := by first | exact nomark _ | rfl) : PE X (.Compare a [op] [b] pos) (tE G W (mBin f ma mb)) :=
  PE.imp (pe_cmpR ho ha hb hm) fun σ H Q h => two h fun ρ S H2 x y vx vy R rx ry P => hf W σ ρ S H2 x y vx vy Q R rx ry P

/-! ### tests -/
theorem of_test {m : ME} {H : Hp} {Q : Bool → Hp → Prop} (h : tT G W (mTest m) σ H Q) : tE G W m σ H fun x H' => ∃ k, x = V.bl k ∧ Q k H' := by
  obtain ⟨ρ, S, env, R, E, P⟩ := h
  refine ⟨ρ, S, env, R, E, (PoR.bind P).imp fun x S1 ρ1 H1 e1 R1 P1 vx rx => ?_⟩
  cases x with
  | bl k => cases rx; exact ⟨k, rfl, P1.now R1⟩
  | _ => exact P1.elim
theorem ft_val (h : PE X e (tE G W me)) (he : ∀ whole, isTrue e X.env whole = (do let v ← whole; standAt e.pos; holding [v] (truthy v)) := by intro _; rfl) : PT X e (tT G W (mTest me)) :=
  PT.imp (pt_val h he) fun σ H Q h => of_test h
theorem ft_cmp {op : CmpOp} {r : R2} {f : D → D → Sto → R D} (ho : OpR X (compareOp op) r) (hf : OpF G r f) (ha : PE X a (tE G W ma)) (hb : PE X b (tE G W mb)) (hm : behindInMarks op b = false := by first | exact nomark _ | rfl) : PT X (.Compare a [op] [b] pos) (tT G W (mTest (mBin f ma mb))) :=
  PT.imp (pt_cmpR ho ha hb hm) fun σ H Q h => two (of_test h) fun ρ S H2 x y vx vy R rx ry P => hf W σ ρ S H2 x y vx vy _ R rx ry P
theorem ft_not {m : MT} (h : PT X a (tT G W m)) : PT X (.UnaryOp .Not a pos) (tT G W (mNot m)) :=
  PT.imp (pt_not h) fun σ H Q ⟨ρ, S, env, R, E, P⟩ => ⟨ρ, S, env, R, E, (PoR.bind P).imp fun k S1 ρ1 H1 e1 R1 P1 => P1.now R1⟩
theorem tT_if {m1 m2 : MT} {ts : TT} {H : Hp} {Q : Bool → Hp → Prop} {F : Bool → Hp → Prop} (h : ∃ ρ S env, Rel G ρ S H ∧ EnvR G ρ H env σ ∧ PoR G W σ ρ H (fun k S1 ρ1 H1 => Rel G ρ1 S1 H1 → EnvR G ρ1 H1 env σ → F k H1) (m1 env S)) : tT G W m1 σ H F := by
  obtain ⟨ρ, S, env, R, E, P⟩ := h
  exact ⟨ρ, S, env, R, E, P.imp fun k S1 ρ1 H1 e1 R1 P1 => P1 R1 (E.ext e1)⟩
theorem fw_and {rest : List Expr} {m1 m2 : MT} (ha : PT X a (tT G W m1)) (hb : PW X (.BoolOp .And (b :: rest) pos) (tT G W m2)) : PW X (.BoolOp .And (a :: b :: rest) pos) (tT G W (mAnd m1 m2)) := by
  refine PW.imp (pw_and ha hb) fun σ H Q ⟨ρ, S, env, R, E, P⟩ => ⟨ρ, S, env, R, E, (PoR.bind P).imp fun k S1 ρ1 H1 e1 R1 P1 => ?_⟩
  cases k with
  | true => show tT G W m2 σ H1 Q; exact ⟨ρ1, S1, env, R1, E.ext e1, P1⟩
  | false => show Q false H1; exact P1.now R1
theorem fw_or {rest : List Expr} {m1 m2 : MT} (ha : PT X a (tT G W m1)) (hb : PW X (.BoolOp .Or (b :: rest) pos) (tT G W m2)) : PW X (.BoolOp .Or (a :: b :: rest) pos) (tT G W (mOr m1 m2)) := by
  refine PW.imp (pw_or ha hb) fun σ H Q ⟨ρ, S, env, R, E, P⟩ => ⟨ρ, S, env, R, E, (PoR.bind P).imp fun k S1 ρ1 H1 e1 R1 P1 => ?_⟩
  cases k with
  | true => show Q true H1; exact P1.now R1
  | false => show tT G W m2 σ H1 Q; exact ⟨ρ1, S1, env, R1, E.ext e1, P1⟩
theorem fw_and1 {m : MT} (ha : PT X a (tT G W m)) : PW X (.BoolOp .And [a] pos) (tT G W m) := pw_and1 ha
theorem fw_or1 {m : MT} (ha : PT X a (tT G W m)) : PW X (.BoolOp .Or [a] pos) (tT G W m) := pw_or1 ha
theorem ft_w {m : MT} (h : PW X e (tT G W m)) : PT X e (tT G W m) := h.pt
/-! .. as values -/
theorem isB_bl {x : D} {vx : V} {ρ : List Addr} {H : Hp} {S : Sto} {α : Type} {f : Bool → Sto → R α} {Q : α → Sto → List Addr → Hp → Prop} (rx : Rep G ρ H x vx) (P : PoR G W σ ρ H Q ((isB x S).bind f)) : ∃ k, vx = .bl k ∧ x = .bl k ∧ PoR G W σ ρ H Q (f k S) := by
  cases x with
  | bl k => cases rx; exact ⟨k, rfl, rfl, P⟩
  | _ => exact P.elim
theorem fe_and {rest : List Expr} (ha : PE X a (tE G W ma)) (hb : PE X (.BoolOp .And (b :: rest) pos) (tE G W mb)) : PE X (.BoolOp .And (a :: b :: rest) pos) (tE G W (mAndV ma mb)) := by
  refine PE.imp (pe_and ha hb) fun σ H Q ⟨ρ, S, env, R, E, P⟩ => ⟨ρ, S, env, R, E, (PoR.bind P).imp fun x S1 ρ1 H1 e1 R1 P1 vx rx => ?_⟩
  obtain ⟨k, rfl, rfl, P2⟩ := isB_bl rx P1
  refine ⟨k, rfl, ?_⟩
  cases k with
  | true => refine iteT ?_; exact ⟨ρ1, S1, env, R1, E.ext e1, P2⟩
  | false => refine iteF ?_; exact P2.now R1 _ (.bl _)
theorem fe_or {rest : List Expr} (ha : PE X a (tE G W ma)) (hb : PE X (.BoolOp .Or (b :: rest) pos) (tE G W mb)) : PE X (.BoolOp .Or (a :: b :: rest) pos) (tE G W (mOrV ma mb)) := by
  refine PE.imp (pe_or ha hb) fun σ H Q ⟨ρ, S, env, R, E, P⟩ => ⟨ρ, S, env, R, E, (PoR.bind P).imp fun x S1 ρ1 H1 e1 R1 P1 vx rx => ?_⟩
  obtain ⟨k, rfl, rfl, P2⟩ := isB_bl rx P1
  refine ⟨k, rfl, ?_⟩
  cases k with
  | true => refine iteT ?_; exact P2.now R1 _ (.bl _)
  | false => refine iteF ?_; exact ⟨ρ1, S1, env, R1, E.ext e1, P2⟩
theorem fe_one {op : BoolOp} (h : PE X a (tE G W ma)) : PE X (.BoolOp op [a] pos) (tE G W ma) := pe_one h
theorem fe_not (ha : PE X a (tE G W ma)) : PE X (.UnaryOp .Not a pos) (tE G W (mNotV ma)) := by
  refine PE.imp (pe_not ha) fun σ H Q ⟨ρ, S, env, R, E, P⟩ => ⟨ρ, S, env, R, E, (PoR.bind P).imp fun x S1 ρ1 H1 e1 R1 P1 vx rx => ?_⟩
  obtain ⟨k, rfl, rfl, P2⟩ := isB_bl rx P1
  exact ⟨k, rfl, P2.now R1 _ (.bl _)⟩
theorem fe_if {m : MT} (hc : PT X c (tT G W m)) (ha : PE X a (tE G W ma)) (hb : PE X b (tE G W mb)) : PE X (.IfExp c a b pos) (tE G W (mIfE m ma mb)) := by
  refine PE.imp (pe_ifExp hc ha hb) fun σ H Q ⟨ρ, S, env, R, E, P⟩ => ⟨ρ, S, env, R, E, (PoR.bind P).imp fun k S1 ρ1 H1 e1 R1 P1 => ?_⟩
  cases k with
  | true => show tE G W ma σ H1 Q; exact ⟨ρ1, S1, env, R1, E.ext e1, P1⟩
  | false => show tE G W mb σ H1 Q; exact ⟨ρ1, S1, env, R1, E.ext e1, P1⟩
/-! chains -/
theorem ch2 {f g : D → D → Sto → R D} {r r' : R2} (hf : OpF G r f) (hg : OpF G r' g) {H : Hp} {Q : VK} (h : tE G W (mCh2 f g ma mb mc) σ H Q) : tChain r r' (tE G W ma) (tE G W mb) (tE G W mc) σ H Q := by
  obtain ⟨ρ, S, env, R, E, P⟩ := h
  refine ⟨ρ, S, env, R, E, (PoR.bind P).imp fun x S1 ρ1 H1 e1 R1 P1 vx rx => ?_⟩
  refine ⟨ρ1, S1, env, R1, E.ext e1, (PoR.bind P1).imp fun y S2 ρ2 H2 e2 R2 P2 vy ry => ?_⟩
  refine hf W σ ρ2 S2 H2 x y vx vy _ R2 (rx.ext e2) ry ((PoR.bind P2).imp fun z S3 ρ3 H3 e3 R3 P3 vz rz => ?_)
  obtain ⟨k, rfl, rfl, P4⟩ := isB_bl rz P3
  refine ⟨k, rfl, ?_⟩
  cases k with
  | true =>
    refine iteT ?_
    refine ⟨ρ3, S3, env, R3, ((E.ext e1).ext e2).ext e3, (PoR.bind P4).imp fun w S5 ρ5 H5 e5 R5 P5 vw rw' => ?_⟩
    exact hg W σ ρ5 S5 H5 y w vy vw Q R5 ((ry.ext e3).ext e5) rw' P5
  | false => refine iteF ?_; exact P4.now R3 _ (.bl _)
theorem fe_ch2 {op op' : CmpOp} {r r' : R2} {f g : D → D → Sto → R D} (ho : OpR X (compareOp op) r) (ho' : OpR X (compareOp op') r') (hf : OpF G r f) (hg : OpF G r' g) (ha : PE X a (tE G W ma)) (hb : PE X b (tE G W mb)) (hc : PE X c (tE G W mc))
    (hm : lastMarks [op, op'] [b, c] = false := by with_unfolding_all rfl) : PE X (.Compare a [op, op'] [b, c] pos) (tE G W (mCh2 f g ma mb mc)) := PE.imp (pe_chain ho ho' ha hb hc hm) fun σ H Q h => ch2 hf hg h
theorem ft_ch2 {op op' : CmpOp} {r r' : R2} {f g : D → D → Sto → R D} (ho : OpR X (compareOp op) r) (ho' : OpR X (compareOp op') r') (hf : OpF G r f) (hg : OpF G r' g) (ha : PE X a (tE G W ma)) (hb : PE X b (tE G W mb)) (hc : PE X c (tE G W mc))
    (hm : lastMarks [op, op'] [b, c] = false := by with_unfolding_all rfl) : PT X (.Compare a [op, op'] [b, c] pos) (tT G W (mTest (mCh2 f g ma mb mc))) := PT.imp (pt_chain ho ho' ha hb hc hm) fun σ H Q h => ch2 hf hg (of_test h)

/-! ### arguments -/
theorem fa_nil : PA X [] (tA G W mNil) := PA.imp pa_nil fun σ H Q ⟨ρ, S, env, R, E, P⟩ => P.now R [] Reps.nil
theorem fa_cons {es : List Expr} {m : MA} (ha : PE X e (tE G W me)) (hr : PA X es (tA G W m)) (hs : starEach (e :: es) X.env = (false, eval e X.env) :: starEach es X.env := by rfl) : PA X (e :: es) (tA G W (mCons me m)) := by
  refine PA.imp (pa_cons ha hr hs) fun σ H Q ⟨ρ, S, env, R, E, P⟩ => ⟨ρ, S, env, R, E, (PoR.bind P).imp fun x S1 ρ1 H1 e1 R1 P1 vx rx => ?_⟩
  refine ⟨ρ1, S1, env, R1, E.ext e1, (PoR.bind P1).imp fun xs S2 ρ2 H2 e2 R2 P2 vs rs => ?_⟩
  exact P2.now R2 (vx :: vs) (.cons (rx.ext e2) rs)

/-! ### displays -/
theorem rep_tup {ρ : List Addr} {H : Hp} {p : Addr} {ds : List D} {vs : List V} (hp : H p = none) (r : Reps G ρ H ds vs) : Rep G ρ (upd H p (.tup vs)) (.tup ds) (.ref p) :=
  .tup (SqT.of upd_same) r.1 (r.ext (Ext.fresh hp)).2
theorem fe_tup {es : List Expr} {m : MA} {x1 : Nat} (h : PA X es (tA G W m)) : PE X (.Tuple es x1 pos) (tE G W (mTup m)) := by
  refine PE.imp (pe_tup h) fun σ H Q ⟨ρ, S, env, R, E, P⟩ => ⟨ρ, S, env, R, E, (PoR.bind P).imp fun xs S1 ρ1 H1 e1 R1 P1 vs rs => ?_⟩
  by_cases hl : xs.length ≤ 1000
  · rw [if_pos hl] at P1
    refine ⟨by rw [← rs.1]; exact Nat.le_trans hl (by decide), fun p hp => ?_⟩
    exact P1 ρ1 _ (Ext.fresh hp) (R1.fresh hp) (.ref p) (rep_tup hp rs)
  · rw [if_neg hl] at P1
    exact P1.elim
theorem new_lst {ρ : List Addr} {S : Sto} {H : Hp} {ds : List D} {vs : List V} {p : Addr} {Q : VK} (R : Rel G ρ S H) (r : Reps G ρ H ds vs) (P : PoR G W σ ρ H (QE G Q) (newL ds S)) (hp : H p = none) : Q (.ref p) (upd H p (.lst vs)) := by
  unfold newL at P
  by_cases hl : ds.length ≤ LIM
  · rw [if_pos hl] at P
    obtain ⟨R', e⟩ := R.alloc (u := .lst vs) (o := .lst ds) hp fun e => ⟨vs, upd_same, r.ext e⟩
    exact P _ _ e R' _ (.ref (by rw [← R.len]; simp))
  · rw [if_neg hl] at P
    exact P.elim
theorem newL_size {ρ : List Addr} {S : Sto} {H : Hp} {ds : List D} {Q : D → Sto → List Addr → Hp → Prop} (P : PoR G W σ ρ H Q (newL ds S)) : ds.length ≤ LIM := by
  unfold newL at P
  by_cases hl : ds.length ≤ LIM
  · exact hl
  · rw [if_neg hl] at P
    exact P.elim
theorem lim_size {n : Nat} (h : n ≤ LIM) : n ≤ sizeLine := Nat.le_trans h (by decide)
theorem fe_lst {es : List Expr} {m : MA} (h : PA X es (tA G W m)) : PE X (.List es pos) (tE G W (mLst m)) := by
  refine PE.imp (pe_lst h) fun σ H Q ⟨ρ, S, env, R, E, P⟩ => ⟨ρ, S, env, R, E, (PoR.bind P).imp fun xs S1 ρ1 H1 e1 R1 P1 vs rs => ?_⟩
  exact ⟨by rw [← rs.1]; exact lim_size (newL_size P1), fun p hp => new_lst R1 rs P1 hp⟩

/-! ### calls of built-ins -/
theorem fe_callB {id : String} {x : Str} {r : List V → Hp → VK → Prop} {f : List D → Sto → R D} {es : List Expr} {m : MA} {p : Pos} (hc : CallR X (.builtin id) r) (hf : CallF G r f) (hm : X.mg x = none) (hv : bootBuiltins x = some (.builtin id)) (ha : PA X (e :: es) (tA G W m)) (hg : Gl X x := by rfl) (hn : x ≠ "__name__" := by decide) (hdb : (x == ("__debug__" : Str)) = false := by decide)
    (he : starEach (e :: es) X.env = (false, eval e X.env) :: starEach es X.env := by rfl) (hpl : (backTo pos (starEach es X.env)).any (·.1) = false := by rfl) : PE X (.Call (.Name x p) (e :: es) [] pos) (tE G W (mCall f m)) := by
  refine PE.imp (pe_callB hc hg hm hv ha hn hdb he hpl) fun σ H Q ⟨ρ, S, env, R, E, P⟩ => ⟨ρ, S, env, R, E, (PoR.bind P).imp fun xs S1 ρ1 H1 e1 R1 P1 vs rs => ?_⟩
  exact hf W σ ρ1 S1 H1 xs vs Q R1 rs P1
theorem fe_callTy {T : String} {x : Str} {r : List V → Hp → VK → Prop} {f : List D → Sto → R D} {es : List Expr} {m : MA} {p : Pos} (hc : CallR X (.type T) r) (hf : CallF G r f) (hm : X.mg x = none) (hv : bootBuiltins x = some (.type T)) (ha : PA X (e :: es) (tA G W m)) (hg : Gl X x := by rfl) (hn : x ≠ "__name__" := by decide) (hdb : (x == ("__debug__" : Str)) = false := by decide)
    (he : starEach (e :: es) X.env = (false, eval e X.env) :: starEach es X.env := by rfl) (hpl : (backTo pos (starEach es X.env)).any (·.1) = false := by rfl) : PE X (.Call (.Name x p) (e :: es) [] pos) (tE G W (mCall f m)) := by
  refine PE.imp (pe_callTy hc hg hm hv ha hn hdb he hpl) fun σ H Q ⟨ρ, S, env, R, E, P⟩ => ⟨ρ, S, env, R, E, (PoR.bind P).imp fun xs S1 ρ1 H1 e1 R1 P1 vs rs => ?_⟩
  exact hf W σ ρ1 S1 H1 xs vs Q R1 rs P1

/-! ### own defs -/
theorem PoR.wish {W' : WX} {σ σ' : L2.St} {α : Type} {ρ : List Addr} {H : Hp} {Q : α → Sto → List Addr → Hp → Prop} {r : R α} (hW : ∀ c H', W (.ref (G.ca c)) none σ H' → W' (.ref (G.ca c)) none σ' H') (h : PoR G W σ ρ H Q r) : PoR G W' σ' ρ H Q r := by
  cases r with
  | ok a S => exact h
  | exc c S => exact fun ρ' H' e R => hW c H' (h ρ' H' e R)
  | bad => exact h
/-- a def as the callers know it: its promise, its name, how its arguments bind -/
structure Fn (X : Cx) (G : Cc) (x : Str) (n : Nat) (mf : List D → Sto → R D) : Prop where
  ex : ∃ (f : Addr) (fd : FuncData) (ps : List Str) (k : Nat), FnOk X.prog X.w X.K X.mg X.base (L2.CX X.prog X.w) k f fd ps (spF G n mf) ∧ Room k X.A ∧ X.mg x = some (.ref f) ∧ PySem.W.keepIn X.K (.ref f) = true ∧ Binds X.K fd ps []
theorem fe_call {x : Str} {n : Nat} {f : List D → Sto → R D} {es : List Expr} {m : MA} {p : Pos} (F : Fn X G x n f) (tk : Takes X W) (hn : ∀ env S ds S', m env S = .ok ds S' → ds.length = n) (ha : PA X (e :: es) (tA G W m)) (hg : Gl X x := by rfl) (hdb : (x == ("__debug__" : Str)) = false := by decide)
    (he : starEach (e :: es) X.env = (false, eval e X.env) :: starEach es X.env := by rfl) (hpl : (backTo pos (starEach es X.env)).any (·.1) = false := by rfl) : PE X (.Call (.Name x p) (e :: es) [] pos) (tE G W (mCall f m)) := by
  obtain ⟨fa, fd, ps, k, F1, hr, hm, hk, hb⟩ := F.ex
  refine PE.imp (pe_callS F1 hr hg hm hk hb (fun σ => passAt tk σ) ha hdb he hpl) fun σ H Q ⟨ρ, S, env, R, E, P⟩ => ⟨ρ, S, env, R, E, ?_⟩
  have hl := hn env S
  revert hl P
  show PoR G W σ ρ H (QE G Q) ((m env S).bind f) → _ → _
  intro P hl
  cases hm : m env S with
  | ok ds S1 =>
    rw [hm] at P hl
    intro ρ1 H1 e1 R1 vs rs
    exact ⟨ρ1, S1, ds, R1, rs, hl ds S1 rfl, (PoR.start e1 P).wish fun c H' h => h⟩
  | exc c S1 => rw [hm] at P; exact P
  | bad => rw [hm] at P; exact P
end
end Fx
/-! Fx3: targets, statements, loops, comprehensions, objects. -/
namespace Fx
open PySem L2

/-! ### the makers -/
abbrev MG := D → En → Sto → R En
abbrev MGs := List D → En → Sto → R En
def gN (i : Nat) : MG := fun d env S => .ok (env.set i (some d)) S
def gNl : MGs := fun ds env S => match ds with | [] => .ok env S | _ => .bad
def gCn (g : MG) (r : MGs) : MGs := fun ds env S => match ds with | d :: ds' => (g d env S).bind fun env1 S1 => r ds' env1 S1 | [] => .bad
def gTp (n : Nat) (r : MGs) : MG := fun d env S => match d with | .tup ds => if ds.length = n then r ds env S else .bad | _ => .bad
def toS (env : En) (r : R En) : RS := match r with | .ok e S => .nx e S | .exc c S => .exc c env S | .bad => .bad
def mSkip : MS := fun env S => .nx env S
def mSeq (m1 m2 : MS) : MS := fun env S => match m1 env S with | .nx e S1 => m2 e S1 | r => r
def mExp (m : ME) : MS := fun env S => match m env S with | .ok _ S1 => .nx env S1 | .exc c S1 => .exc c env S1 | .bad => .bad
def mRet (m : ME) : MS := fun env S => match m env S with | .ok d S1 => .rt d S1 | .exc c S1 => .exc c env S1 | .bad => .bad
def mRetN : MS := fun _ S => .rt .non S
def mAsg (m : ME) (g : MG) : MS := fun env S => toS env ((m env S).bind fun d S1 => g d env S1)
def mIf (t : MT) (a b : MS) : MS := fun env S => match t env S with | .ok c S1 => if c = true then a env S1 else b env S1 | .exc c S1 => .exc c env S1 | .bad => .bad
def mPar2 (i j : Nat) (a : MA) : MS := fun env S => match a env S with | .ok ds S1 => (match ds with | [d, e] => .nx ((env.set i (some d)).set j (some e)) S1 | _ => .bad) | .exc c S1 => .exc c env S1 | .bad => .bad
def mPar3 (i j l : Nat) (a : MA) : MS := fun env S => match a env S with | .ok ds S1 => (match ds with | [d, e, f] => .nx (((env.set i (some d)).set j (some e)).set l (some f)) S1 | _ => .bad) | .exc c S1 => .exc c env S1 | .bad => .bad
def mRaise (c : Nat) : MS := fun env S => .exc c env S
def mNever : MS := fun _ _ => .bad
/-- while: with fuel -/
def whileM (t : MT) (b : MS) : Nat → En → Sto → RS
  | 0, _, _ => .bad
  | n + 1, env, S => match t env S with
    | .ok c S1 => if c = true then match b env S1 with
        | .nx e S2 => whileM t b n e S2
        | .ct e S2 => whileM t b n e S2
        | .bk e S2 => .nx e S2
        | .rt d S2 => .rt d S2
        | .exc c e S2 => .exc c e S2
        | .bad => .bad
      else .nx env S1
    | .exc c S1 => .exc c env S1
    | .bad => .bad
def mWhile (fuel : Nat) (t : MT) (b : MS) : MS := whileM t b fuel
/-- what is walked: at a turn it ends, or gives a thing -/
abbrev Src := Sto → Nat → Option (Option D)
def forM (src : Src) (g : MG) (b : MS) : Nat → Nat → En → Sto → RS
  | 0, _, _, _ => .bad
  | f + 1, i, env, S => match src S i with
    | some none => .nx env S
    | some (some x) => match g x env S with
      | .ok env1 S1 => match b env1 S1 with
        | .nx e S2 => forM src g b f (i + 1) e S2
        | .ct e S2 => forM src g b f (i + 1) e S2
        | .bk e S2 => .nx e S2
        | .rt d S2 => .rt d S2
        | .exc c e S2 => .exc c e S2
        | .bad => .bad
      | _ => .bad
    | none => .bad
abbrev MI := En → Sto → R (Nat × Src)
def mFor (it : MI) (g : MG) (b : MS) : MS := fun env S => match it env S with
  | .ok s S1 => forM s.2 g b s.1 0 env S1
  | .exc c S1 => .exc c env S1
  | .bad => .bad
def wipeE (env : En) : List Nat → En
  | [] => env
  | v :: vs => (wipeE env vs).set v none
def lcM (n : Nat) (src : Src) (g : MG) (t : MT) (e : ME) (env0 : En) : Nat → Nat → Sto → R Unit
  | 0, _, _ => .bad
  | f + 1, i, S => match src S i with
    | some none => .ok () S
    | some (some x) => match g x env0 S with
      | .ok env1 S1 => match t env1 S1 with
        | .ok c S2 => if c = true then match e env1 S2 with
            | .ok y S3 => match S3[n]? with
              | some (.lst acc) => if acc.length < LIM then lcM n src g t e env0 f (i + 1) (S3.set n (.lst (acc ++ [y]))) else .bad
              | _ => .bad
            | _ => .bad
          else lcM n src g t e env0 f (i + 1) S2
        | _ => .bad
      | _ => .bad
    | none => .bad
def mYes : MT := fun _ S => .ok true S
def mLc (vs : List Nat) (it : MI) (g : MG) (t : MT) (e : ME) : ME := fun env S => (it env S).bind fun s S1 => (lcM S1.length s.2 g t e (wipeE env vs) s.1 0 (S1 ++ [.lst []])).bind fun _ S2 => .ok (.ref S1.length) S2
/-- what is walked, by its expression -/
def getL (S : Sto) (n : Nat) : Option (List D) := match S[n]? with | some (.lst xs) => some xs | _ => none
def getM (S : Sto) (n : Nat) : Option (List D) := match S[n]? with | some (.lst xs) => some xs | _ => none
def srcL (n : Nat) : Src := fun S i => match getL S n with | some xs => some xs[i]? | none => none
def srcT (ds : List D) : Src := fun _ i => some ds[i]?
def srcR (lo c : Int) (n : Nat) : Src := fun _ i => some (if i < n then some (.int (lo + (i : Nat) * c)) else none)
def srcE (n : Nat) : Src := fun S i => match getL S n with | some xs => some (xs[i]?.map fun x => .tup [.int (i : Nat), x]) | none => none
def srcZ (n m : Nat) : Src := fun S i => match getL S n, getL S m with
  | some xs, some ys => (match xs[i]?, ys[i]? with | some x, some y => some (some (.tup [x, y])) | _, _ => some none)
  | _, _ => none
/-- a list or a tuple -/
def iSeq (m : ME) : MI := fun env S => (m env S).bind fun d S1 => match d with
  | .ref n => (match getL S1 n with | some xs => .ok (xs.length + 1, srcL n) S1 | none => .bad)
  | .tup ds => .ok (ds.length + 1, srcT ds) S1
  | _ => .bad
def small (i : Int) : Bool := decide (-(2 ^ 62) ≤ i ∧ i < 2 ^ 62)
def iRg1 (a : MA) : MI := fun env S => (a env S).bind fun ds S1 => match ds with
  | [.int j] => if small j = true then .ok (j.toNat + 1, srcR 0 1 j.toNat) S1 else .bad
  | _ => .bad
def iRg2 (a : MA) : MI := fun env S => (a env S).bind fun ds S1 => match ds with
  | [.int i, .int j] => if small i = true ∧ small j = true then .ok ((j - i).toNat + 1, srcR i 1 (j - i).toNat) S1 else .bad
  | _ => .bad
/-- range(i, j, c) -/
def rngN (i j c : Int) : Nat := (Builtin.Range.rangeSize i j c).toNat
def iRg3 (a : MA) : MI := fun env S => (a env S).bind fun ds S1 => match ds with
  | [.int i, .int j, .int c] => if c ≠ 0 ∧ c.natAbs < 1000 ∧ i.natAbs < 1000000 ∧ j.natAbs < 1000000 then .ok (rngN i j c + 1, srcR i c (rngN i j c)) S1 else .bad
  | _ => .bad
def iEn (a : MA) : MI := fun env S => (a env S).bind fun ds S1 => match ds with
  | [.ref n] => (match getL S1 n with | some xs => .ok (xs.length + 1, srcE n) S1 | none => .bad)
  | _ => .bad
def iZp (a : MA) : MI := fun env S => (a env S).bind fun ds S1 => match ds with
  | [.ref n, .ref m] => (match getL S1 n, getL S1 m with | some xs, some ys => .ok (xs.length + 1, srcZ n m) S1 | _, _ => .bad)
  | _ => .bad

/-! ### readings -/
def QG (G : Cc) (vs : List Nat) (σ : L2.St) (Q : L2.St → Hp → Prop) : En → Sto → List Addr → Hp → Prop := fun env _ ρ H => ∀ σ', EnvR G ρ H env σ' → wipe σ' vs = wipe σ vs → Q σ' H
def tG (G : Cc) (W : WX) (vs : List Nat) (m : MG) : TG := fun v σ H Q => ∃ ρ S env d, Rel G ρ S H ∧ EnvR G ρ H env σ ∧ Rep G ρ H d v ∧ PoR G W σ ρ H (QG G vs σ Q) (m d env S)
def tGs (G : Cc) (W : WX) (vs : List Nat) (m : MGs) : TGs := fun ws σ H Q => ∃ ρ S env ds, Rel G ρ S H ∧ EnvR G ρ H env σ ∧ Reps G ρ H ds ws ∧ PoR G W σ ρ H (QG G vs σ Q) (m ds env S)
structure ItOk (G : Cc) (ρ0 : List Addr) (H0 : Hp) (J : It) (src : Src) : Prop where
  stop : ∀ (ρ : List Addr) (S : Sto) (H : Hp) (i : Nat), Ext G ρ0 H0 ρ H → Rel G ρ S H → src S i = some none → J.stop i H
  go : ∀ (ρ : List Addr) (S : Sto) (H : Hp) (i : Nat) (d : D), Ext G ρ0 H0 ρ H → Rel G ρ S H → src S i = some (some d) → J.go i H
  yld : ∀ (ρ : List Addr) (S : Sto) (H : Hp) (i : Nat) (d : D), Ext G ρ0 H0 ρ H → Rel G ρ S H → src S i = some (some d) → ∀ x H', J.yld i H x H' → Ext G ρ H ρ H' ∧ Rel G ρ S H' ∧ Rep G ρ H' d x
def tI (G : Cc) (W : WX) (m : MI) : TI := fun σ H Rr => ∃ ρ S env, Rel G ρ S H ∧ EnvR G ρ H env σ ∧ PoR G W σ ρ H (fun s _ ρ' H' => ∀ J, ItOk G ρ' H' J s.2 → Rr J H') (m env S)
theorem PG.imp {X : Cx} {e : Expr} {t t' : TG} (h : PG X e t) (hi : ∀ v σ H Q, t' v σ H Q → t v σ H Q) : PG X e t' := ⟨fun pins s σ H v u Q I r q => h.run pins s σ H v u Q I r (hi _ _ _ _ q)⟩
theorem PGs.imp {X : Cx} {e : List Expr} {t t' : TGs} (h : PGs X e t) (hi : ∀ v σ H Q, t' v σ H Q → t v σ H Q) : PGs X e t' := ⟨fun pins s σ H v u Q I r q => h.run pins s σ H v u Q I r (hi _ _ _ _ q)⟩
theorem PI.imp {X : Cx} {tg e : Expr} {t t' : TI} (h : PI X tg e t) (hi : ∀ σ H Q, t' σ H Q → t σ H Q) : PI X tg e t' := ⟨fun pins s σ H Q I q => h.run pins s σ H Q I (hi _ _ _ q)⟩

section
variable {X : Cx} {G : Cc} {W : WX} {a b c d e o : Expr} {ma mb mc md me mo : ME} {pos : Pos} {σ : L2.St} {vs : List Nat}

/-! ### targets -/
theorem wipe_set {σ : L2.St} {i : Nat} {v : Option V} : ∀ {vs : List Nat}, i ∈ vs → wipe (σ.set i v) vs = wipe σ vs
  | [], h => by simp at h
  | w :: vs, h => by
    unfold wipe
    by_cases hw : i ∈ vs
    · rw [wipe_set hw]
    · have e : w = i := by simpa [hw, eq_comm] using h
      subst e
      have : ∀ (us : List Nat), w ∉ us → wipe (σ.set w v) us = (wipe σ us).set w v := by
        intro us
        induction us with
        | nil => intro _; rfl
        | cons u us ih =>
          intro hu
          simp only [List.mem_cons, not_or] at hu
          show (wipe (σ.set w v) us).set u none = ((wipe σ us).set u none).set w v
          rw [ih hu.2, List.set_comm _ _ hu.1]
      rw [this vs hw, List.set_set]
theorem fg_name (i : Nat) {x : Str} (hN : X.N.Nodup) (hm : i ∈ vs) (hi : X.N[i]? = some x := by rfl) (hx : Loc X.env.scope x := by first | exact Or.inl rfl | exact Or.inr rfl) (hf : X.fn x = true ∨ X.env.scope.names.lookup x = some .local := by first | exact .inl rfl | exact .inr rfl | assumption) : PG X (.Name x pos) (tG G W vs (gN i)) :=
  PG.imp (pg_name hN hi hx hf) fun v σ H Q ⟨ρ, S, env, d, R, E, r, P⟩ => P.now R _ (E.set r) (wipe_set hm)
theorem fgs_nil : PGs X [] (tGs G W vs gNl) := PGs.imp pgs_nil fun ws σ H Q ⟨ρ, S, env, ds, R, E, r, P⟩ => by
  cases ds with
  | nil => exact ⟨r.unnil, P.now R _ E rfl⟩
  | cons _ _ => exact P.elim
theorem fgs_cons {es : List Expr} {g : MG} {r : MGs} (h1 : PG X e (tG G W vs g)) (h2 : PGs X es (tGs G W vs r)) (hne : ∀ d env S, ∀ c S', g d env S ≠ .exc c S') (hnr : ∀ ds env S, ∀ c S', r ds env S ≠ .exc c S')
    (hs : (assignEach (e :: es) X.env).map (·.2) = assign e X.env :: (assignEach es X.env).map (·.2) := by rfl) : PGs X (e :: es) (tGs G W vs (gCn g r)) := by
  refine PGs.imp (pgs_cons h1 h2 hs) fun ws σ H Q ⟨ρ, S, env, ds, R, E, r0, P⟩ => ?_
  cases ds with
  | nil => exact P.elim
  | cons d ds =>
    obtain ⟨v, ws', rfl, rv, rs⟩ := r0.uncons
    refine ⟨v, ws', rfl, ρ, S, env, d, R, E, rv, ?_⟩
    have P' : PoR G W σ ρ H (QG G vs σ Q) ((g d env S).bind fun env1 S1 => r ds env1 S1) := P
    cases hg : g d env S with
    | ok env1 S1 =>
      rw [hg] at P'
      intro ρ1 H1 e1 R1 σ1 E1 w1
      refine ⟨ρ1, S1, env1, ds, R1, E1, rs.ext e1, ?_⟩
      have P2 : PoR G W σ ρ1 H1 (QG G vs σ Q) (r ds env1 S1) := PoR.start e1 P'
      cases hr : r ds env1 S1 with
      | ok env2 S2 =>
        rw [hr] at P2
        exact fun ρ2 H2 e2 R2 σ2 E2 w2 => P2 ρ2 H2 e2 R2 σ2 E2 (w2.trans w1)
      | exc c S2 => exact absurd hr (hnr _ _ _ _ _)
      | bad => rw [hr] at P2; exact P2
    | exc c S1 => exact absurd hg (hne _ _ _ _ _)
    | bad => rw [hg] at P'; exact P'
theorem gN_ne (i : Nat) : ∀ d env S, ∀ c S', gN i d env S ≠ .exc c S' := fun d env S c S' h => by unfold gN at h; cases h
theorem gNl_ne : ∀ ds env S, ∀ c S', gNl ds env S ≠ .exc c S' := fun ds env S c S' h => by unfold gNl at h; cases ds <;> cases h
theorem gCn_ne {g : MG} {r : MGs} (h1 : ∀ d env S, ∀ c S', g d env S ≠ .exc c S') (h2 : ∀ ds env S, ∀ c S', r ds env S ≠ .exc c S') : ∀ ds env S, ∀ c S', gCn g r ds env S ≠ .exc c S' := fun ds env S c S' h => by
  cases ds with
  | nil => cases h
  | cons d ds =>
    have h' : (g d env S).bind (fun env1 S1 => r ds env1 S1) = .exc c S' := h
    cases hg : g d env S with
    | ok e S1 => rw [hg] at h'; exact h2 _ _ _ _ _ h'
    | exc c S1 => exact h1 _ _ _ _ _ hg
    | bad => rw [hg] at h'; cases h'
theorem gTp_ne {n : Nat} {r : MGs} (h2 : ∀ ds env S, ∀ c S', r ds env S ≠ .exc c S') : ∀ d env S, ∀ c S', gTp n r d env S ≠ .exc c S' := fun d env S c S' h => by
  unfold gTp at h
  split at h
  · split at h
    · exact h2 _ _ _ _ _ h
    · cases h
  · cases h
theorem rep_tupD {ρ : List Addr} {H : Hp} {ds : List D} {v : V} (r : Rep G ρ H (.tup ds) v) : ∃ a ws, v = .ref a ∧ SqT G.K H a ws ∧ Reps G ρ H ds ws := by
  cases r with
  | tup h hl hi => exact ⟨_, _, rfl, h, hl, hi⟩
theorem fg_tup {es : List Expr} {k n : Nat} {r : MGs} (h : PGs X es (tGs G W vs r)) (hc : X.calm = true := by rfl) (hK : X.K = G.K := by rfl)
    (hn : (assignEach es X.env).length = n := by rfl) (hst : (assignEach es X.env).findIdx? (·.1) = none := by rfl) : PG X (.Tuple es k pos) (tG G W vs (gTp n r)) := by
  refine PG.imp (pg_tup hc h hn hst) fun v σ H Q ⟨ρ, S, env, d, R, E, r0, P⟩ => ?_
  cases d with
  | tup ds =>
    obtain ⟨p, ws, rfl, hq, rs⟩ := rep_tupD r0
    have P' : PoR G W σ ρ H (QG G vs σ Q) (if ds.length = n then r ds env S else .bad) := P
    by_cases hl : ds.length = n
    · rw [if_pos hl] at P'
      exact ⟨p, ws, rfl, by rw [hK]; exact hq, by rw [← rs.1]; exact hl, ρ, S, env, ds, R, E, rs, P'⟩
    · rw [if_neg hl] at P'
      exact P'.elim
  | _ => exact P.elim

/-! ### blocks, small statements -/
theorem fss_nil : PSs X [] (tS G W mSkip) := PSs.imp pss_nil fun Dn σ H ⟨ρ, S, env, R, E, P⟩ => P ρ H σ (Ext.refl _ _ _) R E
theorem fss_cons {st : Stmt} {rest : List Stmt} {m1 m2 : MS} (h1 : PS X st (tS G W m1)) (h2 : PSs X rest (tS G W m2)) : PSs X (st :: rest) (tS G W (mSeq m1 m2)) := by
  refine PSs.imp (pss_cons h1 h2) fun Dn σ H ⟨ρ, S, env, R, E, P⟩ => ⟨ρ, S, env, R, E, ?_⟩
  have P' : PoS G W ρ H Dn (match m1 env S with | .nx e S1 => m2 e S1 | r => r) := P
  cases hm : m1 env S with
  | nx e1 S1 =>
    rw [hm] at P'
    exact fun ρ1 H1 σ1 x1 R1 E1 => ⟨ρ1, S1, e1, R1, E1, PoS.start x1 P'⟩
  | rt d S1 => rw [hm] at P'; exact P'
  | bk e1 S1 => rw [hm] at P'; exact P'
  | ct e1 S1 => rw [hm] at P'; exact P'
  | exc c e1 S1 => rw [hm] at P'; exact P'
  | bad => rw [hm] at P'; exact P'
theorem fss_one {st : Stmt} {m1 : MS} (h1 : PS X st (tS G W m1)) : PSs X [st] (tS G W m1) := pss_one h1
theorem fs_pass : PS X (.Pass pos) (tS G W mSkip) := PS.imp ps_pass fun Dn σ H ⟨ρ, S, env, R, E, P⟩ => P ρ H σ (Ext.refl _ _ _) R E
theorem fs_expr (he : PE X e (tE G W me)) (hs : swapsWith e none pos.line X.env = pure false := by rfl) : PS X (.Expr e pos) (tS G W (mExp me)) := by
  refine PS.imp (ps_expr he hs) fun Dn σ H ⟨ρ, S, env, R, E, P⟩ => ⟨ρ, S, env, R, E, ?_⟩
  unfold mExp at P
  cases hm : me env S with
  | ok d S1 => rw [hm] at P; exact fun ρ1 H1 x1 R1 v rv => P ρ1 H1 σ x1 R1 (E.ext x1)
  | exc c S1 => rw [hm] at P; exact fun ρ1 H1 x1 R1 => P ρ1 H1 σ x1 R1 (E.ext x1)
  | bad => rw [hm] at P; exact P
theorem fs_ret (he : PE X e (tE G W me)) : PS X (.Return (some e) pos) (tS G W (mRet me)) := by
  refine PS.imp (ps_ret he) fun Dn σ H ⟨ρ, S, env, R, E, P⟩ => ⟨ρ, S, env, R, E, ?_⟩
  unfold mRet at P
  cases hm : me env S with
  | ok d S1 => rw [hm] at P; exact fun ρ1 H1 x1 R1 v rv => P ρ1 H1 v x1 R1 rv
  | exc c S1 => rw [hm] at P; exact fun ρ1 H1 x1 R1 => P ρ1 H1 σ x1 R1 (E.ext x1)
  | bad => rw [hm] at P; exact P
theorem fs_retN : PS X (.Return none pos) (tS G W mRetN) := PS.imp ps_retN fun Dn σ H ⟨ρ, S, env, R, E, P⟩ => P ρ H .non (Ext.refl _ _ _) R .non
theorem fs_asg {tg : Expr} {g : MG} (he : PE X e (tE G W me)) (hg : PG X tg (tG G W vs g)) (hs : swapsWithSole [tg] e pos.line X.env = pure false := by rfl) (hw : swappedStores [tg] e X.env = pure none := by rfl)
    (h1 : (assignEach [tg] X.env).map (·.2) = [assign tg X.env] := by rfl) : PS X (.Assign [tg] e pos) (tS G W (mAsg me g)) := by
  refine PS.imp (ps_asg he hg hs hw h1) fun Dn σ H ⟨ρ, S, env, R, E, P⟩ => ⟨ρ, S, env, R, E, ?_⟩
  unfold mAsg at P
  cases hm : me env S with
  | ok d S1 =>
    rw [hm] at P
    intro ρ1 H1 x1 R1 v rv
    refine ⟨ρ1, S1, env, d, R1, E.ext x1, rv, ?_⟩
    have P2 : PoS G W ρ1 H1 Dn (toS env (g d env S1)) := PoS.start x1 P
    cases hg : g d env S1 with
    | ok e2 S2 => rw [hg] at P2; exact fun ρ2 H2 x2 R2 σ2 E2 _ => P2 ρ2 H2 σ2 x2 R2 E2
    | exc c S2 => rw [hg] at P2; exact fun ρ2 H2 x2 R2 => P2 ρ2 H2 σ x2 R2 ((E.ext x1).ext x2)
    | bad => rw [hg] at P2; exact P2
  | exc c S1 => rw [hm] at P; exact fun ρ1 H1 x1 R1 => P ρ1 H1 σ x1 R1 (E.ext x1)
  | bad => rw [hm] at P; exact P
/-- x = e -/
theorem fs_set (i : Nat) {x : Str} {pos' : Pos} (he : PE X e (tE G W me)) (hN : X.N.Nodup) (hi : X.N[i]? = some x := by rfl) (hx : Loc X.env.scope x := by first | exact Or.inl rfl | exact Or.inr rfl) (hs : swapsWith e (some (.Name x pos')) pos.line X.env = pure false := by rfl) (hf : X.fn x = true ∨ X.env.scope.names.lookup x = some .local := by first | exact .inl rfl | exact .inr rfl | assumption) :
    PS X (.Assign [.Name x pos'] e pos) (tS G W (mAsg me (gN i))) := by
  refine PS.imp (ps_set hN hi hx he hs hf) fun Dn σ H ⟨ρ, S, env, R, E, P⟩ => ⟨ρ, S, env, R, E, ?_⟩
  unfold mAsg at P
  cases hm : me env S with
  | ok d S1 => rw [hm] at P; exact fun ρ1 H1 x1 R1 v rv => P ρ1 H1 _ x1 R1 ((E.ext x1).set rv)
  | exc c S1 => rw [hm] at P; exact fun ρ1 H1 x1 R1 => P ρ1 H1 σ x1 R1 (E.ext x1)
  | bad => rw [hm] at P; exact P
theorem fs_if {m : MT} {m1 m2 : MS} {s1 s2 : List Stmt} (hc : PT X c (tT G W m)) (ha : PSs X s1 (tS G W m1)) (hb : PSs X s2 (tS G W m2)) : PS X (.If c s1 s2 pos) (tS G W (mIf m m1 m2)) := by
  refine PS.imp (ps_if hc ha hb) fun Dn σ H ⟨ρ, S, env, R, E, P⟩ => ⟨ρ, S, env, R, E, ?_⟩
  unfold mIf at P
  cases hm : m env S with
  | ok k S1 =>
    rw [hm] at P
    intro ρ1 H1 x1 R1
    have P2 := PoS.start x1 P
    cases k with
    | true => show tS G W m1 Dn σ H1; exact ⟨ρ1, S1, env, R1, E.ext x1, P2⟩
    | false => show tS G W m2 Dn σ H1; exact ⟨ρ1, S1, env, R1, E.ext x1, P2⟩
  | exc c S1 => rw [hm] at P; exact fun ρ1 H1 x1 R1 => P ρ1 H1 σ x1 R1 (E.ext x1)
  | bad => rw [hm] at P; exact P
theorem fs_par2 (i j : Nat) {x y : Str} {m : MA} {px py pt : Pos} {kt k2 : Nat} {pt2 : Pos} (ha : PA X [a, b] (tA G W m)) (hN : X.N.Nodup) (hij : i ≠ j)
    (hw : swappedStores [.Tuple [.Name x px, .Name y py] kt pt] (.Tuple [a, b] k2 pt2) X.env = pure (some [x, y])) (hi : X.N[i]? = some x := by rfl) (hj : X.N[j]? = some y := by rfl)
    (hx : X.env.scope.names.lookup x = some .local := by rfl) (hy : X.env.scope.names.lookup y = some .local := by rfl) (hc : X.calm = true := by rfl)
    (hs : swapsWithSole [.Tuple [.Name x px, .Name y py] kt pt] (.Tuple [a, b] k2 pt2) pos.line X.env = pure false := by rfl) :
    PS X (.Assign [.Tuple [.Name x px, .Name y py] kt pt] (.Tuple [a, b] k2 pt2) pos) (tS G W (mPar2 i j m)) := by
  refine PS.imp (ps_par hc hN hi hj hij hx hy ha hw hs) fun Dn σ H ⟨ρ, S, env, R, E, P⟩ => ⟨ρ, S, env, R, E, ?_⟩
  unfold mPar2 at P
  cases hm : m env S with
  | ok ds S1 =>
    rw [hm] at P
    match ds, P with
    | [d1, d2], P =>
      intro ρ1 H1 x1 R1 ws rs
      obtain ⟨v1, w1, rfl, r1, rs1⟩ := rs.uncons
      obtain ⟨v2, w2, rfl, r2, rs2⟩ := rs1.uncons
      have := rs2.unnil
      subst this
      exact ⟨v1, v2, rfl, P ρ1 H1 _ x1 R1 (((E.ext x1).set r1).set r2)⟩
    | [], P => exact P.elim
    | [_], P => exact P.elim
    | _ :: _ :: _ :: _, P => exact P.elim
  | exc c S1 => rw [hm] at P; exact fun ρ1 H1 x1 R1 => P ρ1 H1 σ x1 R1 (E.ext x1)
  | bad => rw [hm] at P; exact P
theorem fs_par3 (i j l : Nat) {x y z : Str} {m : MA} {px py pz pt : Pos} {kt k2 : Nat} {pt2 : Pos} (ha : PA X [a, b, c] (tA G W m)) (hN : X.N.Nodup) (hij : i ≠ j) (hil : i ≠ l) (hjl : j ≠ l)
    (hw : swappedStores [.Tuple [.Name x px, .Name y py, .Name z pz] kt pt] (.Tuple [a, b, c] k2 pt2) X.env = pure (some [x, y, z])) (hi : X.N[i]? = some x := by rfl) (hj : X.N[j]? = some y := by rfl) (hl : X.N[l]? = some z := by rfl)
    (hx : X.env.scope.names.lookup x = some .local := by rfl) (hy : X.env.scope.names.lookup y = some .local := by rfl) (hz : X.env.scope.names.lookup z = some .local := by rfl) (hc : X.calm = true := by rfl)
    (hs : swapsWithSole [.Tuple [.Name x px, .Name y py, .Name z pz] kt pt] (.Tuple [a, b, c] k2 pt2) pos.line X.env = pure false := by rfl) :
    PS X (.Assign [.Tuple [.Name x px, .Name y py, .Name z pz] kt pt] (.Tuple [a, b, c] k2 pt2) pos) (tS G W (mPar3 i j l m)) := by
  refine PS.imp (ps_par3 hc hN hi hj hl hij hil hjl hx hy hz ha hw hs) fun Dn σ H ⟨ρ, S, env, R, E, P⟩ => ⟨ρ, S, env, R, E, ?_⟩
  unfold mPar3 at P
  cases hm : m env S with
  | ok ds S1 =>
    rw [hm] at P
    match ds, P with
    | [d1, d2, d3], P =>
      intro ρ1 H1 x1 R1 ws rs
      obtain ⟨v1, w1, rfl, r1, rs1⟩ := rs.uncons
      obtain ⟨v2, w2, rfl, r2, rs2⟩ := rs1.uncons
      obtain ⟨v3, w3, rfl, r3, rs3⟩ := rs2.uncons
      have := rs3.unnil
      subst this
      exact ⟨v1, v2, v3, rfl, P ρ1 H1 _ x1 R1 ((((E.ext x1).set r1).set r2).set r3)⟩
    | [], P => exact P.elim
    | [_], P => exact P.elim
    | [_, _], P => exact P.elim
    | _ :: _ :: _ :: _ :: _, P => exact P.elim
  | exc c S1 => rw [hm] at P; exact fun ρ1 H1 x1 R1 => P ρ1 H1 σ x1 R1 (E.ext x1)
  | bad => rw [hm] at P; exact P
theorem fs_never {st : Stmt} : PS X st (tS G W mNever) := PS.imp ps_never fun Dn σ H ⟨ρ, S, env, R, E, P⟩ => P
/-- raise X('..') -/
theorem fs_raise (k : Nat) (he : PMk X e (fun _ H Q => Q (.ref (G.ca k)) none H)) (tk : Takes X W) (hc : X.calm = true := by rfl) : PS X (.Raise (some e) none pos) (tS G W (mRaise k)) :=
  PS.imp (ps_raise hc tk he) fun Dn σ H ⟨ρ, S, env, R, E, P⟩ => P ρ H σ (Ext.refl _ _ _) R E

/-! ### while -/
theorem fs_while {m : MT} {mb' : MS} {body : List Stmt} (fuel : Nat) (hc : PT X c (tT G W m)) (hb : PSs X body (tS G W mb')) (hp : PassesOwn (model X.prog X.w) X.A X.env X.xe) : PS X (.While c body [] pos) (tS G W (mWhile fuel m mb')) := by
  refine PS.imp (ps_while hp hc hb) fun Dn σ H ⟨ρ, S, env, R, E, P⟩ => ?_
  refine ⟨fun n σ H => ∃ ρ S env, Rel G ρ S H ∧ EnvR G ρ H env σ ∧ PoS G W ρ H Dn (whileM m mb' n env S), ⟨fuel, ρ, S, env, R, E, P⟩, ?_⟩
  rintro n σ H ⟨ρ, S, env, R, E, P⟩
  cases n with
  | zero => exact P.elim
  | succ n =>
    unfold whileM at P
    refine ⟨ρ, S, env, R, E, ?_⟩
    cases hm : m env S with
    | ok k S1 =>
      rw [hm] at P
      intro ρ1 H1 x1 R1
      cases k with
      | true =>
        unfold QT; dsimp only
        rw [if_pos rfl]
        refine ⟨fun σ' H' => ∃ ρ S env, Rel G ρ S H' ∧ EnvR G ρ H' env σ' ∧ PoS G W ρ H' Dn (whileM m mb' n env S), fun σ' H' h => ⟨n, Nat.lt_succ_self n, h⟩, ?_⟩
        refine ⟨ρ1, S1, env, R1, E.ext x1, ?_⟩
        have P2 : PoS G W ρ1 H1 Dn (match mb' env S1 with
          | .nx e S2 => whileM m mb' n e S2
          | .ct e S2 => whileM m mb' n e S2
          | .bk e S2 => .nx e S2
          | .rt d S2 => .rt d S2
          | .exc c e S2 => .exc c e S2
          | .bad => .bad) := PoS.start x1 P
        cases hb : mb' env S1 with
        | nx e2 S2 => rw [hb] at P2; exact fun ρ2 H2 σ2 x2 R2 E2 => ⟨ρ2, S2, e2, R2, E2, PoS.start x2 P2⟩
        | ct e2 S2 => rw [hb] at P2; exact fun ρ2 H2 σ2 x2 R2 E2 => ⟨ρ2, S2, e2, R2, E2, PoS.start x2 P2⟩
        | bk e2 S2 => rw [hb] at P2; exact P2
        | rt d S2 => rw [hb] at P2; exact P2
        | exc c e2 S2 => rw [hb] at P2; exact P2
        | bad => rw [hb] at P2; exact P2
      | false =>
        unfold QT; dsimp only
        rw [if_neg Bool.false_ne_true]
        exact (PoS.start x1 P : PoS G W ρ1 H1 Dn (.nx env S1)) ρ1 H1 σ (Ext.refl _ _ _) R1 (E.ext x1)
    | exc c S1 => rw [hm] at P; exact fun ρ1 H1 x1 R1 => P ρ1 H1 σ x1 R1 (E.ext x1)
    | bad => rw [hm] at P; exact P

/-! ### for -/
theorem fs_for {tg iter : Expr} {body : List Stmt} {it : MI} {g : MG} {mb' : MS} (hi : PI X tg iter (tI G W it)) (hg : PG X tg (tG G W vs g)) (hb : PSs X body (tS G W mb')) (hp : PassesOwn (model X.prog X.w) X.A X.env X.xe) (hc : X.calm = true := by rfl)
    (hs : ∀ x, foldedSetIterable iter X.env x = pure x := by intro _; rfl) : PS X (.For tg iter body [] pos) (tS G W (mFor it g mb')) := by
  refine PS.imp (ps_for hp hc hi hg hb hs) fun Dn σ H ⟨ρ, S, env, R, E, P⟩ => ⟨ρ, S, env, R, E, ?_⟩
  unfold mFor at P
  cases hm : it env S with
  | ok s S1 =>
    rw [hm] at P
    intro ρ0 H0 x0 R0 J ok
    refine ⟨fun i n σ H => ∃ ρ S env, Ext G ρ0 H0 ρ H ∧ Rel G ρ S H ∧ EnvR G ρ H env σ ∧ PoS G W ρ H Dn (forM s.2 g mb' n i env S), ⟨s.1, ρ0, S1, env, Ext.refl _ _ _, R0, E.ext x0, PoS.start x0 P⟩, ?_⟩
    rintro i n σ1 H1 ⟨ρ1, S1, env1, pre1, R1, E1, P1⟩
    cases n with
    | zero => exact P1.elim
    | succ n =>
      unfold forM at P1
      cases hs : s.2 S1 i with
      | none => rw [hs] at P1; exact P1.elim
      | some od =>
        cases od with
        | none =>
          rw [hs] at P1
          exact .inl ⟨ok.stop ρ1 S1 H1 i pre1 R1 hs, P1 ρ1 H1 σ1 (Ext.refl _ _ _) R1 E1⟩
        | some x =>
          rw [hs] at P1
          refine .inr ⟨ok.go ρ1 S1 H1 i x pre1 R1 hs, fun σ' H' => ∃ ρ S env, Ext G ρ0 H0 ρ H' ∧ Rel G ρ S H' ∧ EnvR G ρ H' env σ' ∧ PoS G W ρ H' Dn (forM s.2 g mb' n (i + 1) env S), fun σ' H' h => ⟨n, Nat.lt_succ_self n, h⟩, fun v H2 hy => ?_⟩
          obtain ⟨x2, R2, rv⟩ := ok.yld ρ1 S1 H1 i x pre1 R1 hs v H2 hy
          refine ⟨ρ1, S1, env1, x, R2, E1.ext x2, rv, ?_⟩
          have P2 := PoS.start x2 P1
          dsimp only at P2
          cases hg' : g x env1 S1 with
          | ok env3 S3 =>
            rw [hg'] at P2
            intro ρ3 H3 x3 R3 σ3 E3 _
            refine ⟨ρ3, S3, env3, R3, E3, ?_⟩
            have P3 : PoS G W ρ3 H3 Dn (match mb' env3 S3 with
              | .nx e S2 => forM s.2 g mb' n (i + 1) e S2
              | .ct e S2 => forM s.2 g mb' n (i + 1) e S2
              | .bk e S2 => .nx e S2
              | .rt d S2 => .rt d S2
              | .exc c e S2 => .exc c e S2
              | .bad => .bad) := PoS.start x3 P2
            cases hb' : mb' env3 S3 with
            | nx e4 S4 => rw [hb'] at P3; exact fun ρ4 H4 σ4 x4 R4 E4 => ⟨ρ4, S4, e4, ((pre1.trans x2).trans x3).trans x4, R4, E4, PoS.start x4 P3⟩
            | ct e4 S4 => rw [hb'] at P3; exact fun ρ4 H4 σ4 x4 R4 E4 => ⟨ρ4, S4, e4, ((pre1.trans x2).trans x3).trans x4, R4, E4, PoS.start x4 P3⟩
            | bk e4 S4 => rw [hb'] at P3; exact P3
            | rt d S4 => rw [hb'] at P3; exact P3
            | exc c e4 S4 => rw [hb'] at P3; exact P3
            | bad => rw [hb'] at P3; exact P3
          | exc c S3 => rw [hg'] at P2; exact P2.elim
          | bad => rw [hg'] at P2; exact P2.elim
  | exc c S1 => rw [hm] at P; exact fun ρ1 H1 x1 R1 => P ρ1 H1 σ x1 R1 (E.ext x1)
  | bad => rw [hm] at P; exact P
end
end Fx
/-! Fx4: what is walked, comprehensions, objects and their methods, calls of defs. -/
namespace Fx
open PySem L2

section
variable {X : Cx} {G : Cc} {W : WX} {a b c d e o : Expr} {ma mb mc md me mo : ME} {pos : Pos} {σ : L2.St} {vs : List Nat} {tg : Expr}
/-! ### lists as they are read -/
theorem rep_ref {ρ : List Addr} {H : Hp} {n : Nat} {v : V} (r : Rep G ρ H (.ref n) v) : ∃ a, v = .ref a ∧ ρ[n]? = some a := by
  cases r with
  | ref h => exact ⟨_, rfl, h⟩
theorem rep_rlD {ρ : List Addr} {H : Hp} {ds : List D} {v : V} (r : Rep G ρ H (.rl ds) v) : ∃ a ws, v = .ref a ∧ SqL G.K H a ws ∧ Reps G ρ H ds ws := by
  cases r with
  | rl h hl hi => exact ⟨_, _, rfl, h.sq, hl, hi⟩
theorem Rel.listAt {ρ : List Addr} {S : Sto} {H : Hp} {n : Nat} {p : Addr} {xs : List D} (R : Rel G ρ S H) (hp : ρ[n]? = some p) (h : getL S n = some xs) : ∃ ws, SqL G.K H p ws ∧ Reps G ρ H xs ws := by
  unfold getL at h
  split at h
  · rename_i ys hs
    cases h
    obtain ⟨ws, e, r⟩ := R.at hs hp
    exact ⟨ws, SqL.of e, r⟩
  · cases h
theorem Rel.mutAt {ρ : List Addr} {S : Sto} {H : Hp} {n : Nat} {p : Addr} {xs : List D} (R : Rel G ρ S H) (hp : ρ[n]? = some p) (h : getM S n = some xs) : S[n]? = some (.lst xs) ∧ ∃ ws, H p = some (.lst ws) ∧ Reps G ρ H xs ws := by
  unfold getM at h
  split at h
  · rename_i ys hs
    cases h
    exact ⟨hs, R.at hs hp⟩
  · cases h
/-! ### what is walked -/
theorem PI.or {e : Expr} {t t' : TI} (h : PI X tg e t) (h' : PI X tg e t') : PI X tg e (fun σ H Q => t σ H Q ∨ t' σ H Q) := ⟨fun pins s σ H Q I q => q.elim (h.run pins s σ H Q I) (h'.run pins s σ H Q I)⟩
theorem itOk_list {ρ0 : List Addr} {H0 : Hp} {n : Nat} {p : Addr} (hp : ρ0[n]? = some p) : ItOk G ρ0 H0 (Itl G.K p) (srcL n) where
  stop := fun ρ S H i pre R hs => by
    unfold srcL at hs
    split at hs
    · rename_i xs hx
      obtain ⟨ws, q, r⟩ := R.listAt (pre_get pre.pre hp) hx
      simp only [Option.some.injEq] at hs
      exact ⟨ws, q, by rw [← r.1]; exact List.getElem?_eq_none_iff.mp hs⟩
    · cases hs
  go := fun ρ S H i d pre R hs => by
    unfold srcL at hs
    split at hs
    · rename_i xs hx
      obtain ⟨ws, q, r⟩ := R.listAt (pre_get pre.pre hp) hx
      simp only [Option.some.injEq] at hs
      obtain ⟨v, hv, _⟩ := r.get hs
      exact ⟨ws, v, q, hv⟩
    · cases hs
  yld := fun ρ S H i d pre R hs x H' hy => by
    obtain ⟨rfl, hy⟩ := hy
    unfold srcL at hs
    split at hs
    · rename_i xs hx
      obtain ⟨ws, q, r⟩ := R.listAt (pre_get pre.pre hp) hx
      simp only [Option.some.injEq] at hs
      obtain ⟨v, hv, rv⟩ := r.get hs
      have hxv := hy ws q
      rw [hv] at hxv
      cases hxv
      exact ⟨Ext.refl _ _ _, R, rv⟩
    · cases hs
theorem itOk_tup {ρ0 : List Addr} {H0 : Hp} {ds : List D} {p : Addr} {ws : List V} (hq : SqT G.K H0 p ws) (r0 : Reps G ρ0 H0 ds ws) : ItOk G ρ0 H0 (Itt G.K p) (srcT ds) where
  stop := fun ρ S H i pre R hs => by
    unfold srcT at hs
    simp only [Option.some.injEq] at hs
    exact ⟨ws, pre.tup _ _ hq, by rw [← r0.1]; exact List.getElem?_eq_none_iff.mp hs⟩
  go := fun ρ S H i d pre R hs => by
    unfold srcT at hs
    simp only [Option.some.injEq] at hs
    obtain ⟨v, hv, _⟩ := r0.get hs
    exact ⟨ws, v, pre.tup _ _ hq, hv⟩
  yld := fun ρ S H i d pre R hs x H' hy => by
    obtain ⟨rfl, hy⟩ := hy
    unfold srcT at hs
    simp only [Option.some.injEq] at hs
    obtain ⟨v, hv, rv⟩ := (r0.ext pre).get hs
    have hxv := hy ws (pre.tup _ _ hq)
    rw [hv] at hxv
    cases hxv
    exact ⟨Ext.refl _ _ _, R, rv⟩
theorem itOk_rng {ρ0 : List Addr} {H0 : Hp} {lo : Int} {n : Nat} : ItOk G ρ0 H0 (Itr lo n) (srcR lo 1 n) where
  stop := fun ρ S H i pre R hs => by
    unfold srcR at hs
    by_cases h : i < n
    · rw [if_pos h] at hs; cases hs
    · exact Nat.le_of_not_lt h
  go := fun ρ S H i d pre R hs => by
    unfold srcR at hs
    by_cases h : i < n
    · exact h
    · rw [if_neg h] at hs; cases hs
  yld := fun ρ S H i d pre R hs x H' hy => by
    obtain ⟨rfl, rfl⟩ := hy
    unfold srcR at hs
    by_cases h : i < n
    · rw [if_pos h] at hs
      cases hs
      rw [Int.mul_one]
      exact ⟨Ext.refl _ _ _, R, .int _⟩
    · rw [if_neg h] at hs; cases hs
theorem itOk_rngC {ρ0 : List Addr} {H0 : Hp} {lo c : Int} {n : Nat} : ItOk G ρ0 H0 (Itc lo c n) (srcR lo c n) where
  stop := fun ρ S H i pre R hs => by
    unfold srcR at hs
    by_cases h : i < n
    · rw [if_pos h] at hs; cases hs
    · exact Nat.le_of_not_lt h
  go := fun ρ S H i d pre R hs => by
    unfold srcR at hs
    by_cases h : i < n
    · exact h
    · rw [if_neg h] at hs; cases hs
  yld := fun ρ S H i d pre R hs x H' hy => by
    obtain ⟨rfl, rfl⟩ := hy
    unfold srcR at hs
    by_cases h : i < n
    · rw [if_pos h] at hs
      cases hs
      exact ⟨Ext.refl _ _ _, R, .int _⟩
    · rw [if_neg h] at hs; cases hs
theorem itOk_enum {ρ0 : List Addr} {H0 : Hp} {n : Nat} {p : Addr} (hp : ρ0[n]? = some p) : ItOk G ρ0 H0 (Ite G.K p) (srcE n) where
  stop := fun ρ S H i pre R hs => by
    unfold srcE at hs
    split at hs
    · rename_i xs hx
      obtain ⟨ws, q, r⟩ := R.listAt (pre_get pre.pre hp) hx
      simp only [Option.some.injEq, Option.map_eq_none_iff] at hs
      exact ⟨ws, q, by rw [← r.1]; exact List.getElem?_eq_none_iff.mp hs⟩
    · cases hs
  go := fun ρ S H i d pre R hs => by
    unfold srcE at hs
    split at hs
    · rename_i xs hx
      obtain ⟨ws, q, r⟩ := R.listAt (pre_get pre.pre hp) hx
      simp only [Option.some.injEq, Option.map_eq_some_iff] at hs
      obtain ⟨x, hs, _⟩ := hs
      obtain ⟨v, hv, _⟩ := r.get hs
      exact ⟨ws, v, q, hv⟩
    · cases hs
  yld := fun ρ S H i d pre R hs x H' hy => by
    obtain ⟨T, y, rfl, hT, rfl, hy⟩ := hy
    unfold srcE at hs
    split at hs
    · rename_i xs hx
      obtain ⟨ws, q, r⟩ := R.listAt (pre_get pre.pre hp) hx
      simp only [Option.some.injEq, Option.map_eq_some_iff] at hs
      obtain ⟨x, hs, rfl⟩ := hs
      obtain ⟨v, hv, rv⟩ := r.get hs
      have hxv := hy ws q
      rw [hv] at hxv
      cases hxv
      exact ⟨Ext.fresh hT, R.fresh hT, rep_tup hT (.cons (.int _) (.cons rv .nil))⟩
    · cases hs
theorem itOk_zip {ρ0 : List Addr} {H0 : Hp} {n m : Nat} {p q : Addr} (hp : ρ0[n]? = some p) (hq : ρ0[m]? = some q) : ItOk G ρ0 H0 (Itz G.K p q) (srcZ n m) where
  stop := fun ρ S H i pre R hs => by
    unfold srcZ at hs
    split at hs
    · rename_i xs ys hx hy
      obtain ⟨ws, q1, r1⟩ := R.listAt (pre_get pre.pre hp) hx
      obtain ⟨us, q2, r2⟩ := R.listAt (pre_get pre.pre hq) hy
      refine ⟨ws, us, q1, q2, ?_⟩
      split at hs
      · cases hs
      · rename_i h
        by_cases h1 : i < xs.length
        · by_cases h2 : i < ys.length
          · exact absurd (List.getElem?_eq_getElem h2) (h _ _ (List.getElem?_eq_getElem h1))
          · exact .inr (by rw [← r2.1]; omega)
        · exact .inl (by rw [← r1.1]; omega)
    · cases hs
  go := fun ρ S H i d pre R hs => by
    unfold srcZ at hs
    split at hs
    · rename_i xs ys hx hy
      obtain ⟨ws, q1, r1⟩ := R.listAt (pre_get pre.pre hp) hx
      obtain ⟨us, q2, r2⟩ := R.listAt (pre_get pre.pre hq) hy
      split at hs
      · rename_i x y hx2 hy2
        obtain ⟨v, hv, _⟩ := r1.get hx2
        obtain ⟨w, hw, _⟩ := r2.get hy2
        exact ⟨ws, us, v, w, q1, q2, hv, hw⟩
      · cases hs
    · cases hs
  yld := fun ρ S H i d pre R hs x H' hy => by
    obtain ⟨T, y, z, rfl, hT, rfl, hy1, hy2⟩ := hy
    unfold srcZ at hs
    split at hs
    · rename_i xs ys hx hy
      obtain ⟨ws, q1, r1⟩ := R.listAt (pre_get pre.pre hp) hx
      obtain ⟨us, q2, r2⟩ := R.listAt (pre_get pre.pre hq) hy
      split at hs
      · rename_i x' y' hx2 hy3
        cases hs
        obtain ⟨v, hv, rv⟩ := r1.get hx2
        obtain ⟨w, hw, rw'⟩ := r2.get hy3
        have h1 := hy1 ws q1
        have h2 := hy2 us q2
        rw [hv] at h1; cases h1
        rw [hw] at h2; cases h2
        exact ⟨Ext.fresh hT, R.fresh hT, rep_tup hT (.cons rv (.cons rw' .nil))⟩
      · cases hs
    · cases hs

theorem fi_seq {l : Expr} {m : ME} (hl : PE X l (tE G W m)) (hK : X.K = G.K := by rfl) : PI X tg l (tI G W (iSeq m)) := by
  refine PI.imp (PI.or (pi_list hl) (pi_tup hl)) fun σ H Rr ⟨ρ, S, env, R, E, P⟩ => ?_
  unfold iSeq at P
  cases hm : m env S with
  | ok d S1 =>
    rw [hm] at P
    cases d with
    | ref n =>
      dsimp only [Fx.R.bind] at P
      left
      refine ⟨ρ, S, env, R, E, ?_⟩
      rw [hm]
      intro ρ1 H1 x1 R1 v rv
      obtain ⟨p, rfl, hp⟩ := rep_ref rv
      cases hg : getL S1 n with
      | some xs =>
        rw [hg] at P
        obtain ⟨ws, q, r⟩ := R1.listAt hp hg
        refine ⟨p, rfl, ⟨ws, by rw [hK]; exact q⟩, ?_⟩
        rw [hK]
        exact P ρ1 H1 x1 R1 _ (itOk_list hp)
      | none => rw [hg] at P; exact P.elim
    | tup ds =>
      dsimp only [Fx.R.bind] at P
      right
      refine ⟨ρ, S, env, R, E, ?_⟩
      rw [hm]
      intro ρ1 H1 x1 R1 v rv
      obtain ⟨p, ws, rfl, q, rs⟩ := rep_tupD rv
      refine ⟨p, rfl, ⟨ws, by rw [hK]; exact q⟩, ?_⟩
      rw [hK]
      exact P ρ1 H1 x1 R1 _ (itOk_tup q rs)
    | _ => exact P.elim
  | exc c S1 =>
    rw [hm] at P
    left
    refine ⟨ρ, S, env, R, E, ?_⟩
    rw [hm]
    exact P
  | bad => rw [hm] at P; exact P.elim
theorem small_iff {i : Int} (h : small i = true) : -(2 ^ 62) ≤ i ∧ i < 2 ^ 62 := of_decide_eq_true h
theorem ints1 {ρ : List Addr} {H : Hp} {i : Int} {ws : List V} (rs : Reps G ρ H [.int i] ws) : ws = [.int i] := by
  obtain ⟨v, w, rfl, r1, rs1⟩ := rs.uncons
  cases r1
  rw [rs1.unnil]
theorem ints2 {ρ : List Addr} {H : Hp} {i j : Int} {ws : List V} (rs : Reps G ρ H [.int i, .int j] ws) : ws = [.int i, .int j] := by
  obtain ⟨v, w, rfl, r1, rs1⟩ := rs.uncons
  cases r1
  rw [ints1 rs1]
theorem ints3 {ρ : List Addr} {H : Hp} {i j k : Int} {ws : List V} (rs : Reps G ρ H [.int i, .int j, .int k] ws) : ws = [.int i, .int j, .int k] := by
  obtain ⟨v, w, rfl, r1, rs1⟩ := rs.uncons
  cases r1
  rw [ints2 rs1]
theorem refs1 {ρ : List Addr} {H : Hp} {n : Nat} {ws : List V} (rs : Reps G ρ H [.ref n] ws) : ∃ p, ws = [.ref p] ∧ ρ[n]? = some p := by
  obtain ⟨v, w, rfl, r1, rs1⟩ := rs.uncons
  obtain ⟨p, rfl, hp⟩ := rep_ref r1
  exact ⟨p, by rw [rs1.unnil], hp⟩
theorem refs2 {ρ : List Addr} {H : Hp} {n m : Nat} {ws : List V} (rs : Reps G ρ H [.ref n, .ref m] ws) : ∃ p q, ws = [.ref p, .ref q] ∧ ρ[n]? = some p ∧ ρ[m]? = some q := by
  obtain ⟨v, w, rfl, r1, rs1⟩ := rs.uncons
  obtain ⟨p, rfl, hp⟩ := rep_ref r1
  obtain ⟨q, rfl, hq⟩ := refs1 rs1
  exact ⟨p, q, rfl, hp, hq⟩
theorem fi_rg1 {m : MA} {p : Pos} (hm : X.mg "range" = none) (ha : PA X [a] (tA G W m)) (hg : Gl X "range" := by rfl) (hs : starEach [a] X.env = [(false, eval a X.env)] := by rfl) : PI X tg (.Call (.Name "range" p) [a] [] pos) (tI G W (iRg1 m)) := by
  refine PI.imp (pi_range1 hg hm ha hs) fun σ H Rr ⟨ρ, S, env, R, E, P⟩ => ⟨ρ, S, env, R, E, (PoR.bind P).imp fun ds S1 ρ1 H1 x1 R1 P1 ws rs => ?_⟩
  split at P1
  · rename_i j
    rw [ints1 rs]
    by_cases h : small j = true
    · rw [if_pos h] at P1
      obtain ⟨h1, h2⟩ := small_iff h
      exact ⟨j, rfl, h1, h2, P1.now R1 _ itOk_rng⟩
    · rw [if_neg h] at P1; exact P1.elim
  · exact P1.elim
theorem fi_rg2 {m : MA} {p : Pos} (hm : X.mg "range" = none) (ha : PA X [a, b] (tA G W m)) (hg : Gl X "range" := by rfl) (hs : starEach [a, b] X.env = [(false, eval a X.env), (false, eval b X.env)] := by rfl) (hs2 : starEach [b] X.env = [(false, eval b X.env)] := by rfl) : PI X tg (.Call (.Name "range" p) [a, b] [] pos) (tI G W (iRg2 m)) := by
  refine PI.imp (pi_range2 hg hm ha hs hs2) fun σ H Rr ⟨ρ, S, env, R, E, P⟩ => ⟨ρ, S, env, R, E, (PoR.bind P).imp fun ds S1 ρ1 H1 x1 R1 P1 ws rs => ?_⟩
  split at P1
  · rename_i i j
    rw [ints2 rs]
    by_cases h : small i = true ∧ small j = true
    · rw [if_pos h] at P1
      obtain ⟨h1, h2⟩ := small_iff h.1
      obtain ⟨h3, h4⟩ := small_iff h.2
      exact ⟨i, j, rfl, ⟨h1, h2, h3, h4⟩, P1.now R1 _ itOk_rng⟩
    · rw [if_neg h] at P1; exact P1.elim
  · exact P1.elim
theorem fi_en {m : MA} {p tpos : Pos} {elts : List Expr} {kk : Nat} (hm : X.mg "enumerate" = none) (ha : PA X [a] (tA G W m)) (hK : X.K = G.K := by rfl) (hg : Gl X "enumerate" := by rfl) (hs : starEach [a] X.env = [(false, eval a X.env)] := by rfl) : PI X (.Tuple elts kk tpos) (.Call (.Name "enumerate" p) [a] [] pos) (tI G W (iEn m)) := by
  refine PI.imp (pi_enum hg hm ha hs) fun σ H Rr ⟨ρ, S, env, R, E, P⟩ => ⟨ρ, S, env, R, E, (PoR.bind P).imp fun ds S1 ρ1 H1 x1 R1 P1 ws rs => ?_⟩
  split at P1
  · rename_i n
    obtain ⟨q, rfl, hq⟩ := refs1 rs
    cases hl : getL S1 n with
    | some xs =>
      rw [hl] at P1
      obtain ⟨us, h1, h2⟩ := R1.listAt hq hl
      rw [hK]
      exact ⟨q, us, rfl, h1, P1.now R1 _ (itOk_enum hq)⟩
    | none => rw [hl] at P1; exact P1.elim
  · exact P1.elim
theorem fi_zp {m : MA} {p tpos : Pos} {elts : List Expr} {kk : Nat} (hm : X.mg "zip" = none) (ha : PA X [a, b] (tA G W m)) (hK : X.K = G.K := by rfl) (hg : Gl X "zip" := by rfl)
    (hs : starEach [a, b] X.env = (false, eval a X.env) :: starEach [b] X.env := by rfl) (hpl : (backTo pos (starEach [b] X.env)).any (·.1) = false := by rfl) : PI X (.Tuple elts kk tpos) (.Call (.Name "zip" p) [a, b] [] pos) (tI G W (iZp m)) := by
  refine PI.imp (pi_zip hg hm ha hs hpl) fun σ H Rr ⟨ρ, S, env, R, E, P⟩ => ⟨ρ, S, env, R, E, (PoR.bind P).imp fun ds S1 ρ1 H1 x1 R1 P1 ws rs => ?_⟩
  split at P1
  · rename_i n k
    obtain ⟨q1, q2, rfl, h1, h2⟩ := refs2 rs
    split at P1
    · rename_i xs ys hx hy
      obtain ⟨us, h3, h4⟩ := R1.listAt h1 hx
      obtain ⟨us2, h5, h6⟩ := R1.listAt h2 hy
      rw [hK]
      exact ⟨q1, q2, us, us2, rfl, h3, h5, P1.now R1 _ (itOk_zip h1 h2)⟩
    · exact P1.elim
  · exact P1.elim
/-! ### comprehensions -/
theorem EnvR.wipe {ρ : List Addr} {H : Hp} {env : En} {σ : L2.St} (h : EnvR G ρ H env σ) : ∀ vs : List Nat, EnvR G ρ H (wipeE env vs) (L2.wipe σ vs)
  | [] => h
  | _ :: vs => (EnvR.wipe h vs).unset
theorem wipe_wipe (σ : L2.St) : ∀ (vs us : List Nat), (∀ u ∈ us, u ∈ vs) → L2.wipe (L2.wipe σ us) vs = L2.wipe σ vs
  | vs, [], _ => rfl
  | vs, u :: us, h => by
    show L2.wipe ((L2.wipe σ us).set u none) vs = L2.wipe σ vs
    rw [wipe_set (h u (by simp)), wipe_wipe σ vs us fun x hx => h x (by simp [hx])]
/-- nothing is let out -/
abbrev W0 : WX := fun _ _ _ _ => False
theorem fe_lc {elt iter : Expr} {ifs : List Expr} {scope : Scope} {own : List (Str × Nat)} {it : MI} {g : MG} {mt : MT} (hi : PI X tg iter (tI G W it)) (ok : BlkOk X.N X.env.scope scope own) (hN : X.N.Nodup)
    (hg : ∀ (s : Shared) (H : Hp) (C : Addr) (cl : List (Str × Addr)) (fp : List Addr), PG (X.blk s H scope (compEnvC scope cl C X.env) fp) tg (tG G W0 (own.map (·.2)) g))
    (ht : ∀ (s : Shared) (H : Hp) (C : Addr) (cl : List (Str × Addr)) (fp : List Addr), PTs (X.blk s H scope (compEnvC scope cl C X.env) fp) ifs (tT G W0 mt))
    (he : ∀ (s : Shared) (H : Hp) (C : Addr) (cl : List (Str × Addr)) (fp : List Addr), PE (X.blk s H scope (compEnvC scope cl C X.env) fp) elt (tE G W0 me)) (hc : X.calm = true := by rfl) (hs : ∀ x, foldedSetIterable iter X.env x = pure x := by intro _; rfl) :
    PE X (.ListComp elt [⟨tg, iter, ifs, 0⟩] scope pos) (tE G W (mLc (own.map (·.2)) it g mt me)) := by
  refine PE.imp (pe_lc hc hN hi ok hg ht he hs) fun σ H Q hh => lcR hh
where
  lcR {vs : List Nat} {it : MI} {g : MG} {mt : MT} {me : ME} {σ : L2.St} {H : Hp} {Q : VK} (h : tE G W (mLc vs it g mt me) σ H Q) : tLc (tI G W it) (tG G W0 vs g) (tT G W0 mt) (tE G W0 me) vs σ H Q := by
    obtain ⟨ρ, S, env, R, E, P⟩ := h
    refine ⟨ρ, S, env, R, E, (PoR.bind P).imp fun s S1 ρ1 H1 x1 R1 P1 J iok D hD => ?_⟩
    have P2 := PoR.bind P1
    obtain ⟨R2, x2⟩ := R1.alloc (u := .lst []) (o := .lst []) hD fun e => ⟨[], upd_same, Reps.nil⟩
    have E1 := E.ext x1
    refine ⟨fun i m H => ∃ ρ S, Ext G (ρ1 ++ [D]) (upd H1 D (.lst [])) ρ H ∧ Rel G ρ S H ∧ PoR G W σ ρ H (fun _ S2 ρ2 H2 => PoR G W σ ρ2 H2 (QE G Q) (.ok (.ref S1.length) S2)) (lcM S1.length s.2 g mt me (wipeE env vs) m i S),
      ⟨s.1, ρ1 ++ [D], S1 ++ [.lst []], Ext.refl _ _ _, R2, PoR.start x2 P2⟩, ?_⟩
    rintro i m H3 ⟨ρ3, S3, x3, R3, P3⟩
    have hDn : ρ3[S1.length]? = some D := pre_get x3.pre (by rw [← R1.len]; simp)
    cases m with
    | zero => exact P3.elim
    | succ m =>
      unfold lcM at P3
      cases hs : s.2 S3 i with
      | none => rw [hs] at P3; exact P3.elim
      | some od =>
        rw [hs] at P3
        cases od with
        | none => exact .inl ⟨iok.stop ρ3 S3 H3 i (x2.trans x3) R3 hs, (P3.now R3).now R3 _ (.ref hDn)⟩
        | some x =>
          dsimp only at P3
          refine .inr ⟨iok.go ρ3 S3 H3 i x (x2.trans x3) R3 hs, fun H' => ∃ ρ S, Ext G (ρ1 ++ [D]) (upd H1 D (.lst [])) ρ H' ∧ Rel G ρ S H' ∧ PoR G W σ ρ H' (fun _ S2 ρ2 H2 => PoR G W σ ρ2 H2 (QE G Q) (.ok (.ref S1.length) S2)) (lcM S1.length s.2 g mt me (wipeE env vs) m (i + 1) S),
            fun H' h => ⟨m, Nat.lt_succ_self m, h⟩, fun v H4 hy => ?_⟩
          obtain ⟨x4, R4, rv⟩ := iok.yld ρ3 S3 H3 i x (x2.trans x3) R3 hs v H4 hy
          have P4 := PoR.start x4 P3
          refine ⟨ρ3, S3, wipeE env vs, x, R4, ((E1.ext x2).ext (x3.trans x4)).wipe vs, rv, ?_⟩
          cases hg : g x (wipeE env vs) S3 with
          | exc c S5 => rw [hg] at P4; exact P4.elim
          | bad => rw [hg] at P4; exact P4.elim
          | ok env5 S5 =>
            rw [hg] at P4
            intro ρ5 H5 x5 R5 σ5 E5 w5
            have P5 := PoR.start x5 P4
            refine ⟨w5.trans (wipe_wipe σ vs vs fun _ h => h), ρ5, S5, env5, R5, E5, ?_⟩
            dsimp only at P5
            cases ht : mt env5 S5 with
            | exc c S6 => rw [ht] at P5; exact P5.elim
            | bad => rw [ht] at P5; exact P5.elim
            | ok k S6 =>
              rw [ht] at P5
              intro ρ6 H6 x6 R6
              have P6 := PoR.start x6 P5
              dsimp only at P6
              cases k with
              | false =>
                unfold QT; dsimp only
                rw [if_neg Bool.false_ne_true] at P6 ⊢
                exact ⟨ρ6, S6, ((x3.trans x4).trans x5).trans x6, R6, P6⟩
              | true =>
                unfold QT; dsimp only
                rw [if_pos rfl] at P6 ⊢
                refine ⟨ρ6, S6, env5, R6, E5.ext x6, ?_⟩
                cases he : me env5 S6 with
                | exc c S7 => rw [he] at P6; exact P6.elim
                | bad => rw [he] at P6; exact P6.elim
                | ok y S7 =>
                  rw [he] at P6
                  intro ρ7 H7 x7 R7 vy ry
                  have P7 := PoR.start x7 P6
                  dsimp only at P7
                  have x37 := (((x3.trans x4).trans x5).trans x6).trans x7
                  have hD7 : ρ7[S1.length]? = some D := pre_get x37.pre (by rw [← R1.len]; simp)
                  split at P7
                  · rename_i acc hacc
                    by_cases hl : acc.length < LIM
                    · rw [if_pos hl] at P7
                      obtain ⟨ws, hw, rs⟩ := R7.at hacc hD7
                      refine ⟨ws, hw, by rw [← rs.1]; exact Nat.lt_of_lt_of_le hl (by decide), ?_⟩
                      obtain ⟨R8, x8⟩ := R7.write (u := .lst (ws ++ [vy])) (o' := .lst (acc ++ [y])) hacc hD7 fun e => ⟨_, upd_same, (rs.append (.cons ry .nil)).ext e⟩
                      exact ⟨ρ7, _, x37.trans x8, R8, PoR.start x8 P7⟩
                    · rw [if_neg hl] at P7; exact P7.elim
                  · exact P7.elim
theorem fts_nil : PTs X [] (tT G W mYes) := ⟨fun pins s σ H Q I ⟨ρ, S, env, R, E, P⟩ => pts_nil.run pins s σ H Q I (P.now R)⟩
theorem fts_one {c : Expr} {m : MT} (h : PT X c (tT G W m)) : PTs X [c] (tT G W m) := pts_one h
end
end Fx
/-! Fx5: objects, methods, makers, stores by place, slices; a def's rule. -/
namespace Fx
open PySem L2

/-! ### makers -/
def putD (f : Str) (v : D) : List (Str × D) → List (Str × D)
  | [] => [(f, v)]
  | (g, x) :: r => if g = f then (g, v) :: r else (g, x) :: putD f v r
/-- o.f = e -/
def mSetF (cs : List Nat) (f : Str) (o v : ME) : MS := fun env S => match (v env S).bind fun y S1 => (o env S1).bind fun x S2 => (match x with
    | .ref n => (match insAt S2 n with
      | some (c, fs) => if c ∈ cs ∧ fs.length < 1000 then .ok D.non (S2.set n (.ins c (putD f y fs))) else .bad
      | none => .bad)
    | _ => .bad) with
  | .ok _ S3 => .nx env S3
  | .exc c S3 => .exc c env S3
  | .bad => .bad
def getD? (kvs : List (Int × D)) (k : Int) : Option D := (kvs.find? fun p => p.1 == k).map (·.2)
def putI (k : Int) (v : D) (kvs : List (Int × D)) : List (Int × D) := if kvs.any (fun p => decide (p.1 = k)) = true then kvs.map (fun p => if p.1 = k then (p.1, v) else p) else kvs ++ [(k, v)]
/-- o[i] = v by values: a list, a dict -/
def vSetIx (o i v : D) (S : Sto) : R D := match o, i with
  | .ref n, .int k => (match S[n]? with
    | some (.lst xs) => (match ixN xs.length k with | some j => .ok .non (S.set n (.lst (xs.set j v))) | none => .bad)
    | some (.dic kvs) => if kvs.length < LIM then .ok .non (S.set n (.dic (putI k v kvs))) else .bad
    | _ => .bad)
  | _, _ => .bad
def mSetIx (v o i : ME) : MS := fun env S => match (v env S).bind fun z S1 => (o env S1).bind fun x S2 => (i env S2).bind fun y S3 => vSetIx x y z S3 with
  | .ok _ S3 => .nx env S3
  | .exc c S3 => .exc c env S3
  | .bad => .bad
abbrev MO := En → Sto → R (Option Int)
def oN : MO := fun _ S => .ok none S
def oS (m : ME) : MO := fun env S => (m env S).bind fun d S1 => match d with | .int i => .ok (some i) S1 | _ => .bad
def cutD (xs : List D) (lo hi : Option Int) : List D := (xs.drop (HT.sIx xs.length 0 lo)).take (HT.sIx xs.length xs.length hi - HT.sIx xs.length 0 lo)
def vSl (x : D) (lo hi : Option Int) (S : Sto) : R D := match x with
  | .ref n => (match getL S n with | some xs => newL (cutD xs lo hi) S | none => .bad)
  | .rl xs => newL (cutD xs lo hi) S
  | .tup xs => if (cutD xs lo hi).length = xs.length then .bad else .ok (.tup (cutD xs lo hi)) S
  | _ => .bad
def mSl (a : ME) (lo hi : MO) : ME := fun env S => (a env S).bind fun x S1 => (lo env S1).bind fun l S2 => (hi env S2).bind fun u S3 => vSl x l u S3
def vRev (x : D) (S : Sto) : R D := match x with
  | .ref n => (match getL S n with | some xs => newL xs.reverse S | none => .bad)
  | _ => .bad

/-- the wish of a def's body -/
abbrev wOf (E : XK) : WX := fun cls d _ H => E cls d H

section
variable {X : Cx} {G : Cc} {W : WX} {E0' : XK} {a b c d e o : Expr} {ma mb mc md me mo : ME} {pos : Pos} {σ : L2.St} {vs : List Nat} {tg : Expr}

/-! ### fields -/
theorem look_rel {ρ : List Addr} {H : Hp} : ∀ {fs : List (Str × D)} {gs : List (Str × V)}, gs.map (·.1) = fs.map (·.1) → Reps G ρ H (fs.map (·.2)) (gs.map (·.2)) → ∀ f d, fs.lookup f = some d → ∃ v, gs.lookup f = some v ∧ Rep G ρ H d v
  | [], gs, _, _, f, d, h => by simp at h
  | (g, x) :: fs, [], hk, _, f, d, h => by simp at hk
  | (g, x) :: fs, (g', v) :: gs, hk, hr, f, d, h => by
    simp only [List.map_cons, List.cons.injEq] at hk
    obtain ⟨rfl, hk⟩ := hk
    obtain ⟨w, ws, hw, r1, rs⟩ := hr.uncons
    simp only [List.map_cons, List.cons.injEq] at hw
    obtain ⟨rfl, rfl⟩ := hw
    simp only [List.lookup_cons] at h ⊢
    split at h
    · cases h; exact ⟨_, rfl, r1⟩
    · exact look_rel hk rs f d h
theorem look_none {fs : List (Str × D)} {gs : List (Str × V)} (hk : gs.map (·.1) = fs.map (·.1)) {f : Str} (h : fs.lookup f = none) : gs.lookup f = none := by
  induction fs generalizing gs with
  | nil => cases gs with | nil => rfl | cons p gs => simp at hk
  | cons p fs ih =>
    cases gs with
    | nil => rfl
    | cons q gs =>
      simp only [List.map_cons, List.cons.injEq] at hk
      obtain ⟨q1, q2⟩ := q
      obtain ⟨p1, p2⟩ := p
      simp only at hk
      obtain ⟨rfl, hk⟩ := hk
      simp only [List.lookup_cons] at h ⊢
      split at h
      · cases h
      · exact ih hk h
theorem put_rel {ρ : List Addr} {H : Hp} {f : Str} {y : D} {vy : V} (ry : Rep G ρ H y vy) : ∀ {fs : List (Str × D)} {gs : List (Str × V)}, gs.map (·.1) = fs.map (·.1) → Reps G ρ H (fs.map (·.2)) (gs.map (·.2)) →
    (putF f vy gs).map (·.1) = (putD f y fs).map (·.1) ∧ Reps G ρ H ((putD f y fs).map (·.2)) ((putF f vy gs).map (·.2))
  | [], [], _, _ => ⟨rfl, .cons ry .nil⟩
  | [], _ :: _, hk, _ => by simp at hk
  | _ :: _, [], hk, _ => by simp at hk
  | (g, x) :: fs, (g', v) :: gs, hk, hr => by
    simp only [List.map_cons, List.cons.injEq] at hk
    obtain ⟨rfl, hk⟩ := hk
    obtain ⟨w, ws, hw, r1, rs⟩ := hr.uncons
    simp only [List.map_cons, List.cons.injEq] at hw
    obtain ⟨rfl, rfl⟩ := hw
    unfold putD putF
    by_cases e : g' = f
    · rw [if_pos e, if_pos e]
      exact ⟨by simp [hk], .cons ry rs⟩
    · rw [if_neg e, if_neg e]
      obtain ⟨h1, h2⟩ := put_rel ry hk rs
      exact ⟨by simp [h1], .cons r1 h2⟩
theorem insAt_some {S : Sto} {n c : Nat} {fs : List (Str × D)} (h : insAt S n = some (c, fs)) : S[n]? = some (.ins c fs) := by
  unfold insAt at h
  split at h
  · rename_i c' fs' hs
    cases h
    exact hs
  · cases h
/-- the class at k bears no name f -/
def FldOk (K : PySem.W.Frag) (G : Cc) (cs : List Nat) (f : Str) : Prop := ∀ k ∈ cs, Cls K (G.ca k) ∧ NoAttr K (G.ca k) f
theorem fe_fld {f : Str} {cs : List Nat} (hf : FldOk X.K G cs f) (he : PE X e (tE G W me)) (hb : attributeBase e f X.env (eval e X.env) = eval e X.env := by rfl) : PE X (.Attribute e f pos) (tE G W (mFld cs f me)) := by
  refine PE.imp (pe_fld he hb) fun σ H Q ⟨ρ, S, env, R, E, P⟩ => ⟨ρ, S, env, R, E, (PoR.bind P).imp fun x S1 ρ1 H1 x1 R1 P1 v rv => ?_⟩
  split at P1
  · rename_i n
    obtain ⟨p, rfl, hp⟩ := rep_ref rv
    split at P1
    · rename_i k fs hi
      obtain ⟨dx, gs, h1, h2, h3⟩ := R1.at (insAt_some hi) hp
      by_cases hk : k ∈ cs
      · rw [if_pos hk] at P1
        split at P1
        · rename_i d hd
          obtain ⟨w, hw, rw'⟩ := look_rel h2 h3 f d hd
          exact ⟨p, _, dx, gs, w, rfl, h1, (hf k hk).1, (hf k hk).2, hw, P1.now R1 w rw'⟩
        · exact P1.elim
      · rw [if_neg hk] at P1; exact P1.elim
    · exact P1.elim
  · exact P1.elim
theorem fs_fld {f : Str} {cs : List Nat} {value : Expr} {mv : ME} {pos' : Pos} (hf : FldOk X.K G cs f) (ho : PE X o (tE G W mo)) (hv : PE X value (tE G W mv)) (hs : swapsWith value (some (.Attribute o f pos')) pos.line X.env = pure false := by rfl) :
    PS X (.Assign [.Attribute o f pos'] value pos) (tS G W (mSetF cs f mo mv)) := by
  refine PS.imp (ps_fld ho hv hs) fun Dn σ H ⟨ρ, S, env, R, E, P⟩ => ⟨ρ, S, env, R, E, ?_⟩
  unfold mSetF at P
  cases h1 : mv env S with
  | exc c S1 => rw [h1] at P; exact fun ρ1 H1 x1 R1 => P ρ1 H1 σ x1 R1 (E.ext x1)
  | bad => rw [h1] at P; exact P
  | ok y S1 =>
    rw [h1] at P
    intro ρ1 H1 x1 R1 vy ry
    have P1 := PoS.start x1 P
    refine ⟨ρ1, S1, env, R1, E.ext x1, ?_⟩
    rw [Fx.R.bind_ok] at P1
    cases h2 : mo env S1 with
    | exc c S2 => rw [h2] at P1; exact fun ρ2 H2 x2 R2 => P1 ρ2 H2 σ x2 R2 ((E.ext x1).ext x2)
    | bad => rw [h2] at P1; exact P1
    | ok x S2 =>
      rw [h2] at P1
      intro ρ2 H2 x2 R2 vx rx
      have P2 := PoS.start x2 P1
      rw [Fx.R.bind_ok] at P2
      cases x with
      | ref n =>
        obtain ⟨p, rfl, hp⟩ := rep_ref rx
        dsimp only at P2
        cases hi : insAt S2 n with
        | none => rw [hi] at P2; exact P2.elim
        | some kf =>
          obtain ⟨k, fs⟩ := kf
          rw [hi] at P2
          dsimp only at P2
          obtain ⟨dx, gs, q1, q2, q3⟩ := R2.at (insAt_some hi) hp
          by_cases hk : k ∈ cs ∧ fs.length < 1000
          · rw [if_pos hk] at P2
            obtain ⟨e1, e2⟩ := put_rel (f := f) (ry.ext x2) q2 q3
            have hlen : gs.length = fs.length := by
              have := congrArg List.length q2
              simpa using this
            obtain ⟨R3, x3⟩ := R2.write (u := .ins (G.ca k) dx (putF f vy gs)) (o' := .ins k (putD f y fs)) (insAt_some hi) hp fun e => ⟨dx, _, upd_same, e1, e2.ext e⟩
            exact ⟨p, _, dx, gs, rfl, q1, (hf k hk.1).1, (hf k hk.1).2, by rw [hlen]; exact hk.2, P2 _ _ σ x3 R3 (((E.ext x1).ext x2).ext x3)⟩
          · rw [if_neg hk] at P2; exact P2.elim
      | _ => exact P2.elim

/-! ### methods -/
/-- the method m of the class at k -/
structure Mt (X : Cx) (G : Cc) (k : Nat) (m : Str) (n : Nat) (mf : List D → Sto → R D) : Prop where
  ex : ∃ (f : Addr) (fd : FuncData) (ps : List Str) (l : Nat), Cls X.K (G.ca k) ∧ Meth X.K (G.ca k) m f ∧ FnOk X.prog X.w X.K X.mg X.base (L2.CX X.prog X.w) l f fd ps (spF G n mf) ∧ Room l X.A ∧ Binds X.K fd ps []
def LenA (m : MA) (n : Nat) : Prop := ∀ env S ds S', m env S = .ok ds S' → ds.length = n
theorem lenA_nil : LenA mNil 0 := fun env S ds S' h => by unfold mNil at h; cases h; rfl
theorem lenA_cons {me : ME} {m : MA} {n : Nat} (h : LenA m n) : LenA (mCons me m) (n + 1) := fun env S ds S' q => by
  unfold mCons at q
  cases h1 : me env S with
  | ok x S1 =>
    rw [h1] at q
    cases h2 : m env S1 with
    | ok xs S2 =>
      rw [Fx.R.bind_ok, h2] at q
      cases q
      have := h env S1 xs _ h2
      simp [this]
    | exc c S2 => rw [Fx.R.bind_ok, h2] at q; cases q
    | bad => rw [Fx.R.bind_ok, h2] at q; cases q
  | exc c S1 => rw [h1] at q; cases q
  | bad => rw [h1] at q; cases q
theorem takes_passes {E : XK} (tk : Takes X (wOf E)) : Passes (L2.CX X.prog X.w) X E := passes_call tk fun _ _ _ _ h => h
theorem PE.or {e : Expr} {t t' : TE} (h : PE X e t) (h' : PE X e t') : PE X e (fun σ H Q => t σ H Q ∨ t' σ H Q) := ⟨fun pins s σ H Q I q => q.elim (h.run pins s σ H Q I) (h'.run pins s σ H Q I)⟩
theorem PE.any {ι : Type} {e : Expr} {t : ι → TE} {p : ι → Prop} (h : ∀ i, p i → PE X e (t i)) : PE X e (fun σ H Q => ∃ i, p i ∧ t i σ H Q) := ⟨fun pins s σ H Q I ⟨i, hi, q⟩ => (h i hi).run pins s σ H Q I q⟩
theorem lookup_mem {α : Type} : ∀ {l : List (Nat × α)} {k : Nat} {v : α}, l.lookup k = some v → (k, v) ∈ l
  | [], _, _, h => by simp at h
  | (j, w) :: l, k, v, h => by
    simp only [List.lookup_cons] at h
    split at h
    · rename_i hk
      cases h
      have : k = j := by simpa using hk
      subst this
      simp
    · exact List.mem_cons_of_mem _ (lookup_mem h)
theorem meth_core {tb : List (Nat × (List D → Sto → R D))} {m : Str} {mm : MA} {n : Nat} {E : XK} {es : List Expr} {pos apos : Pos}
    (hall : ∀ (kf : Nat × (List D → Sto → R D)), kf ∈ tb → PE X (.Call (.Attribute o m apos) es [] pos) (tMeth (G.ca kf.1) m (spF G (n + 1) kf.2) [] E (tE G (wOf E) mo) (tA G (wOf E) mm)))
    (hne : tb ≠ []) (hl : LenA mm n) : PE X (.Call (.Attribute o m apos) es [] pos) (tE G (wOf E) (mMeth tb m mo mm)) := by
  refine PE.imp (PE.any (p := fun kf => kf ∈ tb) hall) fun σ H Q ⟨ρ, S, env, R, En', P⟩ => ?_
  unfold mMeth at P
  obtain ⟨kf0, h0⟩ := List.exists_mem_of_ne_nil tb hne
  cases h1 : mo env S with
  | exc c S1 =>
    rw [h1] at P
    exact ⟨kf0, h0, ρ, S, env, R, En', by rw [h1]; exact P⟩
  | bad => rw [h1] at P; exact P.elim
  | ok x S1 =>
    rw [h1, Fx.R.bind_ok] at P
    cases x with
    | ref n' =>
      dsimp only at P
      cases hi : insAt S1 n' with
      | none => rw [hi] at P; exact P.elim
      | some kfs =>
        obtain ⟨k, fs⟩ := kfs
        rw [hi] at P
        dsimp only at P
        cases ht : tb.lookup k with
        | none => rw [ht] at P; exact P.elim
        | some f =>
          rw [ht] at P
          cases hfl : fs.lookup m with
          | some d => rw [hfl] at P; exact P.elim
          | none =>
            rw [hfl] at P
            dsimp only at P
            refine ⟨(k, f), lookup_mem ht, ρ, S, env, R, En', ?_⟩
            rw [h1]
            intro ρ1 H1 x1 R1 vx rx
            obtain ⟨p, rfl, hp⟩ := rep_ref rx
            obtain ⟨dx, gs, q1, q2, q3⟩ := R1.at (insAt_some hi) hp
            refine ⟨p, dx, gs, rfl, q1, look_none q2 hfl, ρ1, S1, env, R1, En'.ext x1, ?_⟩
            have P1 := PoR.start x1 P
            cases hm : mm env S1 with
            | exc c S2 => rw [hm] at P1; exact P1
            | bad => rw [hm] at P1; exact P1
            | ok ds S2 =>
              rw [hm] at P1
              intro ρ2 H2 x2 R2 ws rs
              rw [List.append_nil]
              exact ⟨ρ2, S2, .ref n' :: ds, R2, .cons (rx.ext x2) rs, by simp [hl env S1 ds S2 hm], (PoR.start x2 P1).wish fun c H' h => h⟩
    | _ => exact P.elim
theorem fe_meth {tb : List (Nat × (List D → Sto → R D))} {m : Str} {mm : MA} (n : Nat) {E : XK} {es : List Expr} {apos : Pos} {pl : Sem Bool} (hm : ∀ kf ∈ tb, Mt X G kf.1 m (n + 1) kf.2) (hne : tb ≠ []) (hl : LenA mm n) (tk : Takes X (wOf E)) (ho : PE X o (tE G (wOf E) mo)) (ha : PA X (e :: es) (tA G (wOf E) mm))
    (hst : starEach (e :: es) X.env = (false, eval e X.env) :: starEach es X.env := by rfl) (hpl : (backTo pos (starEach es X.env)).any (·.1) = false := by rfl)
    (ht : eval (.Call (.Attribute o m apos) (e :: es) [] pos) X.env = (do
      let ov ← eval o X.env
      standAt apos.atName
      let (f, first) ← holding [ov] (getMethod ov m pl)
      callWith pos f first (backTo pos (starEach (e :: es) X.env)) (backToKw pos (keywordEach [] X.env))) := by rfl) :
    PE X (.Call (.Attribute o m apos) (e :: es) [] pos) (tE G (wOf E) (mMeth tb m mo mm)) := by
  refine meth_core (fun kf hk => ?_) hne hl
  obtain ⟨f, fd, ps, l, c, hm', F, hr, hb⟩ := (hm kf hk).ex
  exact pe_meth ho c hm' F hr hb .nil (takes_passes tk) ha hst hpl ht
theorem tA_nil_of {m : Str} {C : Addr} {sp : Sp} {E : XK} {ta : TE} : ∀ σ H Q, tMeth C m sp [] E ta (tA G W mNil) σ H Q → (∀ σ H (Q Q' : VK), (∀ v H', Q v H' → Q' v H') → ta σ H Q → ta σ H Q') → tMeth C m sp [] E ta tNil σ H Q := fun σ H Q h mono =>
  mono σ H _ _ (fun v H' ⟨a, dx, fs, e1, e2, e3, q⟩ => ⟨a, dx, fs, e1, e2, e3, by
    obtain ⟨ρ, S, env, R, E', P⟩ := q
    exact P.now R [] Reps.nil⟩) h
theorem tE_mono {m : ME} {σ : L2.St} {H : Hp} {Q Q' : VK} (h : ∀ v H', Q v H' → Q' v H') (q : tE G W m σ H Q) : tE G W m σ H Q' := by
  obtain ⟨ρ, S, env, R, E, P⟩ := q
  exact ⟨ρ, S, env, R, E, P.imp fun a S1 ρ1 H1 _ _ z v r => h v H1 (z v r)⟩
theorem fe_meth0 {tb : List (Nat × (List D → Sto → R D))} {m : Str} {E : XK} {apos : Pos} {pl : Sem Bool} (hm : ∀ kf ∈ tb, Mt X G kf.1 m 1 kf.2) (hne : tb ≠ []) (tk : Takes X (wOf E)) (ho : PE X o (tE G (wOf E) mo))
    (ht : eval (.Call (.Attribute o m apos) [] [] pos) X.env = (do
      let ov ← eval o X.env
      standAt apos.atName
      let (f, first) ← holding [ov] (getMethod ov m pl)
      callWith pos f first (backTo pos (starEach [] X.env)) (backToKw pos (keywordEach [] X.env))) := by rfl) :
    PE X (.Call (.Attribute o m apos) [] [] pos) (tE G (wOf E) (mMeth tb m mo mNil)) := by
  refine meth_core (n := 0) (fun kf hk => ?_) hne lenA_nil
  obtain ⟨f, fd, ps, l, c, hm', F, hr, hb⟩ := (hm kf hk).ex
  exact PE.imp (pe_meth0 ho c hm' F hr hb .nil (takes_passes tk) ht) fun σ H Q h => tA_nil_of σ H Q h fun σ H Q Q' hq => tE_mono hq

/-! ### new instances -/
structure Mke (X : Cx) (G : Cc) (x : Str) (k : Nat) (n : Nat) (mf : List D → Sto → R D) : Prop where
  ex : ∃ (f : Addr) (fd : FuncData) (ps : List Str) (l : Nat), Mk X.K (G.ca k) f ∧ FnOk X.prog X.w X.K X.mg X.base (L2.CX X.prog X.w) l f fd ps (spF G n mf) ∧ Room (l + 1) X.A ∧ X.mg x = some (.ref (G.ca k)) ∧ Binds X.K fd ps []
theorem make_core {k n : Nat} {f : List D → Sto → R D} {ds : List D} {S1 : Sto} {ρ1 : List Addr} {H1 : Hp} {ws : List V} {Q : VK} {E : XK} (R1 : Rel G ρ1 S1 H1) (rs : Reps G ρ1 H1 ds ws) (hl : ds.length = n)
    (P : PoR G (wOf E) σ ρ1 H1 (QE G Q) ((f (.ref S1.length :: ds) (S1 ++ [.ins k []])).bind fun d S2 => match d with | .non => .ok (.ref S1.length) S2 | _ => .bad)) :
    ∀ x dx, H1 x = none → H1 dx = none → dx ≠ x → spF G (n + 1) f (.ref x :: (ws ++ [])) (upd (upd H1 dx (.own x)) x (.ins (G.ca k) dx [])) (fun v H2 => v = .non ∧ Q (.ref x) H2) E := by
  intro x dx hx hdx hne
  have R2 := R1.fresh (p := dx) (o := .own x) hdx
  have x2 : Ext G ρ1 H1 ρ1 (upd H1 dx (.own x)) := Ext.fresh hdx
  have hx2 : (upd H1 dx (.own x)) x = none := by rw [upd_ne (Ne.symm hne)]; exact hx
  obtain ⟨R3, x3⟩ := R2.alloc (u := .ins (G.ca k) dx []) (o := .ins k []) hx2 fun e => ⟨dx, [], upd_same, rfl, Reps.nil⟩
  have hxn : (ρ1 ++ [x])[S1.length]? = some x := by rw [← R1.len]; simp
  refine ⟨ρ1 ++ [x], S1 ++ [.ins k []], .ref S1.length :: ds, R3, .cons (.ref hxn) (by rw [List.append_nil]; exact rs.ext (x2.trans x3)), by simp [hl], ?_⟩
  have P1 := PoR.bind (PoR.start (x2.trans x3) P)
  refine PoR.wish (W := wOf E) (σ := σ) (fun c H' h => h) (P1.imp fun d S4 ρ4 H4 x4 R4 P4 v rv => ?_)
  cases d with
  | non => cases rv; exact ⟨rfl, P4.now R4 _ (.ref (pre_get x4.pre hxn))⟩
  | _ => exact P4.elim
theorem fe_make {x : Str} {k : Nat} (n : Nat) {f : List D → Sto → R D} {es : List Expr} {m : MA} {p : Pos} {E : XK} (M : Mke X G x k (n + 1) f) (tk : Takes X (wOf E)) (hl : LenA m n) (ha : PA X (e :: es) (tA G (wOf E) m)) (hg : Gl X x := by rfl) (hdb : (x == ("__debug__" : Str)) = false := by decide)
    (he : starEach (e :: es) X.env = (false, eval e X.env) :: starEach es X.env := by rfl) (hpl : (backTo pos (starEach es X.env)).any (·.1) = false := by rfl) : PE X (.Call (.Name x p) (e :: es) [] pos) (tE G (wOf E) (mMake k f m)) := by
  obtain ⟨fa, fd, ps, l, M1, F, hr, hm, hb⟩ := M.ex
  refine PE.imp (pe_make M1 F hr hg hm hb .nil (takes_passes tk) ha hdb he hpl) fun σ H Q ⟨ρ, S, env, R, E', P⟩ => ⟨ρ, S, env, R, E', ?_⟩
  unfold mMake at P
  cases h1 : m env S with
  | exc c S1 => rw [h1] at P; exact P
  | bad => rw [h1] at P; exact P
  | ok ds S1 =>
    rw [h1] at P
    exact fun ρ1 H1 x1 R1 ws rs => make_core R1 rs (hl env S ds S1 h1) (PoR.start x1 P)
theorem fe_make0 {x : Str} {k : Nat} {f : List D → Sto → R D} {p : Pos} {E : XK} (M : Mke X G x k 1 f) (tk : Takes X (wOf E)) (hg : Gl X x := by rfl) (hdb : (x == ("__debug__" : Str)) = false := by decide) : PE X (.Call (.Name x p) [] [] pos) (tE G (wOf E) (mMake k f mNil)) := by
  obtain ⟨fa, fd, ps, l, M1, F, hr, hm, hb⟩ := M.ex
  refine PE.imp (pe_make0 M1 F hr hg hm hb .nil (takes_passes tk) hdb) fun σ H Q ⟨ρ, S, env, R, E', P⟩ => ?_
  exact make_core R Reps.nil rfl P

/-! ### f() -/
theorem fe_call0 {x : Str} {f : List D → Sto → R D} {p : Pos} {E : XK} (F : Fn X G x 0 f) (tk : Takes X (wOf E)) (hg : Gl X x := by rfl) (hdb : (x == ("__debug__" : Str)) = false := by decide) : PE X (.Call (.Name x p) [] [] pos) (tE G (wOf E) (mCall f mNil)) := by
  obtain ⟨fa, fd, ps, k, F1, hr, hm, hk, hb⟩ := F.ex
  refine PE.imp (pe_call0 F1 hr hg hm hk hb .nil (takes_passes tk) hdb) fun σ H Q ⟨ρ, S, env, R, E', P⟩ => ?_
  exact ⟨ρ, S, [], R, Reps.nil, rfl, PoR.wish (W := wOf E) (σ := σ) (fun c H' h => h) P⟩

/-! ### o[i] = v -/
theorem PS.or {st : Stmt} {t t' : TS} (h : PS X st t) (h' : PS X st t') : PS X st (fun Dn σ H => t Dn σ H ∨ t' Dn σ H) := ⟨fun pins s σ H Dn I q => q.elim (h.run pins s σ H Dn I) (h'.run pins s σ H Dn I)⟩
theorem any_rel {k : Int} : ∀ {kvs : List (Int × D)} {kws : List (Key × V)}, kws.map (·.1) = kvs.map (fun p => (Sum.inl p.1 : Key)) → (kws.any fun kv => decide (kv.1 = Sum.inl k)) = kvs.any fun p => decide (p.1 = k)
  | [], [], _ => rfl
  | [], _ :: _, hk => by simp at hk
  | _ :: _, [], hk => by simp at hk
  | (g, x) :: fs, (g', v) :: gs, hk => by
    simp only [List.map_cons, List.cons.injEq] at hk
    obtain ⟨rfl, hk⟩ := hk
    have := any_rel (k := k) hk
    simp only [List.any_cons, this]
    congr 1
    by_cases e : g = k
    · simp [e]
    · have e' : ¬ ((Sum.inl g : Key) = Sum.inl k) := fun z => e (Sum.inl.inj z)
      simp [e, e']
theorem mapI_rel {ρ : List Addr} {H : Hp} {k : Int} {y : D} {vy : V} (ry : Rep G ρ H y vy) : ∀ {kvs : List (Int × D)} {kws : List (Key × V)}, kws.map (·.1) = kvs.map (fun p => (Sum.inl p.1 : Key)) → Reps G ρ H (kvs.map (·.2)) (kws.map (·.2)) →
    (kws.map (fun kv => if kv.1 = Sum.inl k then (kv.1, vy) else kv)).map (·.1) = (kvs.map (fun p => if p.1 = k then (p.1, y) else p)).map (fun p => (Sum.inl p.1 : Key)) ∧ Reps G ρ H ((kvs.map (fun p => if p.1 = k then (p.1, y) else p)).map (·.2)) ((kws.map (fun kv => if kv.1 = Sum.inl k then (kv.1, vy) else kv)).map (·.2))
  | [], [], _, _ => ⟨rfl, Reps.nil⟩
  | [], _ :: _, hk, _ => by simp at hk
  | _ :: _, [], hk, _ => by simp at hk
  | (g, x) :: fs, (g', v) :: gs, hk, hr => by
    simp only [List.map_cons, List.cons.injEq] at hk
    obtain ⟨rfl, hk⟩ := hk
    obtain ⟨w, ws, hw, r1, rs⟩ := hr.uncons
    simp only [List.map_cons, List.cons.injEq] at hw
    obtain ⟨rfl, rfl⟩ := hw
    obtain ⟨h1, h2⟩ := mapI_rel (k := k) ry hk rs
    simp only [List.map_cons]
    by_cases e : g = k
    · subst e
      simp only [if_true]
      exact ⟨by rw [h1], .cons ry h2⟩
    · have e' : ¬ ((Sum.inl g : Key) = Sum.inl k) := fun z => e (Sum.inl.inj z)
      simp only [if_neg e, if_neg e']
      exact ⟨by rw [h1], .cons r1 h2⟩
theorem putI_rel {ρ : List Addr} {H : Hp} {k : Int} {y : D} {vy : V} (ry : Rep G ρ H y vy) {kvs : List (Int × D)} {kws : List (Key × V)} (hk : kws.map (·.1) = kvs.map (fun p => (Sum.inl p.1 : Key))) (hr : Reps G ρ H (kvs.map (·.2)) (kws.map (·.2))) :
    (putK kws (Sum.inl k) vy).map (·.1) = (putI k y kvs).map (fun p => (Sum.inl p.1 : Key)) ∧ Reps G ρ H ((putI k y kvs).map (·.2)) ((putK kws (Sum.inl k) vy).map (·.2)) := by
  unfold putI putK
  rw [any_rel hk]
  by_cases e : (kvs.any fun p => decide (p.1 = k)) = true
  · rw [if_pos e, if_pos e]
    exact mapI_rel ry hk hr
  · rw [if_neg e, if_neg e]
    simp only [List.map_append, hk, List.map_cons, List.map_nil, true_and]
    exact hr.append (.cons ry .nil)
theorem fs_setIx {value : Expr} {mv mi : ME} {i : Expr} {pos' : Pos} (hu : X.A.units + 1 < cLine) (hv : PE X value (tE G W mv)) (ho : PE X o (tE G W mo)) (hi : PE X i (tE G W mi)) (hs : swapsWith value (some (.Subscript o i pos')) pos.line X.env = pure false := by rfl)
    (ha : ∀ v, assign (.Subscript o i pos') X.env v = (do
      let ov ← holding [v] (eval o X.env)
      let iv ← holding [v, ov] (eval i X.env)
      standAt pos'
      holding [v, ov, iv] (setItem ov iv v)
      release [v, ov, iv] []) := by intro _; rfl)
    (hs1 : swapsWithSole [.Subscript o i pos'] value pos.line X.env = pure false := by rfl) (hw : swappedStores [.Subscript o i pos'] value X.env = pure none := by rfl)
    (h1 : (assignEach [.Subscript o i pos'] X.env).map (·.2) = [assign (.Subscript o i pos') X.env] := by rfl) :
    PS X (.Assign [.Subscript o i pos'] value pos) (tS G W (mSetIx mv mo mi)) := by
  refine PS.imp (PS.or (ps_asg hv (pg_sub ho hi set_list ha) hs1 hw h1) (ps_dput hu ho hi hv hs)) fun Dn σ H ⟨ρ, S, env, R, E, P⟩ => ?_
  unfold mSetIx at P
  cases e1 : mv env S with
  | exc c S1 => rw [e1] at P; exact .inl ⟨ρ, S, env, R, E, by rw [e1]; exact fun ρ1 H1 x1 R1 => P ρ1 H1 σ x1 R1 (E.ext x1)⟩
  | bad => rw [e1] at P; exact P.elim
  | ok z S1 =>
    rw [e1, Fx.R.bind_ok] at P
    cases e2 : mo env S1 with
    | exc c S2 =>
      rw [e2] at P
      refine .inl ⟨ρ, S, env, R, E, ?_⟩
      rw [e1]
      intro ρ1 H1 x1 R1 vz rz
      exact ⟨ρ1, S1, env, R1, E.ext x1, by rw [e2]; exact fun ρ2 H2 x2 R2 => PoS.start x1 P ρ2 H2 σ x2 R2 ((E.ext x1).ext x2)⟩
    | bad => rw [e2] at P; exact P.elim
    | ok x S2 =>
      rw [e2, Fx.R.bind_ok] at P
      cases e3 : mi env S2 with
      | exc c S3 =>
        rw [e3] at P
        refine .inl ⟨ρ, S, env, R, E, ?_⟩
        rw [e1]
        intro ρ1 H1 x1 R1 vz rz
        refine ⟨ρ1, S1, env, R1, E.ext x1, ?_⟩
        rw [e2]
        intro ρ2 H2 x2 R2 vx rx
        exact ⟨ρ2, S2, env, R2, (E.ext x1).ext x2, by rw [e3]; exact fun ρ3 H3 x3 R3 => PoS.start (x1.trans x2) P ρ3 H3 σ x3 R3 (((E.ext x1).ext x2).ext x3)⟩
      | bad => rw [e3] at P; exact P.elim
      | ok y S3 =>
        rw [e3, Fx.R.bind_ok] at P
        unfold vSetIx at P
        split at P
        · rename_i d S4 hd
          split at hd
          · rename_i n k
            split at hd
            · rename_i xs hx
              split at hd
              · rename_i j hj
                cases hd
                refine .inl ⟨ρ, S, env, R, E, ?_⟩
                rw [e1]
                intro ρ1 H1 x1 R1 vz rz
                refine ⟨ρ1, S1, env, R1, E.ext x1, ?_⟩
                rw [e2]
                intro ρ2 H2 x2 R2 vx rx
                refine ⟨ρ2, S2, env, R2, (E.ext x1).ext x2, ?_⟩
                rw [e3]
                intro ρ3 H3 x3 R3 vy ry
                obtain ⟨p, rfl, hp⟩ := rep_ref rx
                cases ry
                have hp3 := pre_get x3.pre hp
                obtain ⟨ws, q1, q2⟩ := R3.at hx hp3
                obtain ⟨R4, x4⟩ := R3.write (u := .lst (ws.set j vz)) (o' := .lst (xs.set j z)) hx hp3 fun e => ⟨_, upd_same, (q2.set ((rz.ext x2).ext x3)).ext e⟩
                exact ⟨p, ws, k, j, rfl, rfl, q1, by rw [← q2.1]; exact hj, P ρ3 _ σ (((x1.trans x2).trans x3).trans x4) R4 ((((E.ext x1).ext x2).ext x3).ext x4)⟩
              · cases hd
            · rename_i kvs hx
              by_cases hl : kvs.length < LIM
              · rw [if_pos hl] at hd
                cases hd
                refine .inr ⟨ρ, S, env, R, E, ?_⟩
                rw [e1]
                intro ρ1 H1 x1 R1 vz rz
                refine ⟨ρ1, S1, env, R1, E.ext x1, ?_⟩
                rw [e2]
                intro ρ2 H2 x2 R2 vx rx
                refine ⟨ρ2, S2, env, R2, (E.ext x1).ext x2, ?_⟩
                rw [e3]
                intro ρ3 H3 x3 R3 vy ry
                obtain ⟨p, rfl, hp⟩ := rep_ref rx
                cases ry
                have hp3 := pre_get x3.pre hp
                obtain ⟨kws, q1, q2, q3⟩ := R3.at hx hp3
                have hlen : kws.length = kvs.length := by
                  have := congrArg List.length q2
                  simpa using this
                obtain ⟨h1, h2⟩ := putI_rel (k := k) ((rz.ext x2).ext x3) q2 q3
                obtain ⟨R4, x4⟩ := R3.write (u := .dK (putK kws (Sum.inl k) vz)) (o' := .dic (putI k z kvs)) hx hp3 fun e => ⟨_, upd_same, h1, h2.ext e⟩
                exact ⟨p, _, rfl, DPut.k (k := Sum.inl k) q1 (by rw [hlen]; exact Nat.lt_of_lt_of_le hl (by decide)), P ρ3 _ σ (((x1.trans x2).trans x3).trans x4) R4 ((((E.ext x1).ext x2).ext x3).ext x4)⟩
              · rw [if_neg hl] at hd; cases hd
            · cases hd
          · cases hd
        · rename_i c S4 hd
          split at hd
          · split at hd
            · split at hd <;> cases hd
            · split at hd <;> cases hd
            · cases hd
          · cases hd
        · exact P.elim

/-! ### slices -/
def tO (G : Cc) (W : WX) (m : MO) : TO := fun σ H Q => ∃ ρ S env, Rel G ρ S H ∧ EnvR G ρ H env σ ∧ PoR G W σ ρ H (fun o _ _ H' => Q o H') (m env S)
theorem PO.imp {e : Option Expr} {t t' : TO} (h : PO X e t) (hi : ∀ σ H Q, t' σ H Q → t σ H Q) : PO X e t' := by
  obtain ⟨h1⟩ := h
  exact ⟨fun pins s σ H Q I q => h1 pins s σ H Q I (hi _ _ _ q)⟩
theorem fo_none : PO X none (tO G W oN) := PO.imp po_none fun σ H Q ⟨ρ, S, env, R, E, P⟩ => P.now R
theorem fo_some (h : PE X e (tE G W me)) : PO X (some e) (tO G W (oS me)) := by
  refine PO.imp (po_some h) fun σ H Q ⟨ρ, S, env, R, E, P⟩ => ⟨ρ, S, env, R, E, (PoR.bind P).imp fun d S1 ρ1 H1 x1 R1 P1 v rv => ?_⟩
  cases d with
  | int i => cases rv; exact ⟨i, rfl, P1.now R1⟩
  | _ => exact P1.elim
theorem cut_rel {ρ : List Addr} {H : Hp} {xs : List D} {ws : List V} (r : Reps G ρ H xs ws) (lo hi : Option Int) : Reps G ρ H (cutD xs lo hi) (cutV ws lo hi) := by
  unfold cutD cutV
  rw [← r.1]
  exact (r.drop _).take _
theorem cut_len {xs : List D} {lo hi : Option Int} (h : ¬ (cutD xs lo hi).length = xs.length) : ¬ (HT.sIx xs.length 0 lo = 0 ∧ HT.sIx xs.length xs.length hi = xs.length) := fun ⟨h1, h2⟩ => h (by
  unfold cutD
  rw [h1, h2]
  simp)
theorem fe_slice {p2 : Pos} {lo hi : Option Expr} {ml mh : MO} (he : PE X e (tE G W me)) (hl : PO X lo (tO G W ml)) (hh : PO X hi (tO G W mh)) (hK : X.K = G.K := by rfl) : PE X (.Subscript e (.Slice lo hi none p2) pos) (tE G W (mSl me ml mh)) := by
  refine PE.imp (pe_slice (sl_list.or sl_tup) he hl hh) fun σ H Q ⟨ρ, S, env, R, E, P⟩ => ⟨ρ, S, env, R, E, (PoR.bind P).imp fun x S1 ρ1 H1 x1 R1 P1 vx rx => ?_⟩
  refine ⟨ρ1, S1, env, R1, E.ext x1, (PoR.bind P1).imp fun l S2 ρ2 H2 x2 R2 P2 => ?_⟩
  refine ⟨ρ2, S2, env, R2, (E.ext x1).ext x2, (PoR.bind P2).imp fun u S3 ρ3 H3 x3 R3 P3 => ?_⟩
  have rx3 := (rx.ext x2).ext x3
  cases x with
  | ref n =>
    obtain ⟨p, rfl, hp⟩ := rep_ref rx3
    unfold vSl at P3
    dsimp only at P3
    cases hg : getL S3 n with
    | none => rw [hg] at P3; exact P3.elim
    | some xs =>
      rw [hg] at P3
      obtain ⟨ws, q, r⟩ := R3.listAt hp hg
      rw [hK]
      exact .inl ⟨p, ws, rfl, q, fun t ht => new_lst R3 (cut_rel r l u) P3 ht⟩
  | rl xs =>
    obtain ⟨p, ws, rfl, q, r⟩ := rep_rlD rx3
    rw [hK]
    exact .inl ⟨p, ws, rfl, q, fun t ht => new_lst R3 (cut_rel r l u) P3 ht⟩
  | tup xs =>
    obtain ⟨p, ws, rfl, q, r⟩ := rep_tupD rx3
    unfold vSl at P3
    dsimp only at P3
    by_cases hc : (cutD xs l u).length = xs.length
    · rw [if_pos hc] at P3; exact P3.elim
    · rw [if_neg hc] at P3
      rw [hK]
      refine .inr ⟨p, ws, rfl, q, by have := cut_len hc; rw [r.1] at this; exact this, fun t ht => ?_⟩
      exact P3 _ _ (Ext.fresh ht) (R3.fresh ht) _ (rep_tup ht (cut_rel r l u))
  | _ => exact P3.elim
theorem fe_revL {k : Nat} {p1 p2 p3 : Pos} (he : PE X e (tE G W me)) (hK : X.K = G.K := by rfl) : PE X (.Subscript e (.Slice none none (some (.UnaryOp .USub (.Constant (.int 1) k p1) p2)) p3) pos) (tE G W (mUn vRev me)) := by
  refine PE.imp (pe_revL he) fun σ H Q ⟨ρ, S, env, R, E, P⟩ => ⟨ρ, S, env, R, E, (PoR.bind P).imp fun x S1 ρ1 H1 x1 R1 P1 vx rx => ?_⟩
  cases x with
  | ref n =>
    obtain ⟨p, rfl, hp⟩ := rep_ref rx
    unfold vRev at P1
    dsimp only at P1
    cases hg : getL S1 n with
    | none => rw [hg] at P1; exact P1.elim
    | some xs =>
      rw [hg] at P1
      obtain ⟨ws, q, r⟩ := R1.listAt hp hg
      rw [hK]
      exact ⟨p, ws, rfl, q, fun t ht => new_lst R1 r.reverse P1 ht⟩
  | _ => exact P1.elim

/-! ### a def by its body -/
/-- how a def's body makes a function of its arguments: N slots -/
def fnOf (n N : Nat) (m : MS) : List D → Sto → R D := fun ds S => match m (ds.map some ++ List.replicate (N - n) none) S with
  | .rt d S' => .ok d S'
  | .nx _ S' => .ok .non S'
  | .exc c _ S' => .exc c S'
  | _ => .bad
theorem envR_start {ρ : List Addr} {H : Hp} {ds : List D} {ws : List V} {N : List Str} (r : Reps G ρ H ds ws) : EnvR G ρ H (ds.map some ++ List.replicate (N.length - ds.length) none) (L2.start N ws) := by
  unfold L2.start
  rw [← r.1]
  refine ⟨by simp [r.1], fun i d h => ?_⟩
  by_cases hi : i < ds.length
  · rw [List.getElem?_append_left (by simpa using hi), List.getElem?_map] at h
    rw [List.getElem?_append_left (by rw [List.length_map, ← r.1]; exact hi), List.getElem?_map]
    cases hd : ds[i]? with
    | none => rw [hd] at h; cases h
    | some d' =>
      rw [hd] at h
      cases h
      obtain ⟨v, hv, rv⟩ := r.get hd
      exact ⟨v, by rw [hv]; rfl, rv⟩
  · rw [List.getElem?_append_right (by simpa using hi), List.getElem?_replicate] at h
    split at h <;> cases h
theorem def_ok {P : Program} {w : World} {mg : Str → Option Value} {base : Heap} {x qual : Str} {st : Stmt} {f : Addr} {fd : FuncData} {N ps : List Str} {k n : Nat} {m : MS} (F : Fun G.K x qual st f fd) (Sc : FnScope N ps (defScope st)) (hn : ps.length = n)
    (body : ∀ (cdv : Value) (A : Around) (outer : List Env) (s : Shared) (H : Hp) (E : XK), Room k (A.deeper (PyProof.Rows.envOfC qual (defScope st) s.heap.objs.size f cdv)) →
      Takes (cxOf (L2.CX P w) P w G.K mg base N qual (defScope st) f cdv A outer s H E) (wOf E) → PassesOwn (model P w) (A.deeper (PyProof.Rows.envOfC qual (defScope st) s.heap.objs.size f cdv)) (PyProof.Rows.envOfC qual (defScope st) s.heap.objs.size f cdv) (cxOf (L2.CX P w) P w G.K mg base N qual (defScope st) f cdv A outer s H E).xe →
      PSs (cxOf (L2.CX P w) P w G.K mg base N qual (defScope st) f cdv A outer s H E) (defBody st) (tS G (wOf E) m)) :
    FnOk P w G.K mg base (L2.CX P w) (k + 1) f fd ps (spF G n (fnOf n N.length m)) := by
  refine F.okX Sc (fun vs H Q E h => by rw [hn]; exact h.len) fun cdv A outer s H vs Q E hr h => ⟨tS G (wOf E) m, body cdv A outer s H E hr (takes_of rfl rfl rfl rfl) (passes_of (X := cxOf (L2.CX P w) P w G.K mg base N qual (defScope st) f cdv A outer s H E) rfl), ?_⟩
  obtain ⟨ρ, S, ds, R, rs, hl, Pp⟩ := h
  refine ⟨ρ, S, _, R, envR_start rs, ?_⟩
  unfold fnOf at Pp
  rw [hl]
  cases hm : m (ds.map some ++ List.replicate (N.length - n) none) S with
  | nx e S' => rw [hm] at Pp; exact fun ρ1 H1 σ1 x1 R1 _ => Pp ρ1 H1 x1 R1 .non .non
  | rt d S' => rw [hm] at Pp; exact fun ρ1 H1 v x1 R1 rv => Pp ρ1 H1 x1 R1 v rv
  | bk e S' => rw [hm] at Pp; exact Pp.elim
  | ct e S' => rw [hm] at Pp; exact Pp.elim
  | exc c e S' => rw [hm] at Pp; exact fun ρ1 H1 σ1 x1 R1 _ => Pp ρ1 H1 x1 R1
  | bad => rw [hm] at Pp; exact Pp.elim
end
end Fx
/-! Fx6: what operators and built-ins do to data. -/
namespace Fx
open PySem L2

/-! ### numbers -/
def bits (i : Int) : Nat := Builtin.Int.intBits i
/-- a product that the machine makes -/
def mulOk (i j : Int) : Bool := decide (bits i ≤ 64) || decide (bits j ≤ 64) || decide (bits i + bits j ≤ 100000000)
theorem mulOk_ok {i j : Int} (h : mulOk i j = true) : IntMulOk i j := by
  unfold mulOk at h
  simp only [Bool.or_eq_true, decide_eq_true_eq] at h
  rcases h with (h | h) | h
  · exact IntMulOk.of_left h
  · exact IntMulOk.of_right h
  · intro z
    rw [Bool.and_eq_true] at z
    have z2 := z.2
    unfold Builtin.Int.intTooBig at z2
    have z3 := of_decide_eq_true z2
    have e : bitsLine = 134217728 := by decide
    rw [e] at z3
    unfold bits at h
    omega
def vAdd (x y : D) (S : Sto) : R D := match x, y with
  | .int i, .int j => .ok (.int (i + j)) S
  | .ref n, .ref m => (match getM S n, getM S m with | some xs, some ys => newL (xs ++ ys) S | _, _ => .bad)
  | .tup xs, .tup ys => if xs ≠ [] ∧ xs.length + ys.length ≤ 1000 then .ok (.tup (xs ++ ys)) S else .bad
  | _, _ => .bad
def vSub (x y : D) (S : Sto) : R D := match x, y with | .int i, .int j => .ok (.int (i - j)) S | _, _ => .bad
def vMul (x y : D) (S : Sto) : R D := match x, y with
  | .int i, .int j => if mulOk i j = true then .ok (.int (i * j)) S else .bad
  | .ref n, .int k => (match getM S n with | some xs => if 0 ≤ k ∧ k ≤ 1000 then newL (List.replicate k.toNat xs).flatten S else .bad | none => .bad)
  | _, _ => .bad
def vDiv (x y : D) (S : Sto) : R D := match x, y with | .int i, .int j => if 0 < j ∧ j < 1073741824 then .ok (.int (i / j)) S else .bad | _, _ => .bad
def vMod (x y : D) (S : Sto) : R D := match x, y with | .int i, .int j => if 0 < j then .ok (.int (i % j)) S else .bad | _, _ => .bad
def vPow (x y : D) (S : Sto) : R D := match x, y with | .int i, .int j => if 0 ≤ j ∧ j ≤ 1000 ∧ i.natAbs < 2 ^ 64 then .ok (.int (i ^ j.toNat)) S else .bad | _, _ => .bad
def vNeg (x : D) (S : Sto) : R D := match x with | .int i => .ok (.int (-i)) S | _ => .bad
def vLt (x y : D) (S : Sto) : R D := match x, y with | .int i, .int j => .ok (.bl (decide (i < j))) S | _, _ => .bad
def vLe (x y : D) (S : Sto) : R D := match x, y with | .int i, .int j => .ok (.bl (decide (i ≤ j))) S | _, _ => .bad
def vGt (x y : D) (S : Sto) : R D := match x, y with | .int i, .int j => .ok (.bl (decide (j < i))) S | _, _ => .bad
def vGe (x y : D) (S : Sto) : R D := match x, y with | .int i, .int j => .ok (.bl (decide (j ≤ i))) S | _, _ => .bad
/-! ### data as a tree -/
def allO {α β : Type} (f : α → Option β) : List α → Option (List β)
  | [] => some []
  | d :: ds => match f d, allO f ds with | some x, some xs => some (x :: xs) | _, _ => none
def toP : Nat → Sto → D → Option PyData
  | _, _, .non => some .none
  | _, _, .bl b => some (.bool b)
  | _, _, .int i => some (.int i)
  | f + 1, S, .tup ds => (allO (toP f S) ds).map .tuple
  | f + 1, S, .rl ds => (allO (toP f S) ds).map .list
  | f + 1, S, .ref n => match getL S n with | some xs => (allO (toP f S) xs).map .list | none => none
  | _, _, _ => none
abbrev TD : Nat := 8
def vEq (x y : D) (S : Sto) : R D := match x, y with
  | .str a, .str b => .ok (.bl (decide (a = b))) S
  | x, y => match toP TD S x, toP TD S y with | some d, some e => .ok (.bl (PyData.eqv d e)) S | _, _ => .bad
def vNe (x y : D) (S : Sto) : R D := match x, y with
  | .str a, .str b => .ok (.bl (!decide (a = b))) S
  | x, y => match toP TD S x, toP TD S y with | some d, some e => .ok (.bl (!PyData.eqv d e)) S | _, _ => .bad
def isNon : D → Bool | .non => true | _ => false
/-- is None, is True, is False -/
def vIs (x y : D) (S : Sto) : R D := match x, y with
  | x, .non => .ok (.bl (isNon x)) S
  | .bl a, .bl b => .ok (.bl (decide (a = b))) S
  | _, _ => .bad
def vIsNot (x y : D) (S : Sto) : R D := match x, y with
  | x, .non => .ok (.bl (!isNon x)) S
  | .bl a, .bl b => .ok (.bl (!decide (a = b))) S
  | _, _ => .bad
def intsOf : List D → Option (List Int) := allO fun d => match d with | .int i => some i | _ => none
def blsOf : List D → Option (List Bool) := allO fun d => match d with | .bl i => some i | _ => none
/-- a number in a list or tuple of numbers, in a dict -/
def vIn (neg : Bool) (x y : D) (S : Sto) : R D := match x, y with
  | .int i, .ref n => (match S[n]? with
    | some (.dic kvs) => .ok (.bl (if neg = true then !kvs.any (fun p => decide (p.1 = i)) else kvs.any (fun p => decide (p.1 = i)))) S
    | some (.lst xs) => (match intsOf xs with | some is => .ok (.bl (if neg = true then !is.contains i else is.contains i)) S | none => .bad)
    | _ => .bad)
  | .int i, .tup xs => (match intsOf xs with | some is => .ok (.bl (if neg = true then !is.contains i else is.contains i)) S | none => .bad)
  | _, _ => .bad
/-- x[i] -/
def vIx (x y : D) (S : Sto) : R D := match x, y with
  | .ref n, .int i => (match getL S n with | some xs => (match atI xs i with | some d => .ok d S | none => .bad) | none => .bad)
  | .tup xs, .int i => (match atI xs i with | some d => .ok d S | none => .bad)
  | _, _ => .bad

section
variable {G : Cc} {ρ : List Addr} {S : Sto} {H : Hp} {X : Cx} {W : WX} {σ : L2.St}
theorem rep_int {i : Int} {v : V} (r : Rep G ρ H (.int i) v) : v = .int i := by cases r; rfl
theorem rep_bl {i : Bool} {v : V} (r : Rep G ρ H (.bl i) v) : v = .bl i := by cases r; rfl
theorem rep_str {i : Str} {v : V} (r : Rep G ρ H (.str i) v) : v = .str i := by cases r; rfl
theorem rep_non {v : V} (r : Rep G ρ H .non v) : v = .non := by cases r; rfl
theorem orR {f : Value → Value → Sem Value} {r r' : R2} (h : OpR X f r) (h' : OpR X f r') : OpR X f (fun x y H Q => r x y H Q ∨ r' x y H Q) := OpR.or h h'
/-- two numbers in, one thing out -/
theorem opF_int {C : Int → Int → Prop} [∀ i j, Decidable (C i j)] {g : Int → Int → D} {gv : Int → Int → V} (hg : ∀ (ρ : List Addr) (H : Hp) (i j : Int), Rep G ρ H (g i j) (gv i j)) :
    OpF G (rI C gv) (fun x y S => match x, y with | .int i, .int j => if C i j then .ok (g i j) S else .bad | _, _ => .bad) := by
  intro W σ ρ S H x y vx vy Q R rx ry P
  dsimp only at P
  split at P
  · rename_i i j
    cases rep_int rx
    cases rep_int ry
    by_cases h : C i j
    · rw [if_pos h] at P
      exact ⟨i, j, rfl, rfl, h, P.now R _ (hg ρ H i j)⟩
    · rw [if_neg h] at P; exact P.elim
  · exact P.elim
theorem opF_int0 {g : Int → Int → D} {gv : Int → Int → V} (hg : ∀ (ρ : List Addr) (H : Hp) (i j : Int), Rep G ρ H (g i j) (gv i j)) :
    OpF G (rI0 gv) (fun x y S => match x, y with | .int i, .int j => .ok (g i j) S | _, _ => .bad) := by
  intro W σ ρ S H x y vx vy Q R rx ry P
  dsimp only at P
  split at P
  · rename_i i j
    cases rep_int rx
    cases rep_int ry
    exact ⟨i, j, rfl, rfl, P.now R _ (hg ρ H i j)⟩
  · exact P.elim
theorem f_sub : OpF G (rI0 fun i j => .int (i - j)) vSub := opF_int0 fun _ _ _ _ => .int _
theorem f_lt : OpF G (rI0 fun i j => .bl (decide (i < j))) vLt := opF_int0 fun _ _ _ _ => .bl _
theorem f_le : OpF G (rI0 fun i j => .bl (decide (i ≤ j))) vLe := opF_int0 fun _ _ _ _ => .bl _
theorem f_gt : OpF G (rI0 fun i j => .bl (decide (j < i))) vGt := opF_int0 fun _ _ _ _ => .bl _
theorem f_ge : OpF G (rI0 fun i j => .bl (decide (j ≤ i))) vGe := opF_int0 fun _ _ _ _ => .bl _
theorem f_div : OpF G (rI CDiv fun i j => .int (i / j)) vDiv := opF_int (C := fun i j => 0 < j ∧ j < 1073741824) fun _ _ _ _ => .int _
theorem f_mod : OpF G (rI (fun _ j => 0 < j) fun i j => .int (i % j)) vMod := opF_int fun _ _ _ _ => .int _
theorem f_pow : OpF G (rI CPow fun i j => .int (i ^ j.toNat)) vPow := by
  intro W σ ρ S H x y vx vy Q R rx ry P
  unfold vPow at P
  split at P
  · rename_i i j
    cases rep_int rx
    cases rep_int ry
    by_cases h : 0 ≤ j ∧ j ≤ 1000 ∧ i.natAbs < 2 ^ 64
    · rw [if_pos h] at P
      exact ⟨i, j, rfl, rfl, ⟨h.1, by omega, h.2.2⟩, P.now R _ (.int _)⟩
    · rw [if_neg h] at P; exact P.elim
  · exact P.elim
theorem f_neg : UnF G (rU fun i => .int (-i)) vNeg := by
  intro W σ ρ S H x vx Q R rx P
  unfold vNeg at P
  split at P
  · cases rep_int rx
    exact ⟨_, rfl, P.now R _ (.int _)⟩
  · exact P.elim
/-! + -/
def rAddA (K : PySem.W.Frag) : R2 := fun x y H Q => rI0 (fun i j => .int (i + j)) x y H Q ∨ (rCat x y H Q ∨ rCatT K x y H Q)
theorem op_addA (hK : X.K = G.K := by rfl) : OpR X (binaryOp .Add) (rAddA G.K) := by
  rw [← hK]
  exact orR op_add (orR op_cat op_catT)
theorem f_add : OpF G (rAddA G.K) vAdd := by
  intro W σ ρ S H x y vx vy Q R rx ry P
  unfold vAdd at P
  split at P
  · cases rep_int rx
    cases rep_int ry
    exact .inl ⟨_, _, rfl, rfl, P.now R _ (.int _)⟩
  · rename_i n m
    obtain ⟨p, rfl, hp⟩ := rep_ref rx
    obtain ⟨q, rfl, hq⟩ := rep_ref ry
    split at P
    · rename_i xs ys hx hy
      obtain ⟨_, ws, h1, h2⟩ := R.mutAt hp hx
      obtain ⟨_, us, h3, h4⟩ := R.mutAt hq hy
      have hl := newL_size P
      rw [List.length_append] at hl
      exact .inr (.inl ⟨p, q, ws, us, rfl, rfl, h1, h3, by rw [← h2.1, ← h4.1]; exact lim_size hl, fun t ht => new_lst R (h2.append h4) P ht⟩)
    · exact P.elim
  · rename_i xs ys
    obtain ⟨p, ws, rfl, h1, h2⟩ := rep_tupD rx
    obtain ⟨q, us, rfl, h3, h4⟩ := rep_tupD ry
    by_cases h : xs ≠ [] ∧ xs.length + ys.length ≤ 1000
    · rw [if_pos h] at P
      refine .inr (.inr ⟨p, q, ws, us, rfl, rfl, h1, h3, fun e => h.1 (by cases xs with | nil => rfl | cons _ _ => rw [e] at h2; exact absurd h2.1 (by simp)), by rw [← h2.1, ← h4.1]; exact Nat.le_trans h.2 (by decide), fun e => ?_, fun e t ht => ?_⟩)
      · have : ys = [] := by
          subst e
          exact List.length_eq_zero_iff.mp h4.1
        subst this
        rw [List.append_nil] at P
        exact P.now R _ rx
      · exact P _ _ (Ext.fresh ht) (R.fresh ht) _ (rep_tup ht (h2.append h4))
    · rw [if_neg h] at P; exact P.elim
  · exact P.elim
/-! * -/
def rMulA : R2 := fun x y H Q => rI IntMulOk (fun i j => .int (i * j)) x y H Q ∨ rRep x y H Q
theorem op_mulA : OpR X (binaryOp .Mult) rMulA := orR (opI fun _ _ _ _ _ _ _ hc q => PyProof.Rows.mul_int q hc) op_rep
theorem reps_rep {xs : List D} {ws : List V} (r : Reps G ρ H xs ws) : ∀ k : Nat, Reps G ρ H (List.replicate k xs).flatten (List.replicate k ws).flatten
  | 0 => Reps.nil
  | k + 1 => by
    rw [List.replicate_succ, List.replicate_succ, List.flatten_cons, List.flatten_cons]
    exact r.append (reps_rep r k)
theorem f_mul : OpF G rMulA vMul := by
  intro W σ ρ S H x y vx vy Q R rx ry P
  unfold vMul at P
  split at P
  · rename_i i j
    cases rep_int rx
    cases rep_int ry
    by_cases h : mulOk i j = true
    · rw [if_pos h] at P
      exact .inl ⟨_, _, rfl, rfl, mulOk_ok h, P.now R _ (.int _)⟩
    · rw [if_neg h] at P; exact P.elim
  · rename_i n k
    obtain ⟨p, rfl, hp⟩ := rep_ref rx
    cases rep_int ry
    split at P
    · rename_i xs hx
      obtain ⟨_, ws, h1, h2⟩ := R.mutAt hp hx
      by_cases h : 0 ≤ k ∧ k ≤ 1000
      · rw [if_pos h] at P
        have hl := newL_size P
        have e : (List.replicate k.toNat xs).flatten.length = xs.length * k.toNat := by
          simp [List.length_flatten, List.map_replicate, Nat.mul_comm]
        rw [e] at hl
        refine .inr ⟨p, k, ws, rfl, rfl, h1, by omega, by omega, by rw [← h2.1]; exact lim_size hl, fun t ht => ?_⟩
        exact new_lst R (reps_rep h2 _) P ht
      · rw [if_neg h] at P; exact P.elim
    · exact P.elim
  · exact P.elim
end
end Fx
/-! Fx7: ==, is, in, x[i], the built-ins, methods of lists, isinstance. -/
namespace Fx
open PySem L2

section
variable {G : Cc} {ρ : List Addr} {S : Sto} {H : Hp} {X : Cx} {W : WX} {σ : L2.St}
/-! ### data as a tree -/
theorem dpAll_of {f : D → Option PyData} (hf : ∀ d p v, f d = some p → Rep G ρ H d v → Dp G.K H v p) : ∀ {ds : List D} {ps : List PyData} {vs : List V}, allO f ds = some ps → Reps G ρ H ds vs → DpAll G.K H vs ps
  | [], ps, vs, h, r => by
    cases h
    rw [r.unnil]
    exact .nil
  | d :: ds, ps, vs, h, r => by
    obtain ⟨v, ws, rfl, r1, rs⟩ := r.uncons
    unfold allO at h
    cases h1 : f d with
    | none => rw [h1] at h; cases h
    | some p =>
      cases h2 : allO f ds with
      | none => rw [h1, h2] at h; cases h
      | some ps' =>
        rw [h1, h2] at h
        cases h
        exact .cons (hf d p v h1 r1) (dpAll_of hf h2 rs)
theorem dp_of (R : Rel G ρ S H) : ∀ (n : Nat) (d : D) (p : PyData) (v : V), toP n S d = some p → Rep G ρ H d v → Dp G.K H v p
  | n, .non, p, v, h, r => by
    have : some PyData.none = some p := by cases n <;> exact h
    cases this; cases r; exact .non
  | n, .bl b, p, v, h, r => by
    have : some (PyData.bool b) = some p := by cases n <;> exact h
    cases this; cases r; exact .bl b
  | n, .int i, p, v, h, r => by
    have : some (PyData.int i) = some p := by cases n <;> exact h
    cases this; cases r; exact .int i
  | n, .str x, p, v, h, r => by cases n <;> cases h
  | n, .fn a, p, v, h, r => by cases n <;> cases h
  | 0, .tup ds, p, v, h, r => by cases h
  | 0, .rl ds, p, v, h, r => by cases h
  | 0, .ref k, p, v, h, r => by cases h
  | n + 1, .tup ds, p, v, h, r => by
    have h' : (allO (toP n S) ds).map PyData.tuple = some p := h
    cases h1 : allO (toP n S) ds with
    | none => rw [h1] at h'; cases h'
    | some ps =>
      rw [h1] at h'
      cases h'
      obtain ⟨a, ws, rfl, q, rs⟩ := rep_tupD r
      exact .tup q (dpAll_of (fun d p v => dp_of R n d p v) h1 rs)
  | n + 1, .rl ds, p, v, h, r => by
    have h' : (allO (toP n S) ds).map PyData.list = some p := h
    cases h1 : allO (toP n S) ds with
    | none => rw [h1] at h'; cases h'
    | some ps =>
      rw [h1] at h'
      cases h'
      obtain ⟨a, ws, rfl, q, rs⟩ := rep_rlD r
      exact .lst q (dpAll_of (fun d p v => dp_of R n d p v) h1 rs)
  | n + 1, .ref k, p, v, h, r => by
    have h' : (match getL S k with | some xs => (allO (toP n S) xs).map PyData.list | none => none) = some p := h
    obtain ⟨a, rfl, ha⟩ := rep_ref r
    cases hg : getL S k with
    | none => rw [hg] at h'; cases h'
    | some xs =>
      rw [hg] at h'
      dsimp only at h'
      cases h1 : allO (toP n S) xs with
      | none => rw [h1] at h'; cases h'
      | some ps =>
        rw [h1] at h'
        cases h'
        obtain ⟨ws, q, rs⟩ := R.listAt ha hg
        exact .lst q (dpAll_of (fun d p v => dp_of R n d p v) h1 rs)
theorem okAll_of {n : Nat} {f : D → Option PyData} (hf : ∀ d p, f d = some p → p.canLay0 = true ∧ p.depth ≤ n) : ∀ {ds : List D} {ps : List PyData}, allO f ds = some ps → PyData.canLayAll0 ps = true ∧ PyData.depthAll ps ≤ n
  | [], ps, h => by
    cases h
    exact ⟨by simp only [PyData.canLayAll0], by simp only [PyData.depthAll]; exact Nat.zero_le _⟩
  | d :: ds, ps, h => by
    unfold allO at h
    cases h1 : f d with
    | none => rw [h1] at h; cases h
    | some p =>
      cases h2 : allO f ds with
      | none => rw [h1, h2] at h; cases h
      | some ps' =>
        rw [h1, h2] at h
        cases h
        obtain ⟨a, b⟩ := hf d p h1
        obtain ⟨c, e⟩ := okAll_of hf h2
        exact ⟨by simp only [PyData.canLayAll0, a, c, Bool.and_self], by simp only [PyData.depthAll]; exact Nat.max_le.mpr ⟨b, e⟩⟩
theorem ok_of : ∀ (n : Nat) (d : D) (p : PyData), toP n S d = some p → p.canLay0 = true ∧ p.depth ≤ n
  | n, .non, p, h => by
    have : some PyData.none = some p := by cases n <;> exact h
    cases this
    exact ⟨by simp only [PyData.canLay0], by simp only [PyData.depth]; exact Nat.zero_le _⟩
  | n, .bl b, p, h => by
    have : some (PyData.bool b) = some p := by cases n <;> exact h
    cases this
    exact ⟨by simp only [PyData.canLay0], by simp only [PyData.depth]; exact Nat.zero_le _⟩
  | n, .int i, p, h => by
    have : some (PyData.int i) = some p := by cases n <;> exact h
    cases this
    exact ⟨by simp only [PyData.canLay0], by simp only [PyData.depth]; exact Nat.zero_le _⟩
  | n, .str x, p, h => by cases n <;> cases h
  | n, .fn a, p, h => by cases n <;> cases h
  | 0, .tup ds, p, h => by cases h
  | 0, .rl ds, p, h => by cases h
  | 0, .ref k, p, h => by cases h
  | n + 1, .tup ds, p, h => by
    have h' : (allO (toP n S) ds).map PyData.tuple = some p := h
    cases h1 : allO (toP n S) ds with
    | none => rw [h1] at h'; cases h'
    | some ps =>
      rw [h1] at h'
      cases h'
      obtain ⟨a, b⟩ := okAll_of (fun d p => ok_of n d p) h1
      exact ⟨by simp only [PyData.canLay0]; exact a, by simp only [PyData.depth]; omega⟩
  | n + 1, .rl ds, p, h => by
    have h' : (allO (toP n S) ds).map PyData.list = some p := h
    cases h1 : allO (toP n S) ds with
    | none => rw [h1] at h'; cases h'
    | some ps =>
      rw [h1] at h'
      cases h'
      obtain ⟨a, b⟩ := okAll_of (fun d p => ok_of n d p) h1
      exact ⟨by simp only [PyData.canLay0]; exact a, by simp only [PyData.depth]; omega⟩
  | n + 1, .ref k, p, h => by
    have h' : (match getL S k with | some xs => (allO (toP n S) xs).map PyData.list | none => none) = some p := h
    cases hg : getL S k with
    | none => rw [hg] at h'; cases h'
    | some xs =>
      rw [hg] at h'
      dsimp only at h'
      cases h1 : allO (toP n S) xs with
      | none => rw [h1] at h'; cases h'
      | some ps =>
        rw [h1] at h'
        cases h'
        obtain ⟨a, b⟩ := okAll_of (fun d p => ok_of n d p) h1
        exact ⟨by simp only [PyData.canLay0]; exact a, by simp only [PyData.depth]; omega⟩
theorem shaped_of {d : D} {p : PyData} (h : toP TD S d = some p) : SeqAt.shaped p = true := by
  obtain ⟨a, b⟩ := ok_of TD d p h
  unfold SeqAt.shaped
  rw [a, decide_eq_true (Nat.le_trans b (by decide))]
  rfl
/-! == -/
def rEqA (K : PySem.W.Frag) : R2 := fun x y H Q => rEq x y H Q ∨ rEqD K x y H Q
def rNeA (K : PySem.W.Frag) : R2 := fun x y H Q => rNe x y H Q ∨ rNeD K x y H Q
theorem op_eqA (hu : X.A.units + 64 < cLine) (hK : X.K = G.K := by rfl) : OpR X (compareOp .Eq) (rEqA G.K) := by
  rw [← hK]
  exact orR op_eq (op_eqD hu)
theorem op_neA (hu : X.A.units + 64 < cLine) (hK : X.K = G.K := by rfl) : OpR X (compareOp .NotEq) (rNeA G.K) := by
  rw [← hK]
  exact orR op_ne (op_neD hu)
theorem str_dec (a b : Str) : decide (V.str a = V.str b) = decide (a = b) := by
  by_cases h : a = b
  · subst h; simp
  · have : ¬ V.str a = V.str b := fun e => h (by cases e; rfl)
    rw [decide_eq_false h, decide_eq_false this]
theorem f_eq : OpF G (rEqA G.K) vEq := by
  intro W σ ρ S H x y vx vy Q R rx ry P
  unfold vEq at P
  split at P
  · cases rep_str rx
    cases rep_str ry
    exact .inl ⟨rfl, by rw [str_dec]; exact P.now R _ (.bl _)⟩
  · split at P
    · rename_i d e hd he
      exact .inr ⟨d, e, dp_of R _ _ _ _ hd rx, dp_of R _ _ _ _ he ry, shaped_of hd, shaped_of he, P.now R _ (.bl _)⟩
    · exact P.elim
theorem f_ne : OpF G (rNeA G.K) vNe := by
  intro W σ ρ S H x y vx vy Q R rx ry P
  unfold vNe at P
  split at P
  · cases rep_str rx
    cases rep_str ry
    exact .inl ⟨rfl, by rw [str_dec]; exact P.now R _ (.bl _)⟩
  · split at P
    · rename_i d e hd he
      exact .inr ⟨d, e, dp_of R _ _ _ _ hd rx, dp_of R _ _ _ _ he ry, shaped_of hd, shaped_of he, P.now R _ (.bl _)⟩
    · exact P.elim
/-! is -/
def rIsA : R2 := fun x y H Q => (y = .non ∧ Q (.bl (decide (x = .non))) H) ∨ rIsB x y H Q
def rNotA : R2 := fun x y H Q => (y = .non ∧ Q (.bl (!decide (x = .non))) H) ∨ rNotB x y H Q
theorem op_isA : OpR X (compareOp .Is) rIsA := orR op_isN op_isBl
theorem op_notA : OpR X (compareOp .IsNot) rNotA := orR op_notN op_notBl
theorem isNon_rep {d : D} {v : V} (r : Rep G ρ H d v) : decide (v = .non) = isNon d := by
  cases r <;> rfl
theorem f_is : OpF G rIsA vIs := by
  intro W σ ρ S H x y vx vy Q R rx ry P
  unfold vIs at P
  split at P
  · cases rep_non ry
    exact .inl ⟨rfl, by rw [isNon_rep rx]; exact P.now R _ (.bl _)⟩
  · cases rep_bl rx
    cases rep_bl ry
    exact .inr ⟨_, _, rfl, rfl, P.now R _ (.bl _)⟩
  · exact P.elim
theorem f_isNot : OpF G rNotA vIsNot := by
  intro W σ ρ S H x y vx vy Q R rx ry P
  unfold vIsNot at P
  split at P
  · cases rep_non ry
    exact .inl ⟨rfl, by rw [isNon_rep rx]; exact P.now R _ (.bl _)⟩
  · cases rep_bl rx
    cases rep_bl ry
    exact .inr ⟨_, _, rfl, rfl, P.now R _ (.bl _)⟩
  · exact P.elim
/-! x[i] -/
theorem atI_rel {xs : List D} {ws : List V} {i : Int} {d : D} (r : Reps G ρ H xs ws) (h : atI xs i = some d) : ∃ v, atI ws i = some v ∧ Rep G ρ H d v := by
  unfold atI at h ⊢
  rw [← r.1]
  cases hj : ixN xs.length i with
  | none => rw [hj] at h; cases h
  | some j =>
    rw [hj] at h
    exact r.get h
def rIxA (K : PySem.W.Frag) : R2 := fun x y H Q => rIxL K x y H Q ∨ rIxT K x y H Q
theorem ix_A (hK : X.K = G.K := by rfl) : IxR X (rIxA G.K) := by
  rw [← hK]
  exact ix_list.or ix_tup
theorem f_ix : OpF G (rIxA G.K) vIx := by
  intro W σ ρ S H x y vx vy Q R rx ry P
  unfold vIx at P
  split at P
  · rename_i n i
    obtain ⟨p, rfl, hp⟩ := rep_ref rx
    cases rep_int ry
    split at P
    · rename_i xs hx
      obtain ⟨ws, q, r⟩ := R.listAt hp hx
      split at P
      · rename_i d hd
        obtain ⟨v, hv, rv⟩ := atI_rel r hd
        exact .inl ⟨p, ws, i, v, rfl, rfl, q, hv, P.now R _ rv⟩
      · exact P.elim
    · exact P.elim
  · rename_i xs i
    obtain ⟨p, ws, rfl, q, r⟩ := rep_tupD rx
    cases rep_int ry
    split at P
    · rename_i d hd
      obtain ⟨v, hv, rv⟩ := atI_rel r hd
      exact .inr ⟨p, ws, i, v, rfl, rfl, q, hv, P.now R _ rv⟩
    · exact P.elim
  · exact P.elim

/-! ### built-ins -/
def bLen (ds : List D) (S : Sto) : R D := match ds with
  | [.tup xs] => .ok (.int xs.length) S
  | [.rl xs] => .ok (.int xs.length) S
  | [.ref n] => (match S[n]? with
    | some (.lst xs) => .ok (.int xs.length) S
    | some (.dic kvs) => .ok (.int kvs.length) S
    | _ => .bad)
  | _ => .bad
def bAbs (ds : List D) (S : Sto) : R D := match ds with | [.int i] => .ok (.int (if i < 0 then -i else i)) S | _ => .bad
def bMax2 (ds : List D) (S : Sto) : R D := match ds with | [.int i, .int j] => .ok (.int (if j > i then j else i)) S | _ => .bad
def bMin2 (ds : List D) (S : Sto) : R D := match ds with | [.int i, .int j] => .ok (.int (if j < i then j else i)) S | _ => .bad
def maxI : List Int → Int
  | [] => 0
  | [x] => x
  | x :: y :: r => if maxI (y :: r) > x then maxI (y :: r) else x
def minI : List Int → Int
  | [] => 0
  | [x] => x
  | x :: y :: r => if minI (y :: r) < x then minI (y :: r) else x
def onInts (f : List Int → Sto → R D) (ds : List D) (S : Sto) : R D := match ds with
  | [.ref n] => (match getL S n with | some xs => (match intsOf xs with | some is => f is S | none => .bad) | none => .bad)
  | _ => .bad
def bMaxL : List D → Sto → R D := onInts fun is S => if is = [] then .bad else .ok (.int (maxI is)) S
def bMinL : List D → Sto → R D := onInts fun is S => if is = [] then .bad else .ok (.int (minI is)) S
def bSum : List D → Sto → R D := onInts fun is S => .ok (.int is.sum) S
def onBls (f : List Bool → Bool) (ds : List D) (S : Sto) : R D := match ds with
  | [.ref n] => (match getL S n with | some xs => (match blsOf xs with | some is => .ok (.bl (f is)) S | none => .bad) | none => .bad)
  | _ => .bad
def bAll : List D → Sto → R D := onBls fun bs => bs.all id
def bAny : List D → Sto → R D := onBls fun bs => bs.any id
def bList (ds : List D) (S : Sto) : R D := match ds with
  | [.ref n] => (match getL S n with | some xs => newL xs S | none => .bad)
  | [.tup xs] => newL xs S
  | _ => .bad
def intOf (d : D) : Option Int := match d with | .int i => some i | _ => none
theorem ints_rel {xs : List D} {is : List Int} (h : intsOf xs = some is) : xs = is.map D.int := by
  induction xs generalizing is with
  | nil => cases h; rfl
  | cons d xs ih =>
    unfold intsOf allO at h
    split at h
    · rename_i x xs' h1 h2
      cases h
      split at h1
      · cases h1
        rw [ih h2]
        rfl
      · cases h1
    · cases h
theorem bls_rel {xs : List D} {is : List Bool} (h : blsOf xs = some is) : xs = is.map D.bl := by
  induction xs generalizing is with
  | nil => cases h; rfl
  | cons d xs ih =>
    unfold blsOf allO at h
    split at h
    · rename_i x xs' h1 h2
      cases h
      split at h1
      · cases h1
        rw [ih h2]
        rfl
      · cases h1
    · cases h
theorem reps_ints {is : List Int} : ∀ {ws : List V}, Reps G ρ H (is.map D.int) ws → ws = is.map V.int := by
  induction is with
  | nil => intro ws r; exact r.unnil
  | cons i is ih =>
    intro ws r
    obtain ⟨v, us, rfl, r1, rs⟩ := r.uncons
    cases rep_int r1
    rw [ih rs]
    rfl
theorem reps_bls {is : List Bool} : ∀ {ws : List V}, Reps G ρ H (is.map D.bl) ws → ws = is.map V.bl := by
  induction is with
  | nil => intro ws r; exact r.unnil
  | cons i is ih =>
    intro ws r
    obtain ⟨v, us, rfl, r1, rs⟩ := r.uncons
    cases rep_bl r1
    rw [ih rs]
    rfl
theorem CallR.or2 {f : Value} {r r' : List V → Hp → VK → Prop} (h : CallR X f r) (h' : CallR X f r') : CallR X f (fun xs H Q => r xs H Q ∨ r' xs H Q) := CallR.or h h'
def rLenA (K : PySem.W.Frag) : List V → Hp → VK → Prop := fun xs H Q => (∃ p ys, xs = [.ref p] ∧ (SqL K H p ys ∨ SqT K H p ys) ∧ Q (.int ys.length) H) ∨ ∃ a kvs, xs = [V.ref a] ∧ H a = some (.dK kvs) ∧ Q (.int kvs.length) H
theorem cr_len (hK : X.K = G.K := by rfl) : CallR X (.builtin "len") (rLenA G.K) := by
  rw [← hK]
  exact CallR.or2 call_len_seq call_lenD
theorem f_len : CallF G (rLenA G.K) bLen := by
  intro W σ ρ S H xs vs Q R rs P
  unfold bLen at P
  split at P
  · obtain ⟨v, w, rfl, r1, rs1⟩ := rs.uncons
    obtain ⟨p, ws, rfl, q, r⟩ := rep_tupD r1
    rw [rs1.unnil]
    exact .inl ⟨p, ws, rfl, .inr q, by rw [← r.1]; exact P.now R _ (.int _)⟩
  · obtain ⟨v, w, rfl, r1, rs1⟩ := rs.uncons
    obtain ⟨p, ws, rfl, q, r⟩ := rep_rlD r1
    rw [rs1.unnil]
    exact .inl ⟨p, ws, rfl, .inl q, by rw [← r.1]; exact P.now R _ (.int _)⟩
  · rename_i n
    obtain ⟨p, rfl, hp⟩ := refs1 rs
    split at P
    · rename_i xs hx
      obtain ⟨ws, q, r⟩ := R.at hx hp
      exact .inl ⟨p, ws, rfl, .inl (SqL.of q), by rw [← r.1]; exact P.now R _ (.int _)⟩
    · rename_i kvs hx
      obtain ⟨kws, q, r, _⟩ := R.at hx hp
      have e : kws.length = kvs.length := by
        have := congrArg List.length r
        simpa using this
      exact .inr ⟨p, kws, rfl, q, by rw [e]; exact P.now R _ (.int _)⟩
    · exact P.elim
  · exact P.elim
theorem f_abs : CallF G (fun xs H Q => ∃ i, xs = [.int i] ∧ Q (.int (if i < 0 then -i else i)) H) bAbs := by
  intro W σ ρ S H xs vs Q R rs P
  unfold bAbs at P
  split at P
  · rw [ints1 rs]
    exact ⟨_, rfl, P.now R _ (.int _)⟩
  · exact P.elim
theorem f_max2 : CallF G (fun xs H Q => ∃ i j, xs = [.int i, .int j] ∧ Q (.int (if j > i then j else i)) H) bMax2 := by
  intro W σ ρ S H xs vs Q R rs P
  unfold bMax2 at P
  split at P
  · rw [ints2 rs]
    exact ⟨_, _, rfl, P.now R _ (.int _)⟩
  · exact P.elim
theorem f_min2 : CallF G (fun xs H Q => ∃ i j, xs = [.int i, .int j] ∧ Q (.int (if j < i then j else i)) H) bMin2 := by
  intro W σ ρ S H xs vs Q R rs P
  unfold bMin2 at P
  split at P
  · rw [ints2 rs]
    exact ⟨_, _, rfl, P.now R _ (.int _)⟩
  · exact P.elim
theorem onInts_get {f : List Int → Sto → R D} {xs : List D} {vs : List V} {Q : D → Sto → List Addr → Hp → Prop} (R : Rel G ρ S H) (rs : Reps G ρ H xs vs) (P : PoR G W σ ρ H Q (onInts f xs S)) : ∃ (a : Addr) (ns : List Int), vs = [V.ref a] ∧ SqL G.K H a (ns.map V.int) ∧ PoR G W σ ρ H Q (f ns S) := by
  unfold onInts at P
  split at P
  · rename_i n
    obtain ⟨p, rfl, hp⟩ := refs1 rs
    split at P
    · rename_i ys hy
      split at P
      · rename_i is hi
        obtain ⟨ws, q, r⟩ := R.listAt hp hy
        rw [ints_rel hi] at r
        rw [reps_ints r] at q
        exact ⟨p, is, rfl, q, P⟩
      · exact P.elim
    · exact P.elim
  · exact P.elim
theorem f_sum : CallF G (rSum G.K) bSum := by
  intro W σ ρ S H xs vs Q R rs P
  obtain ⟨a, ns, rfl, q, P1⟩ := onInts_get R rs P
  exact ⟨a, ns, rfl, q, P1.now R _ (.int _)⟩
theorem maxI_spec : ∀ (l : List Int), l ≠ [] → maxI l ∈ l ∧ ∀ y ∈ l, y ≤ maxI l
  | [], h => absurd rfl h
  | [x], _ => ⟨by simp [maxI], by simp [maxI]⟩
  | x :: y :: r, _ => by
    obtain ⟨h1, h2⟩ := maxI_spec (y :: r) (by simp)
    unfold maxI
    by_cases h : maxI (y :: r) > x
    · rw [if_pos h]
      refine ⟨List.mem_cons_of_mem _ h1, fun z hz => ?_⟩
      rcases List.mem_cons.mp hz with rfl | hz
      · omega
      · exact h2 z hz
    · rw [if_neg h]
      refine ⟨List.mem_cons_self, fun z hz => ?_⟩
      rcases List.mem_cons.mp hz with rfl | hz
      · omega
      · have := h2 z hz
        omega
theorem minI_spec : ∀ (l : List Int), l ≠ [] → minI l ∈ l ∧ ∀ y ∈ l, minI l ≤ y
  | [], h => absurd rfl h
  | [x], _ => ⟨by simp [minI], by simp [minI]⟩
  | x :: y :: r, _ => by
    obtain ⟨h1, h2⟩ := minI_spec (y :: r) (by simp)
    unfold minI
    by_cases h : minI (y :: r) < x
    · rw [if_pos h]
      refine ⟨List.mem_cons_of_mem _ h1, fun z hz => ?_⟩
      rcases List.mem_cons.mp hz with rfl | hz
      · omega
      · exact h2 z hz
    · rw [if_neg h]
      refine ⟨List.mem_cons_self, fun z hz => ?_⟩
      rcases List.mem_cons.mp hz with rfl | hz
      · omega
      · have := h2 z hz
        omega
theorem f_maxL : CallF G (rMax G.K) bMaxL := by
  intro W σ ρ S H xs vs Q R rs P
  obtain ⟨a, ns, rfl, q, P1⟩ := onInts_get R rs P
  by_cases h : ns = []
  · rw [if_pos h] at P1; exact P1.elim
  · rw [if_neg h] at P1
    obtain ⟨h1, h2⟩ := maxI_spec ns h
    refine ⟨a, ns, rfl, q, List.length_pos_iff.mpr h, fun m hm hy => ?_⟩
    have e : m = maxI ns := Int.le_antisymm (h2 m hm) (hy _ h1)
    rw [e]
    exact P1.now R _ (.int _)
theorem f_minL : CallF G (rMin G.K) bMinL := by
  intro W σ ρ S H xs vs Q R rs P
  obtain ⟨a, ns, rfl, q, P1⟩ := onInts_get R rs P
  by_cases h : ns = []
  · rw [if_pos h] at P1; exact P1.elim
  · rw [if_neg h] at P1
    obtain ⟨h1, h2⟩ := minI_spec ns h
    refine ⟨a, ns, rfl, q, List.length_pos_iff.mpr h, fun m hm hy => ?_⟩
    have e : m = minI ns := Int.le_antisymm (hy _ h1) (h2 m hm)
    rw [e]
    exact P1.now R _ (.int _)
theorem onBls_get {f : List Bool → Bool} {xs : List D} {vs : List V} {Q : D → Sto → List Addr → Hp → Prop} (R : Rel G ρ S H) (rs : Reps G ρ H xs vs) (P : PoR G W σ ρ H Q (onBls f xs S)) : ∃ (a : Addr) (ns : List Bool), vs = [V.ref a] ∧ SqL G.K H a (ns.map V.bl) ∧ PoR G W σ ρ H Q (.ok (.bl (f ns)) S) := by
  unfold onBls at P
  split at P
  · rename_i n
    obtain ⟨p, rfl, hp⟩ := refs1 rs
    split at P
    · rename_i ys hy
      split at P
      · rename_i is hi
        obtain ⟨ws, q, r⟩ := R.listAt hp hy
        rw [bls_rel hi] at r
        rw [reps_bls r] at q
        exact ⟨p, is, rfl, q, P⟩
      · exact P.elim
    · exact P.elim
  · exact P.elim
theorem f_all : CallF G (rAll G.K) bAll := by
  intro W σ ρ S H xs vs Q R rs P
  obtain ⟨a, ns, rfl, q, P1⟩ := onBls_get R rs P
  exact ⟨a, ns, rfl, q, P1.now R _ (.bl _)⟩
theorem f_any : CallF G (rAny G.K) bAny := by
  intro W σ ρ S H xs vs Q R rs P
  obtain ⟨a, ns, rfl, q, P1⟩ := onBls_get R rs P
  exact ⟨a, ns, rfl, q, P1.now R _ (.bl _)⟩
theorem f_list : CallF G (fun xs H Q => ∃ p ys, xs = [.ref p] ∧ (SqL G.K H p ys ∨ SqT G.K H p ys) ∧ ∀ l, H l = none → Q (.ref l) (upd H l (.lst ys))) bList := by
  intro W σ ρ S H xs vs Q R rs P
  unfold bList at P
  split at P
  · rename_i n
    obtain ⟨p, rfl, hp⟩ := refs1 rs
    split at P
    · rename_i ys hy
      obtain ⟨ws, q, r⟩ := R.listAt hp hy
      exact ⟨p, ws, rfl, .inl q, fun l hl => new_lst R r P hl⟩
    · exact P.elim
  · obtain ⟨v, w, rfl, r1, rs1⟩ := rs.uncons
    obtain ⟨p, ws, rfl, q, r⟩ := rep_tupD r1
    rw [rs1.unnil]
    exact ⟨p, ws, rfl, .inr q, fun l hl => new_lst R r P hl⟩
  · exact P.elim

/-! ### methods of lists -/
def mtApp (x : D) (ds : List D) (S : Sto) : R D := match x, ds with
  | .ref n, [y] => (match S[n]? with | some (.lst xs) => if xs.length < LIM then .ok .non (S.set n (.lst (xs ++ [y]))) else .bad | _ => .bad)
  | _, _ => .bad
def mtExt (x : D) (ds : List D) (S : Sto) : R D := match x, ds with
  | .ref n, [.ref m] => (match S[n]?, S[m]? with | some (.lst xs), some (.lst ys) => if xs.length + ys.length ≤ LIM then .ok .non (S.set n (.lst (xs ++ ys))) else .bad | _, _ => .bad)
  | _, _ => .bad
def mtRev (x : D) (ds : List D) (S : Sto) : R D := match x, ds with
  | .ref n, [] => (match S[n]? with | some (.lst xs) => .ok .non (S.set n (.lst xs.reverse)) | _ => .bad)
  | _, _ => .bad
def mtClr (x : D) (ds : List D) (S : Sto) : R D := match x, ds with
  | .ref n, [] => (match S[n]? with | some (.lst xs) => .ok .non (S.set n (.lst [])) | _ => .bad)
  | _, _ => .bad
def mtPop (x : D) (ds : List D) (S : Sto) : R D := match x, ds with
  | .ref n, [] => (match S[n]? with | some (.lst xs) => (match xs[xs.length - 1]? with | some d => .ok d (S.set n (.lst xs.dropLast)) | none => .bad) | _ => .bad)
  | _, _ => .bad
def isL (x : D) (S : Sto) : Bool := match x with | .ref n => (getL S n).isSome | _ => false
/-- o.m(..), o a list -/
def mMtL (f : D → List D → Sto → R D) (o : ME) (a : MA) : ME := fun env S => (o env S).bind fun x S1 => if isL x S1 = true then (a env S1).bind fun ds S2 => f x ds S2 else .bad
def MtF (G : Cc) (r : V → List V → Hp → VK → Prop) (f : D → List D → Sto → R D) : Prop := ∀ (W : WX) (σ : L2.St) (ρ : List Addr) (S : Sto) (H : Hp) (x : D) (xs : List D) (vx : V) (vs : List V) (Q : VK), Rel G ρ S H → Rep G ρ H x vx → Reps G ρ H xs vs → PoR G W σ ρ H (QE G Q) (f x xs S) → r vx vs H Q
theorem isL_ty {x : D} {v : V} (R : Rel G ρ S H) (r : Rep G ρ H x v) (h : isL x S = true) : tyV G.K "list" v H := by
  unfold isL at h
  split at h
  · rename_i n
    obtain ⟨p, rfl, hp⟩ := rep_ref r
    obtain ⟨xs, hx⟩ := Option.isSome_iff_exists.mp h
    obtain ⟨ws, q, _⟩ := R.listAt hp hx
    exact .inl ⟨rfl, ws, q⟩
  · cases h
theorem f_app : MtF G rAppend mtApp := by
  intro W σ ρ S H x xs vx vs Q R rx rs P
  unfold mtApp at P
  split at P
  · rename_i n y
    obtain ⟨p, rfl, hp⟩ := rep_ref rx
    obtain ⟨v, w, rfl, r1, rs1⟩ := rs.uncons
    rw [rs1.unnil]
    split at P
    · rename_i ys hy
      by_cases h : ys.length < LIM
      · rw [if_pos h] at P
        obtain ⟨ws, q, r⟩ := R.at hy hp
        obtain ⟨R2, x2⟩ := R.write (u := .lst (ws ++ [v])) (o' := .lst (ys ++ [y])) hy hp fun e => ⟨_, upd_same, (r.append (.cons r1 .nil)).ext e⟩
        exact ⟨p, ws, v, rfl, rfl, q, by rw [← r.1]; exact Nat.lt_of_lt_of_le h (by decide), P _ _ x2 R2 _ .non⟩
      · rw [if_neg h] at P; exact P.elim
    · exact P.elim
  · exact P.elim
theorem f_ext : MtF G rExtend mtExt := by
  intro W σ ρ S H x xs vx vs Q R rx rs P
  unfold mtExt at P
  split at P
  · rename_i n m
    obtain ⟨p, rfl, hp⟩ := rep_ref rx
    obtain ⟨q, rfl, hq⟩ := refs1 rs
    split at P
    · rename_i ys zs hy hz
      by_cases h : ys.length + zs.length ≤ LIM
      · rw [if_pos h] at P
        obtain ⟨ws, q1, r1⟩ := R.at hy hp
        obtain ⟨us, q2, r2⟩ := R.at hz hq
        obtain ⟨R2, x2⟩ := R.write (u := .lst (ws ++ us)) (o' := .lst (ys ++ zs)) hy hp fun e => ⟨_, upd_same, (r1.append r2).ext e⟩
        exact ⟨p, q, ws, us, rfl, rfl, q1, q2, by rw [← r1.1, ← r2.1]; exact lim_size h, P _ _ x2 R2 _ .non⟩
      · rw [if_neg h] at P; exact P.elim
    · exact P.elim
  · exact P.elim
theorem f_rev : MtF G rReverse mtRev := by
  intro W σ ρ S H x xs vx vs Q R rx rs P
  unfold mtRev at P
  split at P
  · rename_i n
    obtain ⟨p, rfl, hp⟩ := rep_ref rx
    rw [rs.unnil]
    split at P
    · rename_i ys hy
      obtain ⟨ws, q1, r1⟩ := R.at hy hp
      obtain ⟨R2, x2⟩ := R.write (u := .lst ws.reverse) (o' := .lst ys.reverse) hy hp fun e => ⟨_, upd_same, r1.reverse.ext e⟩
      exact ⟨p, ws, rfl, rfl, q1, P _ _ x2 R2 _ .non⟩
    · exact P.elim
  · exact P.elim
theorem f_clr : MtF G rClear mtClr := by
  intro W σ ρ S H x xs vx vs Q R rx rs P
  unfold mtClr at P
  split at P
  · rename_i n
    obtain ⟨p, rfl, hp⟩ := rep_ref rx
    rw [rs.unnil]
    split at P
    · rename_i ys hy
      obtain ⟨ws, q1, r1⟩ := R.at hy hp
      obtain ⟨R2, x2⟩ := R.write (u := .lst []) (o' := .lst []) hy hp fun e => ⟨_, upd_same, Reps.nil⟩
      exact ⟨p, ws, rfl, rfl, q1, P _ _ x2 R2 _ .non⟩
    · exact P.elim
  · exact P.elim
theorem reps_dropLast {xs : List D} {ws : List V} (r : Reps G ρ H xs ws) : Reps G ρ H xs.dropLast ws.dropLast := by
  rw [List.dropLast_eq_take, List.dropLast_eq_take, ← r.1]
  exact r.take _
theorem f_pop : MtF G rPop mtPop := by
  intro W σ ρ S H x xs vx vs Q R rx rs P
  unfold mtPop at P
  split at P
  · rename_i n
    obtain ⟨p, rfl, hp⟩ := rep_ref rx
    rw [rs.unnil]
    split at P
    · rename_i ys hy
      split at P
      · rename_i d hd
        obtain ⟨ws, q1, r1⟩ := R.at hy hp
        obtain ⟨v, hv, rv⟩ := r1.get hd
        obtain ⟨R2, x2⟩ := R.write (u := .lst ws.dropLast) (o' := .lst ys.dropLast) hy hp fun e => ⟨_, upd_same, (reps_dropLast r1).ext e⟩
        exact ⟨p, ws, v, rfl, rfl, q1, by rw [← r1.1]; exact hv, P _ _ x2 R2 _ (rv.ext x2)⟩
      · exact P.elim
    · exact P.elim
  · exact P.elim
variable {o e : Expr} {mo me : ME} {pos : Pos}
theorem fe_mtL {name : Str} {id : String} {apos : Pos} {r : V → List V → Hp → VK → Prop} {f : D → List D → Sto → R D} {es : List Expr} {m : MA} (slot : Slot "list" name id) (hty : typeOf (.builtin id) = pure (.type "method_descriptor")) (hm : MtR X id r) (hf : MtF G r f) (ho : PE X o (tE G W mo)) (ha : PA X (e :: es) (tA G W m)) (hK : X.K = G.K := by rfl)
    (hbase : attributeBase o name X.env (eval o X.env) = eval o X.env := by rfl)
    (hfew : ((backTo pos (starEach (e :: es) X.env)).all (fun x => !x.1) && (backToKw pos (keywordEach [] X.env)).all (fun x => x.1.isSome)
      && decide ((e :: es).length + ([] : List Keyword).length + (if ([] : List Keyword).isEmpty then 0 else 1) < 30)) = true := by rfl)
    (hline : (apos.endLine == pos.line) = true := by rfl) (hs : starEach (e :: es) X.env = (false, eval e X.env) :: starEach es X.env := by rfl) (hplain : (backTo pos (starEach es X.env)).any (·.1) = false := by rfl) :
    PE X (.Call (.Attribute o name apos) (e :: es) [] pos) (tE G W (mMtL f mo m)) := by
  refine PE.imp (pe_bm PySem.F.plainAttrs_list slot hty hm ho ha hbase hfew hline hs hplain) fun σ H Q ⟨ρ, S, env, R, E, P⟩ => ⟨ρ, S, env, R, E, (PoR.bind P).imp fun x S1 ρ1 H1 x1 R1 P1 vx rx => ?_⟩
  by_cases h : isL x S1 = true
  · rw [if_pos h] at P1
    rw [hK]
    refine ⟨isL_ty R1 rx h, ρ1, S1, env, R1, E.ext x1, (PoR.bind P1).imp fun ds S2 ρ2 H2 x2 R2 P2 ws rs => ?_⟩
    exact hf W σ ρ2 S2 H2 x ds vx ws Q R2 (rx.ext x2) rs P2
  · rw [if_neg h] at P1; exact P1.elim
theorem fe_mtL0 {name : Str} {id : String} {apos : Pos} {r : V → List V → Hp → VK → Prop} {f : D → List D → Sto → R D} (slot : Slot "list" name id) (hty : typeOf (.builtin id) = pure (.type "method_descriptor")) (hm : MtR X id r) (hf : MtF G r f) (ho : PE X o (tE G W mo)) (hK : X.K = G.K := by rfl)
    (hbase : attributeBase o name X.env (eval o X.env) = eval o X.env := by rfl) (hline : (apos.endLine == pos.line) = true := by rfl) : PE X (.Call (.Attribute o name apos) [] [] pos) (tE G W (mMtL f mo mNil)) := by
  refine PE.imp (pe_bm0 PySem.F.plainAttrs_list slot hty hm ho hbase hline) fun σ H Q ⟨ρ, S, env, R, E, P⟩ => ⟨ρ, S, env, R, E, (PoR.bind P).imp fun x S1 ρ1 H1 x1 R1 P1 vx rx => ?_⟩
  by_cases h : isL x S1 = true
  · rw [if_pos h] at P1
    rw [hK]
    exact ⟨isL_ty R1 rx h, hf W σ ρ1 S1 H1 x [] vx [] Q R1 rx Reps.nil P1⟩
  · rw [if_neg h] at P1; exact P1.elim
end
end Fx
/-! Fx8: sorted, isinstance, in, dicts, long chains. -/
namespace Fx
open PySem L2

def mCh3T (f g h : D → D → Sto → R D) (a b c d : ME) : MT := fun env S => (a env S).bind fun x S1 => (b env S1).bind fun y S2 => (f x y S2).bind fun z S3 => (isB z S3).bind fun k S4 =>
  if k = true then (c env S4).bind fun w S5 => (g y w S5).bind fun z2 S6 => (isB z2 S6).bind fun k2 S7 => if k2 = true then (d env S7).bind fun w2 S8 => (h w w2 S8).bind isB else .ok false S7 else .ok false S4
/-! ### sorted -/
/-- sorted(xs), xs a list of data alike -/
def rSortedD (K : PySem.W.Frag) : List V → Hp → VK → Prop := fun vs H Q => ∃ (a : Addr) (bs : List (PyData × V)), vs = [V.ref a] ∧ SqL K H a (bs.map (·.2)) ∧ (∀ b ∈ bs, Dp K H b.2 b.1) ∧ PySem.W.AllAlike (bs.map (·.1)) ∧ PySem.W.Sortable (bs.map (·.1)) ∧ (∀ b ∈ bs, b.1.depth ≤ 16) ∧
  ∀ p, H p = none → Q (.ref p) (upd H p (.lst ((bs.mergeSort (PySem.W.dataLe false (·.1))).map (·.2))))
theorem each_of_vals : ∀ {bs : List (PyData × V)} {us : List Value}, Vals (bs.map (·.2)) us → PySem.W.EachIs (fun v (b : PyData × V) => RelV b.2 v) us bs
  | [], _, .nil => .nil
  | b :: bs, _, .cons r t => .cons r (each_of_vals t)
theorem vals_of_each : ∀ {bs : List (PyData × V)} {us : List Value}, PySem.W.EachIs (fun v (b : PyData × V) => RelV b.2 v) us bs → Vals (bs.map (·.2)) us
  | _, _, .nil => .nil
  | _, _, .cons r t => .cons r (vals_of_each t)
theorem each_mem {α β : Type} {R R' : α → β → Prop} : ∀ {us : List α} {bs : List β}, PySem.W.EachIs R us bs → (∀ u b, b ∈ bs → R u b → R' u b) → PySem.W.EachIs R' us bs
  | _, _, .nil, _ => .nil
  | _, _, .cons r t, f => .cons (f _ _ (by simp) r) (each_mem t fun u b h => f u b (by simp [h]))
theorem cr_sortedD {X : Cx} (hu : X.A.units + 64 < cLine) : CallR X (.builtin "sorted") (rSortedD X.K) := by
  intro pins s σ H vs us Q I r h
  obtain ⟨a, bs, rfl, hs, hd, hal, hk, hdp, q⟩ := h
  obtain ⟨its, rv, hl, hz⟩ := I.list hs
  obtain ⟨u, rfl, ru⟩ := vals1 r
  obtain rfl : u = Value.ref a := ru
  have e := each_of_vals rv
  refine PySem.W.sorted_data (enc := fun b : PyData × V => b.1) hl.isList e (each_mem e fun v b hb rb => Dp.reads I _ _ _ (hd b hb) rb) hal hk (by simpa using hz) (fun b hb => ?_) fun out ho he => ?_
  · have := hdp b hb
    omega
  · obtain ⟨ep, he'⟩ := PyProof.Rows.sortedAll_at s.heap its out.toArray
    refine ⟨.ref _, upd H (s.heap.objs.size + 1) (.lst ((bs.mergeSort (PySem.W.dataLe false (·.1))).map (·.2))), I.laid (t' := s.toks) (fun _ _ => PyProof.Rows.sortedAll_old) (Nat.le_succ _) ⟨?_, out, ep, vals_of_each he, he'⟩, rfl, q _ (I.hok.fresh (Nat.le_succ _))⟩
    rw [List.length_map, List.length_mergeSort]
    simpa using hz
def alikeB (ps : List PyData) : Bool := ps.all fun p => ps.all fun q => PySem.W.alike p q
def tupB : PyData → Bool | .tuple (_ :: _) => true | _ => false
def nonB : PyData → Bool | .none => false | .tuple _ => false | _ => true
def sortB (ps : List PyData) : Bool := ps.all tupB || ps.all nonB
theorem alikeB_ok {ps : List PyData} (h : alikeB ps = true) : PySem.W.AllAlike ps := fun d hd e he => List.all_eq_true.mp (List.all_eq_true.mp h d hd) e he
theorem sortB_ok {ps : List PyData} (h : sortB ps = true) : PySem.W.Sortable ps := by
  unfold sortB at h
  rw [Bool.or_eq_true] at h
  rcases h with h | h
  · refine .inl fun d hd => ?_
    have q := List.all_eq_true.mp h d hd
    unfold tupB at q
    split at q
    · exact ⟨_, _, rfl⟩
    · cases q
  · refine .inr fun d hd => ?_
    have q := List.all_eq_true.mp h d hd
    unfold nonB at q
    split at q
    · cases q
    · cases q
    · rename_i h1 h2
      exact ⟨h1, h2⟩
/-- the sorted list -/
def sortD (xs : List D) (ps : List PyData) : List D := ((xs.zip ps).mergeSort (PySem.W.dataLe false (·.2))).map (·.1)
def bSorted (ds : List D) (S : Sto) : R D := match ds with
  | [.ref n] => (match getL S n with
    | some xs => (match allO (toP TD S) xs with
      | some ps => if alikeB ps = true ∧ sortB ps = true then newL (sortD xs ps) S else .bad
      | none => .bad)
    | none => .bad)
  | _ => .bad
theorem allO_len {α β : Type} {f : α → Option β} : ∀ {l : List α} {m : List β}, allO f l = some m → m.length = l.length
  | [], _, h => by cases h; rfl
  | a :: l, m, h => by
    unfold allO at h
    split at h
    · rename_i x xs h1 h2
      cases h
      simp [allO_len h2]
    · cases h
theorem allO_get {α β : Type} {f : α → Option β} : ∀ {l : List α} {m : List β}, allO f l = some m → ∀ (i : Nat) a b, l[i]? = some a → m[i]? = some b → f a = some b
  | [], _, h, i, a, b, h1, _ => by simp at h1
  | c :: l, m, h, i, a, b, h1, h2 => by
    unfold allO at h
    split at h
    · rename_i x xs e1 e2
      cases h
      cases i with
      | zero => simp at h1 h2; subst h1 h2; exact e1
      | succ i => exact allO_get e2 i a b (by simpa using h1) (by simpa using h2)
    · cases h
section
variable {G : Cc} {ρ : List Addr} {S : Sto} {H : Hp} {X : Cx} {W : WX} {σ : L2.St} {a b c d e o : Expr} {ma mb mc md me mo : ME} {pos : Pos}
theorem mem_zip3 {xs : List D} {ps : List PyData} {ws : List V} {t : D × PyData × V} (h : t ∈ xs.zip (ps.zip ws)) : ∃ i : Nat, xs[i]? = some t.1 ∧ ps[i]? = some t.2.1 ∧ ws[i]? = some t.2.2 := by
  obtain ⟨i, hi⟩ := List.getElem?_of_mem h
  rw [List.getElem?_zip_eq_some, List.getElem?_zip_eq_some] at hi
  exact ⟨i, hi.1, hi.2.1, hi.2.2⟩
theorem f_sorted : CallF G (rSortedD G.K) bSorted := by
  intro W σ ρ S H xs vs Q R rs P
  unfold bSorted at P
  split at P
  · rename_i n
    obtain ⟨p, rfl, hp⟩ := refs1 rs
    split at P
    · rename_i ys hy
      obtain ⟨ws, q, r⟩ := R.listAt hp hy
      split at P
      · rename_i ps hps
        by_cases h : alikeB ps = true ∧ sortB ps = true
        · rw [if_pos h] at P
          have l1 := allO_len hps
          have l2 := r.1
          have e1 : (ps.zip ws).map (·.1) = ps := List.map_fst_zip (by omega)
          have e2 : (ps.zip ws).map (·.2) = ws := List.map_snd_zip (by omega)
          have e3 : (ys.zip (ps.zip ws)).map (·.2) = ps.zip ws := List.map_snd_zip (by rw [List.length_zip]; omega)
          have e4 : (ys.zip (ps.zip ws)).map (fun t => (t.1, t.2.1)) = ys.zip ps := by
            have z : ys.zip ((ps.zip ws).map (·.1)) = (ys.zip (ps.zip ws)).map (fun t => (t.1, t.2.1)) := by
              rw [List.zip_map_right]
              rfl
            rw [← z, e1]
          refine ⟨p, ps.zip ws, rfl, by rw [e2]; exact q, fun b hb => ?_, by rw [e1]; exact alikeB_ok h.1, by rw [e1]; exact sortB_ok h.2, fun b hb => ?_, fun t ht => ?_⟩
          · obtain ⟨i, hi⟩ := List.getElem?_of_mem hb
            rw [List.getElem?_zip_eq_some] at hi
            obtain ⟨d, hd, rd⟩ := r.getV hi.2
            exact dp_of R _ d _ _ (allO_get hps i d _ hd hi.1) rd
          · obtain ⟨i, hi⟩ := List.getElem?_of_mem hb
            rw [List.getElem?_zip_eq_some] at hi
            obtain ⟨d, hd, rd⟩ := r.getV hi.2
            exact Nat.le_trans (ok_of _ d _ (allO_get hps i d _ hd hi.1)).2 (by decide)
          · refine new_lst R ?_ P ht
            -- both are the sorted triples
            have f1 : sortD ys ps = ((ys.zip (ps.zip ws)).mergeSort (fun x y => PySem.W.dataLe false (fun z : PyData × V => z.1) x.2 y.2)).map (·.1) := by
              unfold sortD
              rw [← e4, ← PySem.W.sort_maps (r := fun x y => PySem.W.dataLe false (fun z : PyData × V => z.1) x.2 y.2) (s := PySem.W.dataLe false (fun z : D × PyData => z.2)) (fun t : D × PyData × V => (t.1, t.2.1)) (fun _ _ _ _ => rfl), List.map_map]
              rfl
            have f2 : ((ps.zip ws).mergeSort (PySem.W.dataLe false (·.1))).map (·.2) = ((ys.zip (ps.zip ws)).mergeSort (fun x y => PySem.W.dataLe false (fun z : PyData × V => z.1) x.2 y.2)).map (fun t => t.2.2) := by
              rw [← e3, ← PySem.W.sort_maps (r := fun x y => PySem.W.dataLe false (fun z : PyData × V => z.1) x.2 y.2) (s := PySem.W.dataLe false (fun z : PyData × V => z.1)) (fun t : D × PyData × V => t.2) (fun _ _ _ _ => rfl), List.map_map]
              rw [e3]
              rfl
            rw [f1, f2]
            refine ⟨by simp, fun i d v h1 h2 => ?_⟩
            rw [List.getElem?_map, Option.map_eq_some_iff] at h1 h2
            obtain ⟨t1, h1, rfl⟩ := h1
            obtain ⟨t2, h2, rfl⟩ := h2
            rw [h1] at h2
            cases h2
            have hm : t1 ∈ ys.zip (ps.zip ws) := (List.mergeSort_perm _ _).mem_iff.mp (List.mem_of_getElem? h1)
            obtain ⟨j, j1, j2, j3⟩ := mem_zip3 hm
            exact r.2 j _ _ j1 j3
        · rw [if_neg h] at P; exact P.elim
      · exact P.elim
    · exact P.elim
  · exact P.elim

/-! ### isinstance -/
end
/-- a type: a built-in one, an own class -/
inductive Ty where
  | b (n : String) | c (k : Nat)
def tyD (d : D) (S : Sto) : Option Ty := match d with
  | .non => some (.b "NoneType")
  | .bl _ => some (.b "bool")
  | .int _ => some (.b "int")
  | .str _ => some (.b "str")
  | .tup _ => some (.b "tuple")
  | .ref n => (match S[n]? with
    | some (.lst _) => some (.b "list")
    | some (.dic _) => some (.b "dict")
    | some (.ins c _) => some (.c c)
    | none => none)
  | .rl _ => some (.b "list")
  | .fn _ => none
def tyVal (G : Cc) : Ty → Value
  | .b n => .type n
  | .c k => .ref (G.ca k)
def mIsi (res : Ty → Option Bool) (m : ME) : ME := fun env S => (m env S).bind fun d S1 => match tyD d S1 with
  | some t => (match res t with | some b => .ok (.bl b) S1 | none => .bad)
  | none => .bad
structure InsOk (K : PySem.W.Frag) (C : Addr) : Prop where
  cl : Cls K C
  ha : PySem.W.findIn K (.ref C) "__class__" = some (some (.builtin "object.__class__"))
  hn : PySem.W.specialIn K (.builtin "object.__class__") "__get__" = some (some (.builtin "getset_descriptor.__get__"))
  htk : PySem.W.takesIn K (.builtin "object.__class__") = some true
  hm : PySem.W.mroIn K C (.type "object") = some true
/-- res tells isinstance's answers for the class cv -/
def IsiOk (K : PySem.W.Frag) (G : Cc) (cv : Value) (res : Ty → Option Bool) : Prop := ∀ t b, res t = some b → PySem.W.kitOne K (tyVal G t) cv = some b ∧ ∀ k, t = .c k → InsOk K (G.ca k)
section
variable {G : Cc} {ρ : List Addr} {S : Sto} {H : Hp} {X : Cx} {W : WX} {σ : L2.St} {a b c d e o : Expr} {ma mb mc md me mo : ME} {pos : Pos}
theorem tyX_of {K : PySem.W.Frag} (hK : K = G.K) {d : D} {v : V} {t : Ty} (R : Rel G ρ S H) (r : Rep G ρ H d v) (h : tyD d S = some t) (hi : ∀ k, t = .c k → InsOk K (G.ca k)) : TyX K H v (tyVal G t) := by
  subst hK
  cases d with
  | non => cases h; cases r; exact .base .non
  | bl k => cases h; cases r; exact .base (.bl _)
  | int k => cases h; cases r; exact .base (.int _)
  | str k => cases h; cases r; exact .base (.str _)
  | tup xs =>
    cases h
    obtain ⟨p, ws, rfl, q, _⟩ := rep_tupD r
    rcases q with (q | ⟨o, q⟩) | ⟨o, its, n, h1, h2, _⟩
    · exact .base (.tup q)
    · exact .fTuple q
    · exact .kTuple h1 h2
  | rl xs =>
    cases h
    cases r with
    | rl q _ _ =>
      rcases q with ⟨o, q⟩ | ⟨o, its, n, h1, h2, _⟩
      · exact .base (.frz q)
      · exact .kList h1 h2
  | fn k => cases h
  | ref n =>
    obtain ⟨p, rfl, hp⟩ := rep_ref r
    unfold tyD at h
    dsimp only at h
    split at h
    · rename_i xs hx
      cases h
      obtain ⟨ws, q, _⟩ := R.at hx hp
      exact .base (.lst q)
    · rename_i xs hx
      cases h
      obtain ⟨ws, q, _⟩ := R.at hx hp
      exact .base (.dK q)
    · rename_i k fs hx
      cases h
      obtain ⟨dx, gs, q, _⟩ := R.at hx hp
      have I := hi k rfl
      exact .base (.ins q I.cl I.ha I.hn I.htk I.hm)
    · cases h
theorem isi_core {cv : Value} {cV : V} {res : Ty → Option Bool} (hc : ClsV cV cv) (ho : IsiOk X.K G cv res) (hK : X.K = G.K) {H : Hp} {Q : VK} (h : tE G W (mIsi res ma) σ H Q) : tCB (rIsi X.K) (tCons (tE G W ma) (tCons (tC cV) tNil)) σ H Q := by
  obtain ⟨ρ, S, env, R, E, P⟩ := h
  refine ⟨ρ, S, env, R, E, (PoR.bind P).imp fun x S1 ρ1 H1 x1 R1 P1 v rv => ?_⟩
  cases ht : tyD x S1 with
  | none => rw [ht] at P1; exact P1.elim
  | some t =>
    rw [ht] at P1
    dsimp only at P1
    cases hr : res t with
    | none => rw [hr] at P1; exact P1.elim
    | some k =>
      rw [hr] at P1
      obtain ⟨h1, h2⟩ := ho t k hr
      exact ⟨v, cV, tyVal G t, cv, k, rfl, hc, tyX_of hK R1 rv ht h2, h1, P1.now R1 _ (.bl _)⟩
/-- isinstance(x, T), T a built-in -/
theorem fe_isiB {T : String} {x : Str} {p p2 : Pos} {res : Ty → Option Bool} (hm : X.mg "isinstance" = none) (hmx : X.mg x = none) (hv : bootBuiltins x = some (.type T)) (ho : IsiOk X.K G (.type T) res) (ha : PE X a (tE G W ma)) (hK : X.K = G.K := by rfl) (hg : Gl X "isinstance" := by rfl) (hgx : Gl X x := by rfl) (hn : x ≠ "__name__" := by decide) (hd : (x == ("__debug__" : Str)) = false := by decide)
    (he : starEach [a, .Name x p2] X.env = (false, eval a X.env) :: starEach [.Name x p2] X.env := by rfl) (hpl : (backTo pos (starEach [.Name x p2] X.env)).any (·.1) = false := by rfl) :
    PE X (.Call (.Name "isinstance" p) [a, .Name x p2] [] pos) (tE G W (mIsi res ma)) :=
  PE.imp (pe_callB call_isi hg hm (by decide +kernel) (pa_cons ha (pa_cons (pe_bltn (v := .ty T) hgx hmx hv rfl hn hd) pa_nil) he) (by decide) (by decide) he hpl) fun σ H Q h => isi_core (.ty T) ho hK h
/-- isinstance(x, C), C an own class -/
theorem fe_isiC {k : Nat} {x : Str} {p p2 : Pos} {res : Ty → Option Bool} (hm : X.mg "isinstance" = none) (hmx : X.mg x = some (.ref (G.ca k))) (ho : IsiOk X.K G (.ref (G.ca k)) res) (ha : PE X a (tE G W ma)) (hK : X.K = G.K := by rfl) (hg : Gl X "isinstance" := by rfl) (hgx : Gl X x := by rfl) (hd : (x == ("__debug__" : Str)) = false := by decide)
    (he : starEach [a, .Name x p2] X.env = (false, eval a X.env) :: starEach [.Name x p2] X.env := by rfl) (hpl : (backTo pos (starEach [.Name x p2] X.env)).any (·.1) = false := by rfl) :
    PE X (.Call (.Name "isinstance" p) [a, .Name x p2] [] pos) (tE G W (mIsi res ma)) :=
  PE.imp (pe_callB call_isi hg hm (by decide +kernel) (pa_cons ha (pa_cons (pe_glob (v := .ref (G.ca k)) hgx hmx rfl hd) pa_nil) he) (by decide) (by decide) he hpl) fun σ H Q h => isi_core (.own _) ho hK h

/-! ### a < b < c < d -/
theorem fe_ch3 {o1 o2 o3 : CmpOp} {r1 r2 r3 : R2} {f g h : D → D → Sto → R D} (p1 : OpR X (compareOp o1) r1) (p2 : OpR X (compareOp o2) r2) (p3 : OpR X (compareOp o3) r3) (q1 : OpF G r1 f) (q2 : OpF G r2 g) (q3 : OpF G r3 h) (ha : PE X a (tE G W ma)) (hb : PE X b (tE G W mb)) (hc : PE X c (tE G W mc)) (hd : PE X d (tE G W md))
    (hm : lastMarks [o1, o2, o3] [b, c, d] = false := by with_unfolding_all rfl) : PE X (.Compare a [o1, o2, o3] [b, c, d] pos) (tE G W (mCh3 f g h ma mb mc md)) := by
  refine ⟨fun pins s σ H Q I ⟨ρ, S, env, R, E, P⟩ => ?_⟩
  have hw := ha.run pins s σ H (fun vx H1 => ∃ ρ1 S1 x, Rel G ρ1 S1 H1 ∧ EnvR G ρ1 H1 env σ ∧ Rep G ρ1 H1 x vx ∧ PoR G W σ ρ1 H1 (QE G Q) ((mb env S1).bind fun y S2 => (f x y S2).bind fun z S3 => (isB z S3).bind fun k S4 =>
    if k = true then (mc env S4).bind fun w S5 => (g y w S5).bind fun z2 S6 => (isB z2 S6).bind fun k2 S7 => if k2 = true then (md env S7).bind fun w2 S8 => h w w2 S8 else .ok (.bl false) S7 else .ok (.bl false) S4)) I
    ⟨ρ, S, env, R, E, (PoR.bind P).imp fun x S1 ρ1 H1 x1 R1 P1 vx rx => ⟨ρ1, S1, x, R1, E.ext x1, rx, P1⟩⟩
  refine PyProof.Rows.Compare_chain (thn hw fun v s1 ⟨vx, H1, I1, rv, ρ1, S1, x, R1, E1, rx, P1⟩ => PyProof.Rows.chain_link (thn (hb.run pins s1 σ H1 (fun vy H2 => ∃ ρ2 S2 y, Rel G ρ2 S2 H2 ∧ EnvR G ρ2 H2 env σ ∧ Rep G ρ2 H2 x vx ∧ Rep G ρ2 H2 y vy ∧ PoR G W σ ρ2 H2 (QE G Q) ((f x y S2).bind fun z S3 => (isB z S3).bind fun k S4 =>
    if k = true then (mc env S4).bind fun w S5 => (g y w S5).bind fun z2 S6 => (isB z2 S6).bind fun k2 S7 => if k2 = true then (md env S7).bind fun w2 S8 => h w w2 S8 else .ok (.bl false) S7 else .ok (.bl false) S4)) I1
    ⟨ρ1, S1, env, R1, E1, (PoR.bind P1).imp fun y S2 ρ2 H2 x2 R2 P2 vy ry => ⟨ρ2, S2, y, R2, E1.ext x2, rx.ext x2, ry, P2⟩⟩) fun u s2 ⟨vy, H2, I2, ru, ρ2, S2, y, R2, E2, rx2, ry2, P2⟩ => ?_)) hm
  refine thn (p1 pins s2 σ H2 vx vy v u (fun vz H3 => ∃ k, vz = .bl k ∧ ∃ ρ3 S3, Rel G ρ3 S3 H3 ∧ EnvR G ρ3 H3 env σ ∧ Rep G ρ3 H3 y vy ∧ PoR G W σ ρ3 H3 (QE G Q) (if k = true then (mc env S3).bind fun w S5 => (g y w S5).bind fun z2 S6 => (isB z2 S6).bind fun k2 S7 => if k2 = true then (md env S7).bind fun w2 S8 => h w w2 S8 else .ok (.bl false) S7 else .ok (.bl false) S3)) I2 rv ru
    (q1 W σ ρ2 S2 H2 x y vx vy _ R2 rx2 ry2 ((PoR.bind P2).imp fun z S3 ρ3 H3 x3 R3 P3 vz rz => by
      obtain ⟨k, rfl, rfl, P4⟩ := isB_bl rz P3
      exact ⟨k, rfl, ρ3, S3, R3, E2.ext x3, ry2.ext x3, P4⟩))) fun cc s3 ⟨vz, H3, I3, rz, k, ek, ρ3, S3, R3, E3, ry3, P3⟩ => ?_
  subst ek
  cases rz
  refine wpAny_truthy_bool ?_
  cases k with
  | false => exact PyProof.Rows.ite_ff ⟨.bl false, H3, I3, rfl, P3.now R3 _ (.bl _)⟩
  | true =>
    refine PyProof.Rows.ite_tt (PyProof.Rows.chain_link (thn (hc.run pins s3 σ H3 (fun vw H4 => ∃ ρ4 S4 w, Rel G ρ4 S4 H4 ∧ EnvR G ρ4 H4 env σ ∧ Rep G ρ4 H4 y vy ∧ Rep G ρ4 H4 w vw ∧ PoR G W σ ρ4 H4 (QE G Q) ((g y w S4).bind fun z2 S6 => (isB z2 S6).bind fun k2 S7 => if k2 = true then (md env S7).bind fun w2 S8 => h w w2 S8 else .ok (.bl false) S7)) I3
      ⟨ρ3, S3, env, R3, E3, (PoR.bind P3).imp fun w S4 ρ4 H4 x4 R4 P4 vw rw' => ⟨ρ4, S4, w, R4, E3.ext x4, ry3.ext x4, rw', P4⟩⟩) fun u4 s4 ⟨vw, H4, I4, ru4, ρ4, S4, w, R4, E4, ry4, rw4, P4⟩ => ?_))
    refine thn (p2 pins s4 σ H4 vy vw u u4 (fun vz H5 => ∃ k, vz = .bl k ∧ ∃ ρ5 S5, Rel G ρ5 S5 H5 ∧ EnvR G ρ5 H5 env σ ∧ Rep G ρ5 H5 w vw ∧ PoR G W σ ρ5 H5 (QE G Q) (if k = true then (md env S5).bind fun w2 S8 => h w w2 S8 else .ok (.bl false) S5)) I4 ru ru4
      (q2 W σ ρ4 S4 H4 y w vy vw _ R4 ry4 rw4 ((PoR.bind P4).imp fun z S5 ρ5 H5 x5 R5 P5 vz rz => by
        obtain ⟨k, rfl, rfl, P6⟩ := isB_bl rz P5
        exact ⟨k, rfl, ρ5, S5, R5, E4.ext x5, rw4.ext x5, P6⟩))) fun c5 s5 ⟨vz, H5, I5, rz5, k, ek, ρ5, S5, R5, E5, rw5, P5⟩ => ?_
    subst ek
    cases rz5
    refine wpAny_truthy_bool ?_
    cases k with
    | false => exact PyProof.Rows.ite_ff ⟨.bl false, H5, I5, rfl, P5.now R5 _ (.bl _)⟩
    | true =>
      refine PyProof.Rows.ite_tt (PyProof.Rows.chain_last (thn (hd.run pins s5 σ H5 (fun vw2 H6 => ∃ ρ6 S6 w2, Rel G ρ6 S6 H6 ∧ Rep G ρ6 H6 w vw ∧ Rep G ρ6 H6 w2 vw2 ∧ PoR G W σ ρ6 H6 (QE G Q) (h w w2 S6)) I5
        ⟨ρ5, S5, env, R5, E5, (PoR.bind P5).imp fun w2 S6 ρ6 H6 x6 R6 P6 vw2 rw2 => ⟨ρ6, S6, w2, R6, rw5.ext x6, rw2, P6⟩⟩) fun u6 s6 ⟨vw2, H6, I6, ru6, ρ6, S6, w2, R6, rw6, rw2, P6⟩ => ?_))
      exact p3 pins s6 σ H6 vw vw2 u4 u6 Q I6 ru4 ru6 (q3 W σ ρ6 S6 H6 w w2 vw vw2 Q R6 rw6 rw2 P6)
theorem ft_ch3 {o1 o2 o3 : CmpOp} {r1 r2 r3 : R2} {f g h : D → D → Sto → R D} (p1 : OpR X (compareOp o1) r1) (p2 : OpR X (compareOp o2) r2) (p3 : OpR X (compareOp o3) r3) (q1 : OpF G r1 f) (q2 : OpF G r2 g) (q3 : OpF G r3 h) (ha : PE X a (tE G W ma)) (hb : PE X b (tE G W mb)) (hc : PE X c (tE G W mc)) (hd : PE X d (tE G W md))
    (hm : lastMarks [o1, o2, o3] [b, c, d] = false := by with_unfolding_all rfl) : PT X (.Compare a [o1, o2, o3] [b, c, d] pos) (tT G W (mCh3T f g h ma mb mc md)) := by
  refine ⟨fun pins s σ H Q I ⟨ρ, S, env, R, E, P⟩ => ?_⟩
  have hw := ha.run pins s σ H (fun vx H1 => ∃ ρ1 S1 x, Rel G ρ1 S1 H1 ∧ EnvR G ρ1 H1 env σ ∧ Rep G ρ1 H1 x vx ∧ PoR G W σ ρ1 H1 (QT Q) ((mb env S1).bind fun y S2 => (f x y S2).bind fun z S3 => (isB z S3).bind fun k S4 =>
    if k = true then (mc env S4).bind fun w S5 => (g y w S5).bind fun z2 S6 => (isB z2 S6).bind fun k2 S7 => if k2 = true then (md env S7).bind fun w2 S8 => (h w w2 S8).bind isB else .ok false S7 else .ok false S4)) I
    ⟨ρ, S, env, R, E, (PoR.bind P).imp fun x S1 ρ1 H1 x1 R1 P1 vx rx => ⟨ρ1, S1, x, R1, E.ext x1, rx, P1⟩⟩
  refine PyProof.Rows.isTrue_chain (thn hw fun v s1 ⟨vx, H1, I1, rv, ρ1, S1, x, R1, E1, rx, P1⟩ => PyProof.Rows.test_link (thn (hb.run pins s1 σ H1 (fun vy H2 => ∃ ρ2 S2 y, Rel G ρ2 S2 H2 ∧ EnvR G ρ2 H2 env σ ∧ Rep G ρ2 H2 x vx ∧ Rep G ρ2 H2 y vy ∧ PoR G W σ ρ2 H2 (QT Q) ((f x y S2).bind fun z S3 => (isB z S3).bind fun k S4 =>
    if k = true then (mc env S4).bind fun w S5 => (g y w S5).bind fun z2 S6 => (isB z2 S6).bind fun k2 S7 => if k2 = true then (md env S7).bind fun w2 S8 => (h w w2 S8).bind isB else .ok false S7 else .ok false S4)) I1
    ⟨ρ1, S1, env, R1, E1, (PoR.bind P1).imp fun y S2 ρ2 H2 x2 R2 P2 vy ry => ⟨ρ2, S2, y, R2, E1.ext x2, rx.ext x2, ry, P2⟩⟩) fun u s2 ⟨vy, H2, I2, ru, ρ2, S2, y, R2, E2, rx2, ry2, P2⟩ => ?_)) hm
  refine thn (p1 pins s2 σ H2 vx vy v u (fun vz H3 => ∃ k, vz = .bl k ∧ ∃ ρ3 S3, Rel G ρ3 S3 H3 ∧ EnvR G ρ3 H3 env σ ∧ Rep G ρ3 H3 y vy ∧ PoR G W σ ρ3 H3 (QT Q) (if k = true then (mc env S3).bind fun w S5 => (g y w S5).bind fun z2 S6 => (isB z2 S6).bind fun k2 S7 => if k2 = true then (md env S7).bind fun w2 S8 => (h w w2 S8).bind isB else .ok false S7 else .ok false S3)) I2 rv ru
    (q1 W σ ρ2 S2 H2 x y vx vy _ R2 rx2 ry2 ((PoR.bind P2).imp fun z S3 ρ3 H3 x3 R3 P3 vz rz => by
      obtain ⟨k, rfl, rfl, P4⟩ := isB_bl rz P3
      exact ⟨k, rfl, ρ3, S3, R3, E2.ext x3, ry2.ext x3, P4⟩))) fun cc s3 ⟨vz, H3, I3, rz, k, ek, ρ3, S3, R3, E3, ry3, P3⟩ => ?_
  subst ek
  cases rz
  refine wpAny_truthy_bool ?_
  cases k with
  | false => exact PyProof.Rows.ite_ff ⟨H3, I3, P3.now R3⟩
  | true =>
    refine PyProof.Rows.ite_tt (PyProof.Rows.test_link (thn (hc.run pins s3 σ H3 (fun vw H4 => ∃ ρ4 S4 w, Rel G ρ4 S4 H4 ∧ EnvR G ρ4 H4 env σ ∧ Rep G ρ4 H4 y vy ∧ Rep G ρ4 H4 w vw ∧ PoR G W σ ρ4 H4 (QT Q) ((g y w S4).bind fun z2 S6 => (isB z2 S6).bind fun k2 S7 => if k2 = true then (md env S7).bind fun w2 S8 => (h w w2 S8).bind isB else .ok false S7)) I3
      ⟨ρ3, S3, env, R3, E3, (PoR.bind P3).imp fun w S4 ρ4 H4 x4 R4 P4 vw rw' => ⟨ρ4, S4, w, R4, E3.ext x4, ry3.ext x4, rw', P4⟩⟩) fun u4 s4 ⟨vw, H4, I4, ru4, ρ4, S4, w, R4, E4, ry4, rw4, P4⟩ => ?_))
    refine thn (p2 pins s4 σ H4 vy vw u u4 (fun vz H5 => ∃ k, vz = .bl k ∧ ∃ ρ5 S5, Rel G ρ5 S5 H5 ∧ EnvR G ρ5 H5 env σ ∧ Rep G ρ5 H5 w vw ∧ PoR G W σ ρ5 H5 (QT Q) (if k = true then (md env S5).bind fun w2 S8 => (h w w2 S8).bind isB else .ok false S5)) I4 ru ru4
      (q2 W σ ρ4 S4 H4 y w vy vw _ R4 ry4 rw4 ((PoR.bind P4).imp fun z S5 ρ5 H5 x5 R5 P5 vz rz => by
        obtain ⟨k, rfl, rfl, P6⟩ := isB_bl rz P5
        exact ⟨k, rfl, ρ5, S5, R5, E4.ext x5, rw4.ext x5, P6⟩))) fun c5 s5 ⟨vz, H5, I5, rz5, k, ek, ρ5, S5, R5, E5, rw5, P5⟩ => ?_
    subst ek
    cases rz5
    refine wpAny_truthy_bool ?_
    cases k with
    | false => exact PyProof.Rows.ite_ff ⟨H5, I5, P5.now R5⟩
    | true =>
      refine PyProof.Rows.ite_tt (PyProof.Rows.test_last (thn (hd.run pins s5 σ H5 (fun vw2 H6 => ∃ ρ6 S6 w2, Rel G ρ6 S6 H6 ∧ Rep G ρ6 H6 w vw ∧ Rep G ρ6 H6 w2 vw2 ∧ PoR G W σ ρ6 H6 (QT Q) ((h w w2 S6).bind isB)) I5
        ⟨ρ5, S5, env, R5, E5, (PoR.bind P5).imp fun w2 S6 ρ6 H6 x6 R6 P6 vw2 rw2 => ⟨ρ6, S6, w2, R6, rw5.ext x6, rw2, P6⟩⟩) fun u6 s6 ⟨vw2, H6, I6, ru6, ρ6, S6, w2, R6, rw6, rw2, P6⟩ => ?_))
      refine thn (p3 pins s6 σ H6 vw vw2 u4 u6 (fun vz H7 => ∃ k, vz = .bl k ∧ Q k H7) I6 ru4 ru6 (q3 W σ ρ6 S6 H6 w w2 vw vw2 _ R6 rw6 rw2 ((PoR.bind P6).imp fun z S7 ρ7 H7 x7 R7 P7 vz rz => by
        cases z with
        | bl k => cases rz; exact ⟨k, rfl, P7.now R7⟩
        | _ => exact P7.elim))) fun c7 s7 ⟨vz, H7, I7, rz7, k, ek, q⟩ => ?_
      subst ek
      cases rz7
      exact wpAny_truthy_bool ⟨H7, I7, q⟩
end
end Fx
/-! Fx9: what a def leaves behind may be forgotten; the law's end. -/
namespace Fx
open PySem L2

/-- d told by new numbers, e by old ones: f takes a new number (below m) to the old one -/
inductive RenD (f : Nat → Nat) (m : Nat) : D → D → Prop where
  | non : RenD f m .non .non
  | bl (b : Bool) : RenD f m (.bl b) (.bl b)
  | int (i : Int) : RenD f m (.int i) (.int i)
  | str (x : Str) : RenD f m (.str x) (.str x)
  | fn (a : Addr) : RenD f m (.fn a) (.fn a)
  | tup {ds es : List D} (hl : ds.length = es.length) (h : ∀ (i : Nat) (d e : D), ds[i]? = some d → es[i]? = some e → RenD f m d e) : RenD f m (.tup ds) (.tup es)
  | rl {ds es : List D} (hl : ds.length = es.length) (h : ∀ (i : Nat) (d e : D), ds[i]? = some d → es[i]? = some e → RenD f m d e) : RenD f m (.rl ds) (.rl es)
  | ref {n : Nat} (h : n < m) : RenD f m (.ref n) (.ref (f n))
def RenS (f : Nat → Nat) (m : Nat) (ds es : List D) : Prop := ds.length = es.length ∧ ∀ (i : Nat) (d e : D), ds[i]? = some d → es[i]? = some e → RenD f m d e
def RenO (f : Nat → Nat) (m : Nat) : O → O → Prop
  | .lst ds, .lst es => RenS f m ds es
  | .dic kvs, .dic kws => kvs.map (·.1) = kws.map (·.1) ∧ RenS f m (kvs.map (·.2)) (kws.map (·.2))
  | .ins c fs, .ins c' gs => c = c' ∧ fs.map (·.1) = gs.map (·.1) ∧ RenS f m (fs.map (·.2)) (gs.map (·.2))
  | _, _ => False
structure GcTo (n : Nat) (S1 S2 : Sto) (f : Nat → Nat) : Prop where
  le : n ≤ S2.length
  id : ∀ j, j < n → f j = j
  inj : ∀ i j, i < S2.length → j < S2.length → f i = f j → i = j
  ob : ∀ (j : Nat) (o : O), S2[j]? = some o → ∃ o1, S1[f j]? = some o1 ∧ RenO f S2.length o o1
/-- every number in it is below -/
abbrev BelD (m : Nat) (d : D) : Prop := RenD (fun j => j) m d d
abbrev BelS (m : Nat) (ds : List D) : Prop := RenS (fun j => j) m ds ds
abbrev BelO (m : Nat) (o : O) : Prop := RenO (fun j => j) m o o
def WFS (S : Sto) : Prop := ∀ (n : Nat) (o : O), S[n]? = some o → BelO S.length o
def RefR (n : Nat) (r r' : R D) : Prop := r = r' ∨ match r' with
  | .bad => True
  | .ok d2 S2 => ∃ d S1 f, r = .ok d S1 ∧ GcTo n S1 S2 f ∧ RenD f S2.length d2 d
  | .exc c S2 => ∃ S1 f, r = .exc c S1 ∧ GcTo n S1 S2 f

section
variable {G : Cc} {ρ ρ1 ρ2 : List Addr} {H : Hp} {S S1 S2 : Sto} {f : Nat → Nat} {m n : Nat}
theorem RenD.mono {m' : Nat} (hm : m ≤ m') {g : Nat → Nat} (hg : ∀ j, j < m → g j = f j) {d e : D} (h : RenD f m d e) : RenD g m' d e := by
  induction h with
  | non => exact .non
  | bl b => exact .bl b
  | int i => exact .int i
  | str x => exact .str x
  | fn a => exact .fn a
  | tup hl h ih => exact .tup hl ih
  | rl hl h ih => exact .rl hl ih
  | ref h => rw [← hg _ h]; exact .ref (Nat.lt_of_lt_of_le h hm)
theorem RenS.mono {m' : Nat} (hm : m ≤ m') {g : Nat → Nat} (hg : ∀ j, j < m → g j = f j) {d e : List D} (h : RenS f m d e) : RenS g m' d e := ⟨h.1, fun i a b h1 h2 => (h.2 i a b h1 h2).mono hm hg⟩
theorem RenO.mono {m' : Nat} (hm : m ≤ m') {g : Nat → Nat} (hg : ∀ j, j < m → g j = f j) {o o' : O} (h : RenO f m o o') : RenO g m' o o' := by
  cases o <;> cases o' <;> try exact h.elim
  · exact RenS.mono hm hg h
  · exact ⟨h.1, RenS.mono hm hg h.2⟩
  · exact ⟨h.1, h.2.1, RenS.mono hm hg h.2.2⟩
theorem bel_of_rep {d : D} {v : V} (h : Rep G ρ H d v) : BelD ρ.length d := by
  induction h with
  | non => exact .non
  | bl b => exact .bl b
  | int i => exact .int i
  | str x => exact .str x
  | fn a => exact .fn a
  | @tup ds a vs h hl hi ih =>
    refine .tup rfl fun i d e h1 h2 => ?_
    rw [h1] at h2
    cases h2
    have hlt : i < vs.length := by rw [← hl]; exact (List.getElem?_eq_some_iff.mp h1).1
    exact ih i d vs[i] h1 (by simp [hlt])
  | @rl ds a vs h hl hi ih =>
    refine .rl rfl fun i d e h1 h2 => ?_
    rw [h1] at h2
    cases h2
    have hlt : i < vs.length := by rw [← hl]; exact (List.getElem?_eq_some_iff.mp h1).1
    exact ih i d vs[i] h1 (by simp [hlt])
  | @ref n a h => exact .ref (List.getElem?_eq_some_iff.mp h).1
theorem bels_of_reps {ds : List D} {vs : List V} (h : Reps G ρ H ds vs) : BelS ρ.length ds := by
  refine ⟨rfl, fun i d e h1 h2 => ?_⟩
  rw [h1] at h2
  cases h2
  obtain ⟨v, _, r⟩ := h.get h1
  exact bel_of_rep r
theorem Rel.wf (R : Rel G ρ S H) : WFS S := fun n o h => by
  obtain ⟨a, ha, q⟩ := R.ob n o h
  rw [← R.len]
  cases o with
  | lst ds => obtain ⟨vs, _, r⟩ := q; exact bels_of_reps r
  | dic kvs => obtain ⟨vs, _, _, r⟩ := q; exact ⟨rfl, bels_of_reps r⟩
  | ins c fs => obtain ⟨dx, gs, _, _, r⟩ := q; exact ⟨rfl, rfl, bels_of_reps r⟩
theorem rep_ren {d e : D} (h : RenD f m d e) : ∀ {v : V}, (∀ j, j < m → ρ2[j]? = ρ1[f j]?) → Rep G ρ1 H e v → Rep G ρ2 H d v := by
  induction h with
  | non => intro v _ r; cases r; exact .non
  | bl b => intro v _ r; cases r; exact .bl b
  | int i => intro v _ r; cases r; exact .int i
  | str x => intro v _ r; cases r; exact .str x
  | fn a => intro v _ r; cases r; exact .fn a
  | @tup ds es hl h ih =>
    intro v hj r
    cases r with
    | @tup _ a vs q1 q2 q3 =>
      refine .tup q1 (hl.trans q2) fun i d w h1 h2 => ?_
      have hlt : i < es.length := by rw [← hl]; exact (List.getElem?_eq_some_iff.mp h1).1
      exact ih i d es[i] h1 (by simp [hlt]) hj (q3 i _ w (by simp [hlt]) h2)
  | @rl ds es hl h ih =>
    intro v hj r
    cases r with
    | @rl _ a vs q1 q2 q3 =>
      refine .rl q1 (hl.trans q2) fun i d w h1 h2 => ?_
      have hlt : i < es.length := by rw [← hl]; exact (List.getElem?_eq_some_iff.mp h1).1
      exact ih i d es[i] h1 (by simp [hlt]) hj (q3 i _ w (by simp [hlt]) h2)
  | @ref n h =>
    intro v hj r
    obtain ⟨a, rfl, ha⟩ := rep_ref r
    exact .ref ((hj n h).trans ha)
theorem reps_ren {ds es : List D} {vs : List V} (h : RenS f m ds es) (hj : ∀ j, j < m → ρ2[j]? = ρ1[f j]?) (r : Reps G ρ1 H es vs) : Reps G ρ2 H ds vs := by
  refine ⟨h.1.trans r.1, fun i d w h1 h2 => ?_⟩
  have hlt : i < es.length := by rw [← h.1]; exact (List.getElem?_eq_some_iff.mp h1).1
  exact rep_ren (h.2 i d es[i] h1 (by simp [hlt])) hj (r.2 i _ w (by simp [hlt]) h2)
theorem or_ren {o o1 : O} {a : Addr} (h : RenO f m o o1) (hj : ∀ j, j < m → ρ2[j]? = ρ1[f j]?) (r : OR G ρ1 H a o1) : OR G ρ2 H a o := by
  cases o <;> cases o1 <;> try exact h.elim
  · obtain ⟨vs, q, r⟩ := r; exact ⟨vs, q, reps_ren h hj r⟩
  · obtain ⟨vs, q, k, r⟩ := r
    refine ⟨vs, q, ?_, reps_ren h.2 hj r⟩
    rw [k]
    have := congrArg (List.map (fun i : Int => (Sum.inl i : Key))) h.1
    rw [List.map_map, List.map_map] at this
    exact this.symm
  · obtain ⟨dx, gs, q, k, r⟩ := r
    obtain ⟨h1, h2, h3⟩ := h
    subst h1
    exact ⟨dx, gs, q, k.trans h2.symm, reps_ren h3 hj r⟩
theorem Rel.gc (R : Rel G ρ1 S1 H) (g : GcTo n S1 S2 f) : ∃ ρ2, Rel G ρ2 S2 H ∧ ρ1.take n <+: ρ2 ∧ ∀ j, j < S2.length → ρ2[j]? = ρ1[f j]? := by
  have hlt : ∀ j, j < S2.length → f j < ρ1.length := fun j hj => by
    obtain ⟨o1, h1, _⟩ := g.ob j S2[j] (by simp [hj])
    rw [R.len]
    exact (List.getElem?_eq_some_iff.mp h1).1
  have get : ∀ j, j < S2.length → ((List.range S2.length).map fun j => ρ1.getD (f j) 0)[j]? = ρ1[f j]? := fun j hj => by
    rw [List.getElem?_map, List.getElem?_range hj]
    have := hlt j hj
    simp [this]
  refine ⟨(List.range S2.length).map fun j => ρ1.getD (f j) 0, ⟨by simp, ?_, fun j o h => ?_⟩, ?_, get⟩
  · show List.Pairwise (· ≠ ·) _
    rw [List.pairwise_iff_getElem]
    intro i j hi hj hij e
    have hj' : j < S2.length := by simpa using hj
    have hi' : i < S2.length := Nat.lt_trans hij hj'
    have e2 : ((List.range S2.length).map fun j => ρ1.getD (f j) 0)[i]? = ((List.range S2.length).map fun j => ρ1.getD (f j) 0)[j]? := by
      rw [List.getElem?_eq_getElem hi, List.getElem?_eq_getElem hj, e]
    rw [get i hi', get j hj'] at e2
    have h1 := hlt i hi'
    have h2 := hlt j hj'
    rw [List.getElem?_eq_getElem h1, List.getElem?_eq_getElem h2] at e2
    have := (List.getElem_inj R.nd).mp (Option.some.inj e2)
    exact absurd (g.inj i j hi' hj' this) (Nat.ne_of_lt hij)
  · have hj : j < S2.length := (List.getElem?_eq_some_iff.mp h).1
    obtain ⟨o1, h1, h2⟩ := g.ob j o h
    obtain ⟨a, ha, q⟩ := R.ob _ _ h1
    exact ⟨a, (get j hj).trans ha, or_ren h2 get q⟩
  · rw [List.prefix_iff_getElem?]
    intro i hi
    have hi1 : i < n := by
      have : (ρ1.take n).length ≤ n := List.length_take_le ..
      omega
    have hi2 : i < S2.length := Nat.lt_of_lt_of_le hi1 g.le
    rw [get i hi2, g.id i hi1]
    have hr : i < ρ1.length := by
      have := hlt i hi2
      rw [g.id i hi1] at this
      exact this
    simp [hr]
theorem spF_ref {mf cf : List D → Sto → R D} (h : ∀ ds S, ds.length = n → WFS S → BelS S.length ds → RefR S.length (mf ds S) (cf ds S)) {vs : List V} {Q : VK} {E : XK} (q : spF G n cf vs H Q E) : spF G n mf vs H Q E := by
  obtain ⟨ρ, S, ds, R, rs, hl, P⟩ := q
  refine ⟨ρ, S, ds, R, rs, hl, ?_⟩
  have hr := h ds S hl R.wf (by rw [← R.len]; exact bels_of_reps rs)
  rcases hr with hr | hr
  · rw [hr]; exact P
  cases hc : cf ds S with
  | bad => rw [hc] at P; exact P.elim
  | ok d2 S2 =>
    rw [hc] at P hr
    obtain ⟨d, S1, f, e, g, hd⟩ := hr
    rw [e]
    intro ρ' H' x R' v rv
    obtain ⟨ρ2, R2, hp, hj⟩ := R'.gc g
    refine P ρ2 H' ⟨?_, x.tup, x.frz⟩ R2 v (rep_ren hd hj rv)
    obtain ⟨t, rfl⟩ := x.pre
    rw [← R.len, List.take_left'] at hp
    · exact hp
    · rfl
  | exc c S2 =>
    rw [hc] at P hr
    obtain ⟨S1, f, e, g⟩ := hr
    rw [e]
    intro ρ' H' x R'
    obtain ⟨ρ2, R2, hp, hj⟩ := R'.gc g
    refine P ρ2 H' ⟨?_, x.tup, x.frz⟩ R2
    obtain ⟨t, rfl⟩ := x.pre
    rw [← R.len, List.take_left'] at hp
    · exact hp
    · rfl
/-! the common cases -/
theorem gc_id {A T : Sto} (hA : A.length = n) (w : WFS A) : GcTo n (A ++ T) A (fun j => j) :=
  ⟨Nat.le_of_eq hA.symm, fun _ _ => rfl, fun _ _ _ _ h => h, fun j o h => ⟨o, by rw [List.getElem?_append_left (List.getElem?_eq_some_iff.mp h).1]; exact h, w j o h⟩⟩
/-- the old ones stand, what was made is forgotten -/
theorem ref_same {A T : Sto} {d : D} {r : R D} (e : r = .ok d (A ++ T)) (hA : A.length = n) (w : WFS A) (hd : BelD n d) : RefR n r (.ok d A) :=
  .inr ⟨d, A ++ T, _, e, gc_id hA w, by rw [hA]; exact hd⟩
theorem ref_exc {A T : Sto} {c : Nat} {r : R D} (e : r = .exc c (A ++ T)) (hA : A.length = n) (w : WFS A) : RefR n r (.exc c A) :=
  .inr ⟨A ++ T, _, e, gc_id hA w⟩
/-- one new list is kept -/
theorem ref_list {A T : Sto} {k : Nat} {xs : List D} {r : R D} (e : r = .ok (.ref k) (A ++ T)) (hA : A.length = n) (w : WFS A) (hk : (A ++ T)[k]? = some (.lst xs)) (hn : n ≤ k) (hx : BelS n xs) : RefR n r (.ok (.ref n) (A ++ [.lst xs])) := by
  refine .inr ⟨.ref k, A ++ T, fun j => if j = n then k else j, e, ⟨by simp [hA], fun j hj => if_neg (Nat.ne_of_lt hj), fun i j hi hj h => ?_, fun j o h => ?_⟩, ?_⟩
  · simp only [List.length_append, List.length_cons, List.length_nil, hA] at hi hj
    by_cases h1 : i = n <;> by_cases h2 : j = n <;> simp only [h1, h2, if_true, if_false] at h ⊢ <;> omega
  · by_cases hj : j = n
    · subst hj
      rw [List.getElem?_append_right (by omega)] at h
      simp only [hA, Nat.sub_self, List.getElem?_cons_zero, Option.some.injEq] at h
      subst h
      exact ⟨.lst xs, by rw [if_pos rfl]; exact hk, RenS.mono (by simp [hA]) (fun i hi => if_neg (Nat.ne_of_lt hi)) hx⟩
    · have hlt : j < A.length := by
        have := (List.getElem?_eq_some_iff.mp h).1
        simp only [List.length_append, List.length_cons, List.length_nil, hA] at this
        omega
      rw [List.getElem?_append_left hlt] at h
      refine ⟨o, by rw [if_neg hj, List.getElem?_append_left hlt]; exact h, RenO.mono (by simp [hA]) (fun i hi => if_neg (by omega)) (w j o h)⟩
  · have := RenD.ref (f := fun j => if j = n then k else j) (m := (A ++ [O.lst xs]).length) (n := n) (by simp [hA])
    simpa using this
/-! numbers, truths -/
theorem belS_ints (is : List Int) : BelS m (is.map D.int) := ⟨rfl, fun i d e h1 h2 => by
  rw [h1] at h2
  cases h2
  rw [List.getElem?_map, Option.map_eq_some_iff] at h1
  obtain ⟨z, _, rfl⟩ := h1
  exact .int z⟩
theorem belS_nil : BelS m [] := ⟨rfl, fun i d e h => by simp at h⟩
theorem belS_cons {d : D} {ds : List D} (h : BelD m d) (t : BelS m ds) : BelS m (d :: ds) := ⟨rfl, fun i a b h1 h2 => by
  rw [h1] at h2
  cases h2
  cases i with
  | zero => simp at h1; subst h1; exact h
  | succ i => exact t.2 i a a (by simpa using h1) (by simpa using h1)⟩
theorem belS_of {ds : List D} (h : ∀ d ∈ ds, BelD m d) : BelS m ds := ⟨rfl, fun i d e h1 h2 => by
  rw [h1] at h2
  cases h2
  exact h d (List.mem_of_getElem? h1)⟩
theorem BelS.mem {ds : List D} (h : BelS m ds) : ∀ d ∈ ds, BelD m d := fun d hd => by
  obtain ⟨i, hi⟩ := List.getElem?_of_mem hd
  exact h.2 i d d hi hi
theorem belD_tup {ds : List D} (h : BelS m ds) : BelD m (.tup ds) := .tup rfl h.2
theorem wfs_app {A T : Sto} (w : WFS A) (t : ∀ o ∈ T, BelO (A ++ T).length o) : WFS (A ++ T) := fun n o h => by
  by_cases hn : n < A.length
  · rw [List.getElem?_append_left hn] at h
    exact RenO.mono (by simp) (fun _ _ => rfl) (w n o h)
  · rw [List.getElem?_append_right (by omega)] at h
    exact t o (List.mem_of_getElem? h)
end

/-! ### a def's function without what it leaves behind -/
open Classical in
noncomputable def gcF (r : List D → Sto → R D) : List D → Sto → R D := fun ds S => match r ds S with
  | .ok d S' => if (S'.take S.length = S ∨ WFS (S'.take S.length)) ∧ BelD S.length d ∧ S.length ≤ S'.length then .ok d (S'.take S.length)
    else match d with
      | .ref k => (match S'[k]? with
        | some (.lst xs) => if S'.take S.length = S ∧ S.length ≤ k ∧ BelS S.length xs then .ok (.ref S.length) (S ++ [.lst xs]) else .ok d S'
        | _ => .ok d S')
      | _ => .ok d S'
  | .exc c S' => if (S'.take S.length = S ∨ WFS (S'.take S.length)) ∧ S.length ≤ S'.length then .exc c (S'.take S.length) else .exc c S'
  | .bad => .bad
theorem gcF_ref (r : List D → Sto → R D) (ds : List D) (S : Sto) (w : WFS S) : RefR S.length (r ds S) (gcF r ds S) := by
  unfold gcF
  cases hr : r ds S with
  | bad => exact .inl rfl
  | exc c S' =>
    dsimp only
    split
    · rename_i h
      refine ref_exc (T := S'.drop S.length) (by rw [List.take_append_drop]) (by rw [List.length_take]; omega) ?_
      rcases h.1 with z | z
      · rw [z]; exact w
      · exact z
    · exact .inl rfl
  | ok d S' =>
    dsimp only
    split
    · rename_i h
      refine ref_same (T := S'.drop S.length) (by rw [List.take_append_drop]) (by rw [List.length_take]; omega) ?_ h.2.1
      rcases h.1 with z | z
      · rw [z]; exact w
      · exact z
    · split
      · rename_i k
        split
        · rename_i xs hx
          split
          · rename_i h
            have e : S' = S ++ S'.drop S.length := by
              have := List.take_append_drop S.length S'
              rw [h.1] at this
              exact this.symm
            exact ref_list (T := S'.drop S.length) (by rw [← e]) rfl w (by rw [← e]; exact hx) h.2.1 h.2.2
          · exact .inl rfl
        · exact .inl rfl
      · exact .inl rfl
section
variable {r : List D → Sto → R D} {ds : List D} {S A T S' : Sto} {d : D} {k : Nat} {xs : List D}
theorem gcF_same (e : r ds S = .ok d (S ++ T)) (h : BelD S.length d) : gcF r ds S = .ok d S := by
  unfold gcF
  rw [e]
  dsimp only
  rw [if_pos ⟨.inl (List.take_left' rfl), h, by simp⟩, List.take_left' rfl]
theorem gcF_pure (e : r ds S = .ok d S) (h : BelD S.length d) : gcF r ds S = .ok d S := gcF_same (T := []) (by rw [List.append_nil]; exact e) h
theorem gcF_mut (e : r ds S = .ok d (A ++ T)) (hA : A.length = S.length) (w : WFS A) (h : BelD S.length d) : gcF r ds S = .ok d A := by
  unfold gcF
  rw [e]
  dsimp only
  rw [if_pos ⟨.inr (by rw [List.take_left' hA]; exact w), h, by simp [hA]⟩, List.take_left' hA]
theorem gcF_list (e : r ds S = .ok (.ref k) (S ++ T)) (hk : (S ++ T)[k]? = some (.lst xs)) (hn : S.length ≤ k) (hx : BelS S.length xs) : gcF r ds S = .ok (.ref S.length) (S ++ [.lst xs]) := by
  unfold gcF
  rw [e]
  dsimp only
  rw [if_neg, hk]
  · dsimp only
    rw [if_pos ⟨List.take_left' rfl, hn, hx⟩]
  · intro h
    have := h.2.1
    cases this with
    | ref h => omega
theorem gcF_ins {c : Nat} {fs : List (Str × D)} (e : r ds S = .ok (.ref k) S') (hk : S'[k]? = some (.ins c fs)) (hn : S.length ≤ k) : gcF r ds S = .ok (.ref k) S' := by
  unfold gcF
  rw [e]
  dsimp only
  rw [if_neg, hk]
  intro h
  have := h.2.1
  cases this with
  | ref h => omega
theorem gcF_exc {c : Nat} (e : r ds S = .exc c (S ++ T)) : gcF r ds S = .exc c S := by
  unfold gcF
  rw [e]
  dsimp only
  rw [if_pos ⟨.inl (List.take_left' rfl), by simp⟩, List.take_left' rfl]
theorem gcF_bad (e : r ds S = .bad) : gcF r ds S = .bad := by
  unfold gcF
  rw [e]
end

/-! ### a def as the others know it -/
structure FnB (P : Program) (w : World) (mg : Str → Option Value) (base : Heap) (G : Cc) (x : Str) (n k : Nat) (mf : List D → Sto → R D) : Prop where
  ex : ∃ (f : Addr) (fd : FuncData) (ps : List Str), FnOk P w G.K mg base (L2.CX P w) k f fd ps (spF G n mf) ∧ mg x = some (.ref f) ∧ PySem.W.keepIn G.K (.ref f) = true ∧ Binds G.K fd ps []
theorem FnB.ref {P : Program} {w : World} {mg : Str → Option Value} {base : Heap} {G : Cc} {x : Str} {n k : Nat} {mf cf : List D → Sto → R D} (F : FnB P w mg base G x n k mf) (h : ∀ ds S, ds.length = n → WFS S → BelS S.length ds → RefR S.length (mf ds S) (cf ds S)) : FnB P w mg base G x n k cf := by
  obtain ⟨f, fd, ps, F1, h1, h2, h3⟩ := F.ex
  exact ⟨f, fd, ps, F1.imp fun vs H Q E q => spF_ref h q, h1, h2, h3⟩
theorem FnB.gc {P : Program} {w : World} {mg : Str → Option Value} {base : Heap} {G : Cc} {x : Str} {n k : Nat} {mf : List D → Sto → R D} (F : FnB P w mg base G x n k mf) : FnB P w mg base G x n k (gcF mf) := F.ref fun ds S _ w _ => gcF_ref mf ds S w
/-- a method of the class at c -/
structure MtB (P : Program) (w : World) (mg : Str → Option Value) (base : Heap) (G : Cc) (c : Nat) (m : Str) (n k : Nat) (mf : List D → Sto → R D) : Prop where
  ex : ∃ (f : Addr) (fd : FuncData) (ps : List Str), Cls G.K (G.ca c) ∧ Meth G.K (G.ca c) m f ∧ FnOk P w G.K mg base (L2.CX P w) k f fd ps (spF G n mf) ∧ Binds G.K fd ps []
theorem MtB.ref {P : Program} {w : World} {mg : Str → Option Value} {base : Heap} {G : Cc} {c : Nat} {x : Str} {n k : Nat} {mf cf : List D → Sto → R D} (F : MtB P w mg base G c x n k mf) (h : ∀ ds S, ds.length = n → WFS S → BelS S.length ds → RefR S.length (mf ds S) (cf ds S)) : MtB P w mg base G c x n k cf := by
  obtain ⟨f, fd, ps, h1, h2, F1, h3⟩ := F.ex
  exact ⟨f, fd, ps, h1, h2, F1.imp fun vs H Q E q => spF_ref h q, h3⟩
theorem MtB.gc {P : Program} {w : World} {mg : Str → Option Value} {base : Heap} {G : Cc} {c : Nat} {x : Str} {n k : Nat} {mf : List D → Sto → R D} (F : MtB P w mg base G c x n k mf) : MtB P w mg base G c x n k (gcF mf) := F.ref fun ds S _ w _ => gcF_ref mf ds S w
/-- the class at c, made by its name -/
structure MkB (P : Program) (w : World) (mg : Str → Option Value) (base : Heap) (G : Cc) (x : Str) (c n k : Nat) (mf : List D → Sto → R D) : Prop where
  ex : ∃ (f : Addr) (fd : FuncData) (ps : List Str), Mk G.K (G.ca c) f ∧ FnOk P w G.K mg base (L2.CX P w) k f fd ps (spF G n mf) ∧ mg x = some (.ref (G.ca c)) ∧ Binds G.K fd ps []
theorem MkB.ref {P : Program} {w : World} {mg : Str → Option Value} {base : Heap} {G : Cc} {c : Nat} {x : Str} {n k : Nat} {mf cf : List D → Sto → R D} (F : MkB P w mg base G x c n k mf) (h : ∀ ds S, ds.length = n → WFS S → BelS S.length ds → RefR S.length (mf ds S) (cf ds S)) : MkB P w mg base G x c n k cf := by
  obtain ⟨f, fd, ps, h1, F1, h2, h3⟩ := F.ex
  exact ⟨f, fd, ps, h1, F1.imp fun vs H Q E q => spF_ref h q, h2, h3⟩
/-- from a def's rule to what the others know -/
theorem fnB_of {P : Program} {w : World} {mg : Str → Option Value} {base : Heap} {G : Cc} {x : Str} {n k : Nat} {mf : List D → Sto → R D} {f : Addr} {fd : FuncData} {ps : List Str} (F : FnOk P w G.K mg base (L2.CX P w) k f fd ps (spF G n mf)) (h1 : mg x = some (.ref f)) (h2 : PySem.W.keepIn G.K (.ref f) = true) (h3 : Binds G.K fd ps []) : FnB P w mg base G x n k (gcF mf) := FnB.gc ⟨f, fd, ps, F, h1, h2, h3⟩
theorem mtB_of {P : Program} {w : World} {mg : Str → Option Value} {base : Heap} {G : Cc} {c : Nat} {x : Str} {n k : Nat} {mf : List D → Sto → R D} {f : Addr} {fd : FuncData} {ps : List Str} (F : FnOk P w G.K mg base (L2.CX P w) k f fd ps (spF G n mf)) (h1 : Cls G.K (G.ca c)) (h2 : Meth G.K (G.ca c) x f) (h3 : Binds G.K fd ps []) : MtB P w mg base G c x n k (gcF mf) := MtB.gc ⟨f, fd, ps, h1, h2, F, h3⟩
theorem mkB_of {P : Program} {w : World} {mg : Str → Option Value} {base : Heap} {G : Cc} {c : Nat} {x : Str} {n k : Nat} {mf : List D → Sto → R D} {f : Addr} {fd : FuncData} {ps : List Str} (F : FnOk P w G.K mg base (L2.CX P w) k f fd ps (spF G n mf)) (h1 : Mk G.K (G.ca c) f) (h2 : mg x = some (.ref (G.ca c))) (h3 : Binds G.K fd ps []) : MkB P w mg base G x c n k mf := ⟨f, fd, ps, h1, F, h2, h3⟩
theorem all1 {α : Type} {p : α → Prop} {a : α} (h : p a) : ∀ x ∈ [a], p x := fun x hx => by
  have : x = a := by simpa using hx
  rw [this]; exact h
theorem all2 {α : Type} {p : α → Prop} {a b : α} (h : p a) (h2 : p b) : ∀ x ∈ [a, b], p x := fun x hx => by
  rcases List.mem_cons.mp hx with rfl | hx
  · exact h
  · exact all1 h2 x hx
theorem all3 {α : Type} {p : α → Prop} {a b c : α} (h : p a) (h2 : p b) (h3 : p c) : ∀ x ∈ [a, b, c], p x := fun x hx => by
  rcases List.mem_cons.mp hx with rfl | hx
  · exact h
  · exact all2 h2 h3 x hx
section
variable {X : Cx} {G : Cc}
theorem FnB.fn {x : Str} {n k j : Nat} {mf : List D → Sto → R D} (F : FnB X.prog X.w X.mg X.base G x n k mf) (hr : Room j X.A) (hj : k ≤ j := by decide) (hK : X.K = G.K := by rfl) : Fn X G x n mf := by
  obtain ⟨f, fd, ps, F1, h1, h2, h3⟩ := F.ex
  exact ⟨f, fd, ps, k, by rw [hK]; exact F1, hr.mono hj, h1, by rw [hK]; exact h2, by rw [hK]; exact h3⟩
theorem MtB.mt {c : Nat} {m : Str} {n k j : Nat} {mf : List D → Sto → R D} (F : MtB X.prog X.w X.mg X.base G c m n k mf) (hr : Room j X.A) (hj : k ≤ j := by decide) (hK : X.K = G.K := by rfl) : Mt X G c m n mf := by
  obtain ⟨f, fd, ps, h1, h2, F1, h3⟩ := F.ex
  exact ⟨f, fd, ps, k, by rw [hK]; exact h1, by rw [hK]; exact h2, by rw [hK]; exact F1, hr.mono hj, by rw [hK]; exact h3⟩
theorem MkB.mke {x : Str} {c n k j : Nat} {mf : List D → Sto → R D} (F : MkB X.prog X.w X.mg X.base G x c n k mf) (hr : Room j X.A) (hj : k + 1 ≤ j := by decide) (hK : X.K = G.K := by rfl) : Mke X G x c n mf := by
  obtain ⟨f, fd, ps, h1, F1, h2, h3⟩ := F.ex
  exact ⟨f, fd, ps, k, by rw [hK]; exact h1, by rw [hK]; exact F1, hr.mono hj, h2, by rw [hK]; exact h3⟩
end
/-- the law's promise, from what its body makes of the script -/
theorem law_sp {G : Cc} {mf : List D → Sto → R D} {H : Hp} {a : Addr} {ns : List Int} (hO : Only H) (hS : SqL G.K H a (ns.map V.int)) (h : ∃ S, mf [.rl (ns.map D.int)] [] = .ok (.bl true) S) : spF G 1 mf [.ref a] H (fun v _ => v = .bl true) fun _ _ _ => False := by
  obtain ⟨S, e⟩ := h
  have hr : RoL G.K H a (ns.map V.int) := by
    rcases hS with (h | ⟨o, h⟩) | h
    · rcases hO a with z | ⟨o, xs, z⟩
      · rw [z] at h; cases h
      · rw [z] at h; cases h
    · exact .inl ⟨o, h⟩
    · exact .inr h
  have r : Rep G [] H (.rl (ns.map D.int)) (.ref a) := .rl hr (by simp) fun i d v h1 h2 => by
    rw [List.getElem?_map, Option.map_eq_some_iff] at h1 h2
    obtain ⟨z, h1, rfl⟩ := h1
    obtain ⟨y, h2, rfl⟩ := h2
    rw [h1] at h2
    cases h2
    exact .int _
  refine ⟨[], [], [.rl (ns.map D.int)], ⟨rfl, List.nodup_nil, fun n o h => by simp at h⟩, .cons r .nil, rfl, ?_⟩
  rw [e]
  intro ρ' H' x R v rv
  exact rep_bl rv
end Fx
/-! Fx10: further rules. -/
namespace Fx
open PySem L2
/-! ### isinstance of built-in classes -/
def tyNames : List String := ["NoneType", "bool", "int", "str", "tuple", "list", "dict"]
def isTy (n T : String) : Bool := n == T || (n == "bool" && T == "int")
def resB (T : String) (t : Ty) : Option Bool := match t with
  | .b n => if tyNames.contains n = true then some (isTy n T) else none
  | .c _ => none
def tyOk (T : String) : Bool := tyNames.all fun n => kitB n T == some (isTy n T)
theorem isiOk_B {K : PySem.W.Frag} {G : Cc} {T : String} (h : tyOk T = true := by decide +kernel) : IsiOk K G (.type T) (resB T) := by
  intro t b hb
  cases t with
  | b n =>
    unfold resB at hb
    dsimp only at hb
    split at hb
    · rename_i hn
      refine ⟨?_, fun k e => by cases e⟩
      have := List.all_eq_true.mp h n (by simpa using hn)
      have e : kitB n T = some (isTy n T) := by simpa using this
      cases hb
      exact kit_ty e
    · cases hb
  | c k => cases hb
section
variable {X : Cx} {G : Cc} {W : WX} {a b c d e o : Expr} {ma mb mc md me mo : ME} {pos : Pos} {σ : L2.St} {vs : List Nat} {tg : Expr}
/-- y = [..] on one line, y a local -/
theorem fs_setLc (i : Nat) {y : Str} {py spos : Pos} {elt iter : Expr} {ifs : List Expr} {scope : Scope} {own : List (Str × Nat)} {it : MI} {g : MG} {mt : MT} (hi : PI X tg iter (tI G W it)) (ok : BlkOk X.N X.env.scope scope own) (hN : X.N.Nodup)
    (hg : ∀ (s : Shared) (H : Hp) (C : Addr) (cl : List (Str × Addr)) (fp : List Addr), PG (X.blk s H scope (compEnvC scope cl C X.env) fp) tg (tG G W0 (own.map (·.2)) g))
    (ht : ∀ (s : Shared) (H : Hp) (C : Addr) (cl : List (Str × Addr)) (fp : List Addr), PTs (X.blk s H scope (compEnvC scope cl C X.env) fp) ifs (tT G W0 mt))
    (he : ∀ (s : Shared) (H : Hp) (C : Addr) (cl : List (Str × Addr)) (fp : List Addr), PE (X.blk s H scope (compEnvC scope cl C X.env) fp) elt (tE G W0 me)) (hc : X.calm = true := by rfl) (hy : X.N[i]? = some y := by rfl) (hyl : X.env.scope.names.lookup y = some .local := by rfl)
    (hsw : swapsWith (.ListComp elt [⟨tg, iter, ifs, 0⟩] scope pos) (some (.Name y py)) spos.line X.env = pure true := by exact sw_true rfl rfl rfl (by decide +kernel)) (hs : ∀ x, foldedSetIterable iter X.env x = pure x := by intro _; rfl) :
    PS X (.Assign [.Name y py] (.ListComp elt [⟨tg, iter, ifs, 0⟩] scope pos) spos) (tS G W (mAsg (mLc (own.map (·.2)) it g mt me) (gN i))) := by
  refine PS.imp (ps_setLc hc hN hy hyl hsw hi ok hg ht he hs) fun Dn σ H ⟨ρ, S, env, R, E, P⟩ => ?_
  refine fe_lc.lcR (show tE G W (mLc (own.map (·.2)) it g mt me) σ H _ from ⟨ρ, S, env, R, E, ?_⟩)
  unfold mAsg at P
  cases hm : mLc (own.map (·.2)) it g mt me env S with
  | ok d S1 => rw [hm] at P; exact fun ρ1 H1 x1 R1 v rv => P ρ1 H1 _ x1 R1 ((E.ext x1).set rv)
  | exc c S1 => rw [hm] at P; exact fun ρ1 H1 x1 R1 => P ρ1 H1 σ x1 R1 (E.ext x1)
  | bad => rw [hm] at P; exact P
theorem fe_revA {k : Nat} {p1 p2 p3 : Pos} (he : PE X e (tE G W me)) (hK : X.K = G.K := by rfl) : PE X (.Subscript e (.Slice none none (some (.UnaryOp .USub (.Constant (.int 1) k p1) p2)) p3) pos) (tE G W (mUn vRev me)) := fe_revL he hK
end

/-! ### the law's end -/
/-- a list of at most 63 ints is handed in, True comes out -/
def spLaw (K : PySem.W.Frag) : Sp := fun vs H Q _ => ∃ (a : Addr) (ns : List Int), vs = [.ref a] ∧ SqL K H a (ns.map V.int) ∧ Only H ∧ ns.length ≤ 63 ∧ (∀ z ∈ ns, Builtin.Int.intBits z ≤ 1048576) ∧ ∀ H', Q (.bl true) H'
theorem law_imp {P : Program} {w : World} {mg : Str → Option Value} {base : Heap} {G : Cc} {k : Nat} {f : Addr} {fd : FuncData} {ps : List Str} {mf : List D → Sto → R D} (F : FnOk P w G.K mg base (L2.CX P w) k f fd ps (spF G 1 mf))
    (h : ∀ ns : List Int, ns.length ≤ 63 → (∀ z ∈ ns, Builtin.Int.intBits z ≤ 1048576) → ∃ S, mf [.rl (ns.map D.int)] [] = .ok (.bl true) S) : FnOk P w G.K mg base (L2.CX P w) k f fd ps (spLaw G.K) :=
  F.imp fun vs H Q E ⟨a, ns, e1, hS, hO, hl, hb, q⟩ => by
    subst e1
    obtain ⟨ρ, S, ds, R, rs, hn, Pp⟩ := law_sp (mf := mf) hO hS (h ns hl hb)
    refine ⟨ρ, S, ds, R, rs, hn, ?_⟩
    cases hm : mf ds S with
    | ok d S' =>
      rw [hm] at Pp
      exact fun ρ' H' x R' v rv => by
        have z := Pp ρ' H' x R' v rv
        rw [z]
        exact q H'
    | exc c S' =>
      rw [hm] at Pp
      exact fun ρ' H' x R' => (Pp ρ' H' x R').elim
    | bad => rw [hm] at Pp; exact Pp.elim
theorem walk_law {l : PySem.W.OpenLaw} {k : Nat} {q : Program} {loose : List Str} {XP : (Str → Option Value) → Heap → Prop} {YP : World → Heap → Prop} {d : DefRec} {K : Params → PySem.W.Frag} {x : Str} (hn : l.most = some 63) (hdf : d.params.defaults = []) (hr : Room k callerA)
    (hY : ∀ (w : World) (h : Heap), YP w h → (K w.params).In h)
    (F : ∀ (w : World) (mg : Str → Option Value) (fa : Addr) (h : Heap), (K w.params).In h → h.Ns mainGlobals mg → mg d.name = some (.ref fa) →
      ∃ fd : FuncData, (∀ (s : Shared) (u : Value), BindsTo s fd ⟨[u], []⟩ [(x, u)]) ∧ ∀ base : Heap, (K w.params).In base → base.Ns mainGlobals mg → FnOk l.prog w (K w.params) mg base (L2.CX l.prog w) k fa fd [x] (spLaw (K w.params))) :
    PySem.W.WalkO q loose XP YP l.row.toRowW d [] (fun f vs => PySem.call f vs) :=
  L2.walk_ofB (n := 63) (k := k) (x := x) (CX := fun w => L2.CX l.prog w) (sp := fun w => spLaw (K w.params)) hn (by decide) hdf hr hY F (fun _ _ a ns hl hb hO hS => ⟨a, ns, rfl, hS, hO, hl, hb, fun _ => rfl⟩) fun w H s e s' h => by
    obtain ⟨_, _, _, _, _, _, _, _, _, _, _, _, z⟩ := h
    exact z
/-- isinstance's facts for an own class, by a table -/
theorem isiOk_C {K : PySem.W.Frag} {G : Cc} {cv : Value} {res : Ty → Option Bool} (h1 : ∀ n, res (.b n) = none) (h2 : ∀ j b, res (.c j) = some b → PySem.W.kitOne K (.ref (G.ca j)) cv = some b ∧ InsOk K (G.ca j)) : IsiOk K G cv res := fun t b hb => by
  cases t with
  | b n => rw [h1] at hb; cases hb
  | c j => exact ⟨(h2 j b hb).1, fun k e => by cases e; exact (h2 j b hb).2⟩
/-- isinstance of an instance of C against D -/
theorem kit_own {K : PySem.W.Frag} {C D : Addr} {b : Bool} (h1 : PySem.W.isClsIn K D = true) (h2 : PySem.W.typeIn K (.ref D) = some (.type "type")) (h3 : PySem.W.subIn K (.ref C) (.ref D) = some b) (h4 : PySem.W.subIn K (.ref D) (.ref D) = some true) : PySem.W.kitOne K (.ref C) (.ref D) = some b := by
  unfold PySem.W.kitOne
  by_cases e : ((Value.ref C) == (Value.ref D)) = true
  · rw [if_pos e]
    have e' : Value.ref C = Value.ref D := beq_iff_eq.mp e
    rw [e', h4] at h3
    exact h3
  · rw [if_neg e]
    have z : ((PySem.W.clsIn K D).isSome && PySem.W.typeIn K (.ref D) == some (.type "type")) = true := by
      have h1' : (PySem.W.clsIn K D).isSome = true := h1
      rw [h1', h2]
      rfl
    show (if ((PySem.W.clsIn K D).isSome && PySem.W.typeIn K (.ref D) == some (.type "type")) = true then PySem.W.subIn K (.ref C) (.ref D) else none) = some b
    rw [if_pos z]
    exact h3
end Fx
/-! Fx11: what the makers come to, by simp. -/
namespace Fx
open PySem L2
section
variable (env : En) (S : Sto) (a b c d o : ME) (i j : Int) (x y : D)
@[simp] theorem ev_c : mC x env S = .ok x S := rfl
@[simp] theorem ev_bin (f : D → D → Sto → R D) : mBin f a b env S = (a env S).bind fun x S1 => (b env S1).bind fun y S2 => f x y S2 := rfl
@[simp] theorem ev_un (f : D → Sto → R D) : mUn f a env S = (a env S).bind fun x S1 => f x S1 := rfl
@[simp] theorem ev_test : mTest a env S = (a env S).bind isB := rfl
@[simp] theorem ev_isB (k : Bool) : isB (.bl k) S = .ok k S := rfl
@[simp] theorem ev_and (s t : MT) : mAnd s t env S = (s env S).bind fun c S1 => if c = true then t env S1 else .ok false S1 := rfl
@[simp] theorem ev_or (s t : MT) : mOr s t env S = (s env S).bind fun c S1 => if c = true then .ok true S1 else t env S1 := rfl
@[simp] theorem ev_not (s : MT) : mNot s env S = (s env S).bind fun c S1 => .ok (!c) S1 := rfl
@[simp] theorem ev_andV : mAndV a b env S = (a env S).bind fun x S1 => (isB x S1).bind fun c S2 => if c = true then b env S2 else .ok (.bl false) S2 := rfl
@[simp] theorem ev_orV : mOrV a b env S = (a env S).bind fun x S1 => (isB x S1).bind fun c S2 => if c = true then .ok (.bl true) S2 else b env S2 := rfl
@[simp] theorem ev_notV : mNotV a env S = (a env S).bind fun x S1 => (isB x S1).bind fun c S2 => .ok (.bl (!c)) S2 := rfl
@[simp] theorem ev_ifE (t : MT) : mIfE t a b env S = (t env S).bind fun c S1 => if c = true then a env S1 else b env S1 := rfl
@[simp] theorem ev_ch2 (f g : D → D → Sto → R D) : mCh2 f g a b c env S = (a env S).bind fun x S1 => (b env S1).bind fun y S2 => (f x y S2).bind fun z S3 => (isB z S3).bind fun k S4 => if k = true then (c env S4).bind fun w S5 => g y w S5 else .ok (.bl false) S4 := rfl
@[simp] theorem ev_ch3T (f g h : D → D → Sto → R D) : mCh3T f g h a b c d env S = (a env S).bind fun x S1 => (b env S1).bind fun y S2 => (f x y S2).bind fun z S3 => (isB z S3).bind fun k S4 =>
  if k = true then (c env S4).bind fun w S5 => (g y w S5).bind fun z2 S6 => (isB z2 S6).bind fun k2 S7 => if k2 = true then (d env S7).bind fun w2 S8 => (h w w2 S8).bind isB else .ok false S7 else .ok false S4 := rfl
@[simp] theorem ev_nil : mNil env S = .ok [] S := rfl
@[simp] theorem ev_cons (r : MA) : mCons a r env S = (a env S).bind fun x S1 => (r env S1).bind fun xs S2 => .ok (x :: xs) S2 := rfl
@[simp] theorem ev_call (f : List D → Sto → R D) (r : MA) : mCall f r env S = (r env S).bind f := rfl
@[simp] theorem ev_tup (r : MA) : mTup r env S = (r env S).bind fun xs S1 => if xs.length ≤ 1000 then .ok (.tup xs) S1 else .bad := rfl
@[simp] theorem ev_lst (r : MA) : mLst r env S = (r env S).bind newL := rfl
@[simp] theorem ev_isi (res : Ty → Option Bool) : mIsi res a env S = (a env S).bind fun d S1 => match tyD d S1 with
  | some t => (match res t with | some b => .ok (.bl b) S1 | none => .bad)
  | none => .bad := rfl
@[simp] theorem ev_mtL (f : D → List D → Sto → R D) (r : MA) : mMtL f o r env S = (o env S).bind fun x S1 => if isL x S1 = true then (r env S1).bind fun ds S2 => f x ds S2 else .bad := rfl
@[simp] theorem ev_oN : oN env S = .ok none S := rfl
@[simp] theorem ev_oS : oS a env S = (a env S).bind fun d S1 => match d with | .int i => .ok (some i) S1 | _ => .bad := rfl
@[simp] theorem ev_sl (lo hi : MO) : mSl a lo hi env S = (a env S).bind fun x S1 => (lo env S1).bind fun l S2 => (hi env S2).bind fun u S3 => vSl x l u S3 := rfl
@[simp] theorem ev_yes : mYes env S = .ok true S := rfl
/-! values -/
@[simp] theorem v_add : vAdd (.int i) (.int j) S = .ok (.int (i + j)) S := rfl
@[simp] theorem v_sub : vSub (.int i) (.int j) S = .ok (.int (i - j)) S := rfl
@[simp] theorem v_mul : vMul (.int i) (.int j) S = if mulOk i j = true then .ok (.int (i * j)) S else .bad := rfl
@[simp] theorem v_div : vDiv (.int i) (.int j) S = if 0 < j ∧ j < 1073741824 then .ok (.int (i / j)) S else .bad := rfl
@[simp] theorem v_mod : vMod (.int i) (.int j) S = if 0 < j then .ok (.int (i % j)) S else .bad := rfl
@[simp] theorem v_neg : vNeg (.int i) S = .ok (.int (-i)) S := rfl
@[simp] theorem v_lt : vLt (.int i) (.int j) S = .ok (.bl (decide (i < j))) S := rfl
@[simp] theorem v_le : vLe (.int i) (.int j) S = .ok (.bl (decide (i ≤ j))) S := rfl
@[simp] theorem v_gt : vGt (.int i) (.int j) S = .ok (.bl (decide (j < i))) S := rfl
@[simp] theorem v_ge : vGe (.int i) (.int j) S = .ok (.bl (decide (j ≤ i))) S := rfl
@[simp] theorem v_eqI : vEq (.int i) (.int j) S = .ok (.bl (i == j)) S := by simp [vEq, toP, PyData.eqv]
@[simp] theorem v_neI : vNe (.int i) (.int j) S = .ok (.bl (!(i == j))) S := by simp [vNe, toP, PyData.eqv]
@[simp] theorem v_eqB (p q : Bool) : vEq (.bl p) (.bl q) S = .ok (.bl (p == q)) S := by simp [vEq, toP, PyData.eqv]
@[simp] theorem v_neB (p q : Bool) : vNe (.bl p) (.bl q) S = .ok (.bl (!(p == q))) S := by simp [vNe, toP, PyData.eqv]
@[simp] theorem v_isN : vIs x .non S = .ok (.bl (isNon x)) S := by unfold vIs; cases x <;> rfl
@[simp] theorem v_isNotN : vIsNot x .non S = .ok (.bl (!isNon x)) S := by unfold vIsNot; cases x <;> rfl
@[simp] theorem v_isB (p q : Bool) : vIs (.bl p) (.bl q) S = .ok (.bl (decide (p = q))) S := rfl
@[simp] theorem v_isNotB (p q : Bool) : vIsNot (.bl p) (.bl q) S = .ok (.bl (!decide (p = q))) S := rfl
@[simp] theorem isNon_non : isNon .non = true := rfl
@[simp] theorem isNon_int : isNon (.int i) = false := rfl
@[simp] theorem isNon_tup (xs : List D) : isNon (.tup xs) = false := rfl
@[simp] theorem isNon_ref (n : Nat) : isNon (.ref n) = false := rfl
@[simp] theorem isNon_bl (k : Bool) : isNon (.bl k) = false := rfl
@[simp] theorem v_ixT (xs : List D) : vIx (.tup xs) (.int i) S = match atI xs i with | some d => .ok d S | none => .bad := rfl
@[simp] theorem v_ixL (n : Nat) : vIx (.ref n) (.int i) S = match getL S n with | some xs => (match atI xs i with | some d => .ok d S | none => .bad) | none => .bad := rfl
@[simp] theorem atI_0 {α : Type} (p : α) (r : List α) : atI (p :: r) 0 = some p := atI_nat (j := 0) rfl
@[simp] theorem atI_1 {α : Type} (p q : α) (r : List α) : atI (p :: q :: r) 1 = some q := atI_nat (j := 1) rfl
@[simp] theorem atI_2 {α : Type} (p q s : α) (r : List α) : atI (p :: q :: s :: r) 2 = some s := atI_nat (j := 2) rfl
@[simp] theorem atI_3 {α : Type} (p q s t : α) (r : List α) : atI (p :: q :: s :: t :: r) 3 = some t := atI_nat (j := 3) rfl
@[simp] theorem b_abs : bAbs [.int i] S = .ok (.int (if i < 0 then -i else i)) S := rfl
@[simp] theorem b_max2 : bMax2 [.int i, .int j] S = .ok (.int (if j > i then j else i)) S := rfl
@[simp] theorem b_min2 : bMin2 [.int i, .int j] S = .ok (.int (if j < i then j else i)) S := rfl
@[simp] theorem b_lenT (xs : List D) : bLen [.tup xs] S = .ok (.int xs.length) S := rfl
@[simp] theorem b_lenR (xs : List D) : bLen [.rl xs] S = .ok (.int xs.length) S := rfl
theorem b_lenL {n : Nat} {xs : List D} (h : getL S n = some xs) : bLen [.ref n] S = .ok (.int xs.length) S := by
  unfold getL at h
  split at h
  · rename_i ys hs
    cases h
    simp [bLen, hs]
  · cases h
@[simp] theorem ty_non : tyD .non S = some (.b "NoneType") := rfl
@[simp] theorem ty_bl (k : Bool) : tyD (.bl k) S = some (.b "bool") := rfl
@[simp] theorem ty_int : tyD (.int i) S = some (.b "int") := rfl
@[simp] theorem ty_str (z : Str) : tyD (.str z) S = some (.b "str") := rfl
@[simp] theorem ty_tup (xs : List D) : tyD (.tup xs) S = some (.b "tuple") := rfl
@[simp] theorem ty_rl (xs : List D) : tyD (.rl xs) S = some (.b "list") := rfl
theorem ty_lst {n : Nat} {xs : List D} (h : getL S n = some xs) : tyD (.ref n) S = some (.b "list") := by
  unfold getL at h
  split at h
  · rename_i ys hs
    simp [tyD, hs]
  · cases h

@[simp] theorem rs_int_NoneType : resB "int" (.b "NoneType") = some false := by decide +kernel
@[simp] theorem rs_int_bool : resB "int" (.b "bool") = some true := by decide +kernel
@[simp] theorem rs_int_int : resB "int" (.b "int") = some true := by decide +kernel
@[simp] theorem rs_int_str : resB "int" (.b "str") = some false := by decide +kernel
@[simp] theorem rs_int_tuple : resB "int" (.b "tuple") = some false := by decide +kernel
@[simp] theorem rs_int_list : resB "int" (.b "list") = some false := by decide +kernel
@[simp] theorem rs_int_dict : resB "int" (.b "dict") = some false := by decide +kernel
@[simp] theorem rs_bool_NoneType : resB "bool" (.b "NoneType") = some false := by decide +kernel
@[simp] theorem rs_bool_bool : resB "bool" (.b "bool") = some true := by decide +kernel
@[simp] theorem rs_bool_int : resB "bool" (.b "int") = some false := by decide +kernel
@[simp] theorem rs_bool_str : resB "bool" (.b "str") = some false := by decide +kernel
@[simp] theorem rs_bool_tuple : resB "bool" (.b "tuple") = some false := by decide +kernel
@[simp] theorem rs_bool_list : resB "bool" (.b "list") = some false := by decide +kernel
@[simp] theorem rs_bool_dict : resB "bool" (.b "dict") = some false := by decide +kernel
@[simp] theorem rs_tuple_NoneType : resB "tuple" (.b "NoneType") = some false := by decide +kernel
@[simp] theorem rs_tuple_bool : resB "tuple" (.b "bool") = some false := by decide +kernel
@[simp] theorem rs_tuple_int : resB "tuple" (.b "int") = some false := by decide +kernel
@[simp] theorem rs_tuple_str : resB "tuple" (.b "str") = some false := by decide +kernel
@[simp] theorem rs_tuple_tuple : resB "tuple" (.b "tuple") = some true := by decide +kernel
@[simp] theorem rs_tuple_list : resB "tuple" (.b "list") = some false := by decide +kernel
@[simp] theorem rs_tuple_dict : resB "tuple" (.b "dict") = some false := by decide +kernel
@[simp] theorem rs_list_NoneType : resB "list" (.b "NoneType") = some false := by decide +kernel
@[simp] theorem rs_list_bool : resB "list" (.b "bool") = some false := by decide +kernel
@[simp] theorem rs_list_int : resB "list" (.b "int") = some false := by decide +kernel
@[simp] theorem rs_list_str : resB "list" (.b "str") = some false := by decide +kernel
@[simp] theorem rs_list_tuple : resB "list" (.b "tuple") = some false := by decide +kernel
@[simp] theorem rs_list_list : resB "list" (.b "list") = some true := by decide +kernel
@[simp] theorem rs_list_dict : resB "list" (.b "dict") = some false := by decide +kernel
@[simp] theorem rs_str_NoneType : resB "str" (.b "NoneType") = some false := by decide +kernel
@[simp] theorem rs_str_bool : resB "str" (.b "bool") = some false := by decide +kernel
@[simp] theorem rs_str_int : resB "str" (.b "int") = some false := by decide +kernel
@[simp] theorem rs_str_str : resB "str" (.b "str") = some true := by decide +kernel
@[simp] theorem rs_str_tuple : resB "str" (.b "tuple") = some false := by decide +kernel
@[simp] theorem rs_str_list : resB "str" (.b "list") = some false := by decide +kernel
@[simp] theorem rs_str_dict : resB "str" (.b "dict") = some false := by decide +kernel
/-! statements -/
@[simp] theorem es_skip : mSkip env S = .nx env S := rfl
@[simp] theorem es_seq (s t : MS) : mSeq s t env S = match s env S with | .nx e S1 => t e S1 | r => r := rfl
@[simp] theorem es_exp : mExp a env S = match a env S with | .ok _ S1 => .nx env S1 | .exc c S1 => .exc c env S1 | .bad => .bad := rfl
@[simp] theorem es_ret : mRet a env S = match a env S with | .ok d S1 => .rt d S1 | .exc c S1 => .exc c env S1 | .bad => .bad := rfl
@[simp] theorem es_asg (g : MG) : mAsg a g env S = toS env ((a env S).bind fun d S1 => g d env S1) := rfl
@[simp] theorem es_if (t : MT) (s u : MS) : mIf t s u env S = match t env S with | .ok c S1 => if c = true then s env S1 else u env S1 | .exc c S1 => .exc c env S1 | .bad => .bad := rfl
@[simp] theorem es_par2 (k l : Nat) (r : MA) : mPar2 k l r env S = match r env S with | .ok ds S1 => (match ds with | [d, e] => .nx ((env.set k (some d)).set l (some e)) S1 | _ => .bad) | .exc c S1 => .exc c env S1 | .bad => .bad := rfl
@[simp] theorem es_par3 (k l m : Nat) (r : MA) : mPar3 k l m r env S = match r env S with | .ok ds S1 => (match ds with | [d, e, f] => .nx (((env.set k (some d)).set l (some e)).set m (some f)) S1 | _ => .bad) | .exc c S1 => .exc c env S1 | .bad => .bad := rfl
@[simp] theorem es_raise (k : Nat) : mRaise k env S = .exc k env S := rfl
@[simp] theorem es_never : mNever env S = .bad := rfl
@[simp] theorem toS_ok (e : En) : toS env (.ok e S) = .nx e S := rfl
@[simp] theorem toS_bad : toS env .bad = .bad := rfl
@[simp] theorem eg_n (k : Nat) : gN k x env S = .ok (env.set k (some x)) S := rfl
@[simp] theorem eg_tp (n : Nat) (r : MGs) (xs : List D) : gTp n r (.tup xs) env S = if xs.length = n then r xs env S else .bad := rfl
@[simp] theorem eg_cn (g : MG) (r : MGs) (xs : List D) : gCn g r (x :: xs) env S = (g x env S).bind fun env1 S1 => r xs env1 S1 := rfl
@[simp] theorem eg_nl : gNl [] env S = .ok env S := rfl
end
@[simp] theorem ev_var0 (d : D) (e : En) (S : Sto) : mVar 0 (some d :: e) S = .ok d S := rfl
@[simp] theorem ev_varS (n : Nat) (d : Option D) (e : En) (S : Sto) : mVar (n + 1) (d :: e) S = mVar n e S := by simp [mVar]
/-- a number of at most 64 bits -/
theorem bits_le {i : Int} (h1 : -(2 ^ 63) ≤ i) (h2 : i < 2 ^ 63) : bits i ≤ 64 := PySem.intBits_le_64 (by omega) (by omega)
theorem mul_left {i j : Int} (h1 : -(2 ^ 63) ≤ i) (h2 : i < 2 ^ 63) : mulOk i j = true := by
  unfold mulOk
  simp [bits_le h1 h2]
theorem mul_right {i j : Int} (h1 : -(2 ^ 63) ≤ j) (h2 : j < 2 ^ 63) : mulOk i j = true := by
  unfold mulOk
  simp [bits_le h1 h2]
/-- the slots at the start -/
theorem fnOf_eq {n N : Nat} {m : MS} {ds : List D} {S : Sto} : fnOf n N m ds S = match m (ds.map some ++ List.replicate (N - n) none) S with
  | .rt d S' => .ok d S'
  | .nx _ S' => .ok .non S'
  | .exc c _ S' => .exc c S'
  | _ => .bad := rfl
@[simp] theorem ite_orV {p : Prop} [Decidable p] (q : Bool) (S : Sto) : (if p then (R.ok (D.bl true) S : R D) else R.ok (D.bl q) S) = R.ok (D.bl (decide p || q)) S := by by_cases h : p <;> simp [h]
@[simp] theorem ite_andV {p : Prop} [Decidable p] (q : Bool) (S : Sto) : (if p then (R.ok (D.bl q) S : R D) else R.ok (D.bl false) S) = R.ok (D.bl (decide p && q)) S := by by_cases h : p <;> simp [h]
@[simp] theorem ite_orT {p : Prop} [Decidable p] (q : Bool) (S : Sto) : (if p then (R.ok true S : R Bool) else R.ok q S) = R.ok (decide p || q) S := by by_cases h : p <;> simp [h]
@[simp] theorem ite_andT {p : Prop} [Decidable p] (q : Bool) (S : Sto) : (if p then (R.ok q S : R Bool) else R.ok false S) = R.ok (decide p && q) S := by by_cases h : p <;> simp [h]
end Fx
/-! Fx12: loops and comprehensions by plain means. -/
namespace Fx
open PySem L2
theorem lim_lt {n : Nat} (h : n < 100000) : n < LIM := h
theorem lim_le {n : Nat} (h : n ≤ 100000) : n ≤ LIM := h
/-! ### the store grows -/
theorem get_app {S T : Sto} {n : Nat} {o : O} (h : S[n]? = some o) : (S ++ T)[n]? = some o := by
  rw [List.getElem?_append_left (List.getElem?_eq_some_iff.mp h).1]
  exact h
theorem getL_some {S : Sto} {n : Nat} {xs : List D} : getL S n = some xs ↔ S[n]? = some (.lst xs) := by
  unfold getL
  constructor
  · intro h
    split at h
    · rename_i ys hs; cases h; exact hs
    · cases h
  · intro h
    rw [h]
theorem getM_some {S : Sto} {n : Nat} {xs : List D} : getM S n = some xs ↔ S[n]? = some (.lst xs) := by
  unfold getM
  constructor
  · intro h
    split at h
    · rename_i ys hs; cases h; exact hs
    · cases h
  · intro h
    rw [h]
theorem getL_app {S T : Sto} {n : Nat} {xs : List D} (h : getL S n = some xs) : getL (S ++ T) n = some xs := getL_some.mpr (get_app (getL_some.mp h))
theorem getL_lt {S : Sto} {n : Nat} {xs : List D} (h : getL S n = some xs) : n < S.length := (List.getElem?_eq_some_iff.mp (getL_some.mp h)).1
theorem getL_new (S T : Sto) (xs : List D) : getL (S ++ .lst xs :: T) S.length = some xs := getL_some.mpr (by simp)
theorem isL_of {S : Sto} {n : Nat} {xs : List D} (h : getL S n = some xs) : isL (.ref n) S = true := by simp [isL, h]
theorem newL_ok {xs : List D} {S : Sto} (h : xs.length ≤ LIM) : newL xs S = .ok (.ref S.length) (S ++ [.lst xs]) := if_pos h
theorem set_new (S T : Sto) (o o' : O) : (S ++ o :: T).set S.length o' = S ++ o' :: T := by simp
/-! ### what is walked, as a list -/
def enumD (xs : List D) : List D := xs.zipIdx.map fun p => .tup [.int (p.2 : Nat), p.1]
def zipD (xs ys : List D) : List D := (xs.zip ys).map fun p => .tup [p.1, p.2]
def rngD (lo c : Int) (n : Nat) : List D := (List.range n).map fun i => .int (lo + (i : Nat) * c)
theorem src_list {S : Sto} {n : Nat} {xs : List D} (h : getL S n = some xs) (i : Nat) : srcL n S i = some xs[i]? := by simp [srcL, h]
theorem src_tup (xs : List D) (S : Sto) (i : Nat) : srcT xs S i = some xs[i]? := rfl
theorem src_enum {S : Sto} {n : Nat} {xs : List D} (h : getL S n = some xs) (i : Nat) : srcE n S i = some (enumD xs)[i]? := by
  simp [srcE, h, enumD, Option.map_map, Function.comp_def]
theorem src_zip {S : Sto} {n m : Nat} {xs ys : List D} (h : getL S n = some xs) (h2 : getL S m = some ys) (i : Nat) : srcZ n m S i = some (zipD xs ys)[i]? := by
  simp only [srcZ, h, h2, zipD, List.getElem?_map]
  split
  · rename_i x y h3 h4
    have : (xs.zip ys)[i]? = some (x, y) := List.getElem?_zip_eq_some.mpr ⟨h3, h4⟩
    simp [this]
  · rename_i h3
    have : (xs.zip ys)[i]? = none := by
      cases hz : (xs.zip ys)[i]? with
      | none => rfl
      | some p =>
        obtain ⟨h4, h5⟩ := List.getElem?_zip_eq_some.mp hz
        exact absurd h5 (h3 _ _ h4)
    simp [this]
theorem src_rng (lo c : Int) (n : Nat) (S : Sto) (i : Nat) : srcR lo c n S i = some (rngD lo c n)[i]? := by
  simp only [srcR, rngD, List.getElem?_map]
  by_cases h : i < n
  · simp [h, List.getElem?_range]
  · simp [h]
@[simp] theorem enumD_len (xs : List D) : (enumD xs).length = xs.length := by simp [enumD]
@[simp] theorem zipD_len (xs ys : List D) : (zipD xs ys).length = min xs.length ys.length := by simp [zipD]
@[simp] theorem rngD_len (lo c : Int) (n : Nat) : (rngD lo c n).length = n := by simp [rngD]
theorem enumD_get {xs : List D} {i : Nat} {x : D} (h : (enumD xs)[i]? = some x) : ∃ y, xs[i]? = some y ∧ x = .tup [.int (i : Nat), y] := by
  simp only [enumD, List.getElem?_map, List.getElem?_zipIdx, Option.map_map, Option.map_eq_some_iff] at h
  obtain ⟨y, h1, h2⟩ := h
  exact ⟨y, h1, by simpa using h2.symm⟩
theorem rngD_get {lo c : Int} {n i : Nat} {x : D} (h : (rngD lo c n)[i]? = some x) : i < n ∧ x = .int (lo + (i : Nat) * c) := by
  have hi : i < n := by
    have := (List.getElem?_eq_some_iff.mp h).1
    simpa using this
  simp [rngD, hi] at h
  exact ⟨hi, h.symm⟩
theorem zipD_get {xs ys : List D} {i : Nat} {x : D} (h : (zipD xs ys)[i]? = some x) : ∃ y z, xs[i]? = some y ∧ ys[i]? = some z ∧ x = .tup [y, z] := by
  simp only [zipD, List.getElem?_map, Option.map_eq_some_iff] at h
  obtain ⟨p, h1, h2⟩ := h
  obtain ⟨h3, h4⟩ := List.getElem?_zip_eq_some.mp h1
  exact ⟨p.1, p.2, h3, h4, h2.symm⟩
/-! ### the iterables -/
theorem i_seq {m : ME} {env : En} {S S1 : Sto} {n : Nat} {xs : List D} (h : m env S = .ok (.ref n) S1) (hl : getL S1 n = some xs) : iSeq m env S = .ok (xs.length + 1, srcL n) S1 := by simp [iSeq, h, hl]
theorem i_tup {m : ME} {env : En} {S S1 : Sto} {xs : List D} (h : m env S = .ok (.tup xs) S1) : iSeq m env S = .ok (xs.length + 1, srcT xs) S1 := by simp [iSeq, h]
theorem i_enum {m : MA} {env : En} {S S1 : Sto} {n : Nat} {xs : List D} (h : m env S = .ok [.ref n] S1) (hl : getL S1 n = some xs) : iEn m env S = .ok (xs.length + 1, srcE n) S1 := by simp [iEn, h, hl]
theorem i_zip {m : MA} {env : En} {S S1 : Sto} {n k : Nat} {xs ys : List D} (h : m env S = .ok [.ref n, .ref k] S1) (hl : getL S1 n = some xs) (h2 : getL S1 k = some ys) : iZp m env S = .ok (xs.length + 1, srcZ n k) S1 := by simp [iZp, h, hl, h2]
theorem small_of {i : Int} (h1 : -1000000000 ≤ i) (h2 : i ≤ 1000000000) : small i = true := decide_eq_true ⟨by omega, by omega⟩
theorem i_rng1 {m : MA} {env : En} {S S1 : Sto} {j : Int} (h : m env S = .ok [.int j] S1) (h1 : -1000000000 ≤ j) (h2 : j ≤ 1000000000) : iRg1 m env S = .ok (j.toNat + 1, srcR 0 1 j.toNat) S1 := by simp [iRg1, h, small_of h1 h2]
theorem i_rng2 {m : MA} {env : En} {S S1 : Sto} {i j : Int} (h : m env S = .ok [.int i, .int j] S1) (h1 : -1000000000 ≤ i) (h2 : i ≤ 1000000000) (h3 : -1000000000 ≤ j) (h4 : j ≤ 1000000000) : iRg2 m env S = .ok ((j - i).toNat + 1, srcR i 1 (j - i).toNat) S1 := by simp [iRg2, h, small_of h1 h2, small_of h3 h4]
/-! ### comprehensions -/
/-- one item: skipped, or a thing -/
def lcStep (g : MG) (t : MT) (e : ME) (env0 : En) (x : D) (S : Sto) : R (Option D) := match g x env0 S with
  | .ok env1 S1 => (match t env1 S1 with
    | .ok c S2 => if c = true then (match e env1 S2 with | .ok y S3 => .ok (some y) S3 | _ => .bad) else .ok none S2
    | _ => .bad)
  | _ => .bad
theorem lcM_step (n : Nat) (src : Src) (g : MG) (t : MT) (e : ME) (env0 : En) (f i : Nat) (S : Sto) : lcM n src g t e env0 (f + 1) i S = match src S i with
    | some none => .ok () S
    | some (some x) => (match lcStep g t e env0 x S with
      | .ok (some y) S3 => (match S3[n]? with
        | some (.lst acc) => if acc.length < LIM then lcM n src g t e env0 f (i + 1) (S3.set n (.lst (acc ++ [y]))) else .bad
        | _ => .bad)
      | .ok none S2 => lcM n src g t e env0 f (i + 1) S2
      | _ => .bad)
    | none => .bad := by
  rw [lcM]
  cases hs : src S i with
  | none => rfl
  | some od =>
    cases od with
    | none => rfl
    | some x =>
      simp only [lcStep]
      cases g x env0 S with
      | ok env1 S1 =>
        simp only
        cases t env1 S1 with
        | ok c S2 =>
          simp only
          cases c with
          | true =>
            simp only [if_true]
            cases e env1 S2 <;> rfl
          | false => rfl
        | exc c S2 => rfl
        | bad => rfl
      | exc c S1 => rfl
      | bad => rfl
theorem take_snoc {α : Type} {l : List α} {i : Nat} {x : α} (h : l[i]? = some x) : l.take (i + 1) = l.take i ++ [x] := by
  rw [List.take_add_one, h]
  rfl
/-- the elements leave the store as it is -/
theorem lc_pure {vs : List Nat} {it : MI} {g : MG} {t : MT} {e : ME} {env : En} {S S1 : Sto} {src : Src} {fuel : Nat} (xs : List D) (f : D → Option D) (hi : it env S = .ok (fuel, src) S1) (hf : xs.length < fuel) (hl : xs.length < LIM)
    (hs : ∀ (acc : List D) (i : Nat), src (S1 ++ [.lst acc]) i = some xs[i]?)
    (hx : ∀ (i : Nat) (x : D), xs[i]? = some x → ∀ acc, lcStep g t e (wipeE env vs) x (S1 ++ [.lst acc]) = .ok (f x) (S1 ++ [.lst acc])) :
    mLc vs it g t e env S = .ok (.ref S1.length) (S1 ++ [.lst (xs.filterMap f)]) := by
  have key : ∀ (k i fu : Nat), xs.length - i = k → i ≤ xs.length → k < fu → lcM S1.length src g t e (wipeE env vs) fu i (S1 ++ [.lst ((xs.take i).filterMap f)]) = .ok () (S1 ++ [.lst (xs.filterMap f)]) := by
    intro k
    induction k with
    | zero =>
      intro i fu h1 h2 h3
      cases fu with
      | zero => omega
      | succ fu =>
        have : i = xs.length := by omega
        subst this
        rw [lcM_step, hs]
        simp
    | succ k ih =>
      intro i fu h1 h2 h3
      cases fu with
      | zero => omega
      | succ fu =>
        have hi : i < xs.length := by omega
        have hx' : xs[i]? = some xs[i] := by simp [hi]
        rw [lcM_step, hs, hx']
        simp only [hx i _ hx']
        have ht := take_snoc hx'
        cases hfx : f xs[i] with
        | none =>
          have q := ih (i + 1) fu (by omega) (by omega) (by omega)
          have z : (xs.take (i + 1)).filterMap f = (xs.take i).filterMap f := by
            rw [ht, List.filterMap_append, List.filterMap_cons_none hfx, List.filterMap_nil, List.append_nil]
          rw [z] at q
          exact q
        | some y =>
          have hz : ((xs.take i).filterMap f).length < LIM := by
            have h1 := List.length_filterMap_le f (xs.take i)
            have h2 : (xs.take i).length ≤ xs.length := by rw [List.length_take]; exact Nat.min_le_right _ _
            omega
          simp only [List.getElem?_append_right (Nat.le_refl _), Nat.sub_self, List.getElem?_cons_zero, hz, if_true]
          have q := ih (i + 1) fu (by omega) (by omega) (by omega)
          have z : (xs.take (i + 1)).filterMap f = (xs.take i).filterMap f ++ [y] := by
            rw [ht, List.filterMap_append, List.filterMap_cons_some hfx, List.filterMap_nil]
          rw [z] at q
          rw [set_new]
          exact q
  have := key xs.length 0 fuel (by simp) (Nat.zero_le _) hf
  simp only [List.take_zero, List.filterMap_nil] at this
  simp [mLc, hi, this]
/-- .. none is skipped -/
theorem lc_map {vs : List Nat} {it : MI} {g : MG} {t : MT} {e : ME} {env : En} {S S1 : Sto} {src : Src} {fuel : Nat} (xs : List D) (f : D → D) (hi : it env S = .ok (fuel, src) S1) (hf : xs.length < fuel) (hl : xs.length < LIM)
    (hs : ∀ (acc : List D) (i : Nat), src (S1 ++ [.lst acc]) i = some xs[i]?)
    (hx : ∀ (i : Nat) (x : D), xs[i]? = some x → ∀ acc, lcStep g t e (wipeE env vs) x (S1 ++ [.lst acc]) = .ok (some (f x)) (S1 ++ [.lst acc])) :
    mLc vs it g t e env S = .ok (.ref S1.length) (S1 ++ [.lst (xs.map f)]) := by
  have := lc_pure (vs := vs) (it := it) (g := g) (t := t) (e := e) (env := env) (S := S) xs (fun x => some (f x)) hi hf hl hs hx
  rw [this]
  simp
/-! ### for -/
def turn (g : MG) (b : MS) (x : D) (e : En) (S : Sto) : RS := match g x e S with
  | .ok e1 S1 => (match b e1 S1 with
    | .ct e2 S2 => .nx e2 S2
    | r => r)
  | _ => .bad
theorem forM_step (src : Src) (g : MG) (b : MS) (f i : Nat) (env : En) (S : Sto) : forM src g b (f + 1) i env S = match src S i with
    | some none => .nx env S
    | some (some x) => (match turn g b x env S with
      | .nx e S2 => forM src g b f (i + 1) e S2
      | .bk e S2 => .nx e S2
      | r => r)
    | none => .bad := by
  rw [forM]
  cases hs : src S i with
  | none => rfl
  | some od =>
    cases od with
    | none => rfl
    | some x =>
      simp only [turn]
      cases g x env S with
      | ok env1 S1 =>
        simp only
        cases b env1 S1 <;> rfl
      | exc c S1 => rfl
      | bad => rfl
/-- a loop that may be left by a return -/
theorem for_ret {src : Src} {g : MG} {b : MS} (xs : List D) (I : Nat → En → Sto → Prop) (J : D → Sto → Prop) (hs : ∀ i e S, I i e S → src S i = some xs[i]?)
    (ht : ∀ (i : Nat) x e S, xs[i]? = some x → I i e S → (∃ e' S', turn g b x e S = .nx e' S' ∧ I (i + 1) e' S') ∨ ∃ d S', turn g b x e S = .rt d S' ∧ J d S') {fuel : Nat} (hf : xs.length < fuel) {e : En} {S : Sto} (h0 : I 0 e S) :
    (∃ e' S', forM src g b fuel 0 e S = .nx e' S' ∧ I xs.length e' S') ∨ ∃ d S', forM src g b fuel 0 e S = .rt d S' ∧ J d S' := by
  have key : ∀ (k i fu : Nat) (e : En) (S : Sto), xs.length - i = k → i ≤ xs.length → k < fu → I i e S → (∃ e' S', forM src g b fu i e S = .nx e' S' ∧ I xs.length e' S') ∨ ∃ d S', forM src g b fu i e S = .rt d S' ∧ J d S' := by
    intro k
    induction k with
    | zero =>
      intro i fu e S h1 h2 h3 h4
      cases fu with
      | zero => omega
      | succ fu =>
        have : i = xs.length := by omega
        subst this
        left
        refine ⟨e, S, ?_, h4⟩
        rw [forM_step, hs _ _ _ h4]
        simp
    | succ k ih =>
      intro i fu e S h1 h2 h3 h4
      cases fu with
      | zero => omega
      | succ fu =>
        have hi : i < xs.length := by omega
        have hx' : xs[i]? = some xs[i] := by simp [hi]
        rw [forM_step, hs _ _ _ h4, hx']
        rcases ht i _ e S hx' h4 with ⟨e', S', q1, q2⟩ | ⟨d, S', q1, q2⟩
        · simp only [q1]
          exact ih (i + 1) fu e' S' (by omega) (by omega) (by omega) q2
        · simp only [q1]
          exact .inr ⟨d, S', rfl, q2⟩
  exact key xs.length 0 fuel e S (by simp) (Nat.zero_le _) hf h0
/-- a loop that runs through -/
theorem for_inv {src : Src} {g : MG} {b : MS} (xs : List D) (I : Nat → En → Sto → Prop) (hs : ∀ i e S, I i e S → src S i = some xs[i]?)
    (ht : ∀ (i : Nat) x e S, xs[i]? = some x → I i e S → ∃ e' S', turn g b x e S = .nx e' S' ∧ I (i + 1) e' S') {fuel : Nat} (hf : xs.length < fuel) {e : En} {S : Sto} (h0 : I 0 e S) :
    ∃ e' S', forM src g b fuel 0 e S = .nx e' S' ∧ I xs.length e' S' := by
  rcases for_ret xs I (fun _ _ => False) hs (fun i x e S h1 h2 => .inl (ht i x e S h1 h2)) hf h0 with h | ⟨_, _, _, h⟩
  · exact h
  · exact h.elim
theorem m_for {it : MI} {g : MG} {b : MS} {env : En} {S S1 : Sto} {f : Nat} {src : Src} (h : it env S = .ok (f, src) S1) : mFor it g b env S = forM src g b f 0 env S1 := by simp [mFor, h]
/-! ### lists of truths, of numbers -/
theorem blsOf_map (bs : List Bool) : blsOf (bs.map D.bl) = some bs := by
  induction bs with
  | nil => rfl
  | cons b bs ih =>
    unfold blsOf at ih ⊢
    simp [allO, ih]
theorem intsOf_map (is : List Int) : intsOf (is.map D.int) = some is := by
  induction is with
  | nil => rfl
  | cons b bs ih =>
    unfold intsOf at ih ⊢
    simp [allO, ih]
theorem b_all {S : Sto} {n : Nat} {bs : List Bool} (h : getL S n = some (bs.map D.bl)) : bAll [.ref n] S = .ok (.bl (bs.all id)) S := by simp [bAll, onBls, h, blsOf_map]
theorem b_any {S : Sto} {n : Nat} {bs : List Bool} (h : getL S n = some (bs.map D.bl)) : bAny [.ref n] S = .ok (.bl (bs.any id)) S := by simp [bAny, onBls, h, blsOf_map]
theorem b_sum {S : Sto} {n : Nat} {is : List Int} (h : getL S n = some (is.map D.int)) : bSum [.ref n] S = .ok (.int is.sum) S := by simp [bSum, onInts, h, intsOf_map]
theorem b_list {S : Sto} {n : Nat} {xs : List D} (h : getL S n = some xs) (hl : xs.length ≤ LIM) : bList [.ref n] S = .ok (.ref S.length) (S ++ [.lst xs]) := by simp [bList, h, newL_ok hl]
theorem allO_map {α β γ : Type} {f : β → Option γ} {g : α → β} {h : α → γ} (e : ∀ a, f (g a) = some (h a)) (l : List α) : allO f (l.map g) = some (l.map h) := by
  induction l with
  | nil => rfl
  | cons a l ih => simp [allO, e, ih]
/-! ### slices -/
theorem cut_drop (xs : List D) (k : Nat) : cutD xs (some (k : Int)) none = xs.drop k := by
  unfold cutD
  rw [HT.sIx_nat, HT.sIx_none]
  by_cases h : k ≤ xs.length
  · rw [Nat.min_eq_left h, List.take_of_length_le (by simp)]
  · rw [Nat.min_eq_right (by omega), List.drop_eq_nil_of_le (Nat.le_refl _), List.drop_eq_nil_of_le (by omega)]
    simp
theorem cut_take (xs : List D) (k : Nat) : cutD xs none (some (k : Int)) = xs.take k := by
  unfold cutD
  rw [HT.sIx_nat, HT.sIx_none]
  simp only [List.drop_zero, Nat.sub_zero]
  by_cases h : k ≤ xs.length
  · rw [Nat.min_eq_left h]
  · rw [Nat.min_eq_right (by omega), List.take_of_length_le (Nat.le_refl _), List.take_of_length_le (by omega)]
@[simp] theorem cut_1 (xs : List D) : cutD xs (some 1) none = xs.tail := (cut_drop xs 1).trans (by simp)
@[simp] theorem cut_63 (xs : List D) : cutD xs none (some 63) = xs.take 63 := cut_take xs 63
theorem cut_last (xs : List D) : cutD xs (some (-1)) none = xs.drop (xs.length - 1) := by
  unfold cutD
  rw [HT.sIx_none]
  have : HT.sIx xs.length 0 (some (-1)) = xs.length - 1 := by
    have := HT.clip_eq (-1) xs.length 0
    simp only [show (-1 : Int) < 0 by decide, if_true] at this
    omega
  rw [this, List.take_of_length_le (by simp)]
theorem v_slL {S : Sto} {n : Nat} {xs : List D} {lo hi : Option Int} (h : getL S n = some xs) (hl : xs.length ≤ LIM) : vSl (.ref n) lo hi S = .ok (.ref S.length) (S ++ [.lst (cutD xs lo hi)]) := by
  have : (cutD xs lo hi).length ≤ xs.length := by
    unfold cutD
    rw [List.length_take, List.length_drop]
    omega
  simp [vSl, h, newL_ok (Nat.le_trans this hl)]
theorem v_slR {S : Sto} {xs : List D} {lo hi : Option Int} (hl : xs.length ≤ LIM) : vSl (.rl xs) lo hi S = .ok (.ref S.length) (S ++ [.lst (cutD xs lo hi)]) := by
  have : (cutD xs lo hi).length ≤ xs.length := by
    unfold cutD
    rw [List.length_take, List.length_drop]
    omega
  simp [vSl, newL_ok (Nat.le_trans this hl)]
theorem v_rev {S : Sto} {n : Nat} {xs : List D} (h : getL S n = some xs) (hl : xs.length ≤ LIM) : vRev (.ref n) S = .ok (.ref S.length) (S ++ [.lst xs.reverse]) := by
  simp [vRev, h, newL_ok (show xs.reverse.length ≤ LIM by simpa using hl)]
theorem v_ixL' {S : Sto} {n : Nat} {xs : List D} {i : Int} {d : D} (h : getL S n = some xs) (hd : atI xs i = some d) : vIx (.ref n) (.int i) S = .ok d S := by simp [h, hd]
theorem mt_app {S : Sto} {n : Nat} {xs : List D} {y : D} (h : getL S n = some xs) (hl : xs.length < LIM) : mtApp (.ref n) [y] S = .ok .non (S.set n (.lst (xs ++ [y]))) := by simp [mtApp, getL_some.mp h, hl]
theorem mt_ext {S : Sto} {n m : Nat} {xs ys : List D} (h : getL S n = some xs) (h2 : getL S m = some ys) (hl : xs.length + ys.length ≤ LIM) : mtExt (.ref n) [.ref m] S = .ok .non (S.set n (.lst (xs ++ ys))) := by simp [mtExt, getL_some.mp h, getL_some.mp h2, hl]
/-! ### later stores -/
theorem pre_app (S T : Sto) : S <+: S ++ T := ⟨T, rfl⟩
theorem getL_pre {S S' : Sto} {n : Nat} {xs : List D} (h : getL S n = some xs) (p : S <+: S') : getL S' n = some xs := by
  obtain ⟨T, rfl⟩ := p
  exact getL_app h
theorem get_pre {S S' : Sto} {n : Nat} {o : O} (h : S[n]? = some o) (p : S <+: S') : S'[n]? = some o := by
  obtain ⟨T, rfl⟩ := p
  exact get_app h
theorem gcF_pre {r : List D → Sto → R D} {ds : List D} {S S' : Sto} {d : D} (e : r ds S = .ok d S') (p : S <+: S') (h : BelD S.length d) : gcF r ds S = .ok d S := by
  obtain ⟨T, rfl⟩ := p
  exact gcF_same e h
theorem gcF_preL {r : List D → Sto → R D} {ds : List D} {S S' : Sto} {k : Nat} {xs : List D} (e : r ds S = .ok (.ref k) S') (p : S <+: S') (hk : getL S' k = some xs) (hn : S.length ≤ k) (hx : BelS S.length xs) : gcF r ds S = .ok (.ref S.length) (S ++ [.lst xs]) := by
  obtain ⟨T, rfl⟩ := p
  exact gcF_list e (getL_some.mp hk) hn hx
/-- a comprehension: a new list in a later store -/
theorem lc_later {vs : List Nat} {it : MI} {g : MG} {t : MT} {e : ME} {env : En} {S S1 : Sto} {src : Src} {fuel : Nat} (xs : List D) (f : D → Option D) (hi : it env S = .ok (fuel, src) S1) (p : S <+: S1) (hf : xs.length < fuel) (hl : xs.length < LIM)
    (hs : ∀ S2, S1 <+: S2 → ∀ i, src S2 i = some xs[i]?)
    (hx : ∀ (i : Nat) (x : D), xs[i]? = some x → ∀ S2, S1 <+: S2 → lcStep g t e (wipeE env vs) x S2 = .ok (f x) S2) :
    ∃ S2, mLc vs it g t e env S = .ok (.ref S1.length) S2 ∧ S <+: S2 ∧ getL S2 S1.length = some (xs.filterMap f) ∧ S.length ≤ S1.length := by
  refine ⟨_, lc_pure xs f hi hf hl (fun acc i => hs _ (pre_app _ _) i) (fun i x h acc => hx i x h _ (pre_app _ _)), p.trans (pre_app _ _), getL_new S1 [] _, p.length_le⟩
theorem lc_laterM {vs : List Nat} {it : MI} {g : MG} {t : MT} {e : ME} {env : En} {S S1 : Sto} {src : Src} {fuel : Nat} (xs : List D) (f : D → D) (hi : it env S = .ok (fuel, src) S1) (p : S <+: S1) (hf : xs.length < fuel) (hl : xs.length < LIM)
    (hs : ∀ S2, S1 <+: S2 → ∀ i, src S2 i = some xs[i]?)
    (hx : ∀ (i : Nat) (x : D), xs[i]? = some x → ∀ S2, S1 <+: S2 → lcStep g t e (wipeE env vs) x S2 = .ok (some (f x)) S2) :
    ∃ S2, mLc vs it g t e env S = .ok (.ref S1.length) S2 ∧ S <+: S2 ∧ getL S2 S1.length = some (xs.map f) ∧ S.length ≤ S1.length := by
  obtain ⟨S2, h1, h2, h3, h4⟩ := lc_later (vs := vs) (g := g) (t := t) (e := e) xs (fun x => some (f x)) hi p hf hl hs hx
  exact ⟨S2, h1, h2, by rw [h3]; simp, h4⟩
end Fx
/-! Fx13: list(range(..)). -/
namespace Fx
open PySem L2
def rngL (i j : Int) : List D := (List.range (j - i).toNat).map fun k => .int (i + (k : Nat))
def vLrg (x y : D) (S : Sto) : R D := match x, y with
  | .int i, .int j => if small i = true ∧ small j = true ∧ (j - i).toNat ≤ 1000 then newL (rngL i j) S else .bad
  | _, _ => .bad
section
variable {X : Cx} {G : Cc} {W : WX} {a b c d e o : Expr} {ma mb mc md me mo : ME} {pos : Pos} {σ : L2.St}
theorem rngL_rel {ρ : List Addr} {H : Hp} (i j : Int) : Reps G ρ H (rngL i j) (rgV i j) := by
  unfold rngL rgV
  refine ⟨by simp, fun k d v h1 h2 => ?_⟩
  rw [List.getElem?_map, Option.map_eq_some_iff] at h1 h2
  obtain ⟨m, q1, rfl⟩ := h1
  obtain ⟨m', q2, rfl⟩ := h2
  rw [q1] at q2
  cases q2
  exact .int _
theorem fe_listRg {p p2 : Pos} {pos2 : Pos} (hm : X.mg "list" = none) (hr : X.mg "range" = none) (ha : PE X a (tE G W ma)) (hb : PE X b (tE G W mb)) (hc : X.calm = true := by rfl) (hg : Gl X "list" := by rfl) (hg2 : Gl X "range" := by rfl)
    (na : starEach [a, b] X.env = (false, eval a X.env) :: starEach [b] X.env := by rfl)
    (nb : starEach [b] X.env = (false, eval b X.env) :: starEach [] X.env := by rfl) (hp : (backTo pos2 (starEach [b] X.env)).any (·.1) = false := by rfl)
    (ne : starEach [.Call (.Name "range" p2) [a, b] [] pos2] X.env = (false, eval (.Call (.Name "range" p2) [a, b] [] pos2) X.env) :: starEach [] X.env := by rfl) : PE X (.Call (.Name "list" p) [.Call (.Name "range" p2) [a, b] [] pos2] [] pos) (tE G W (mBin vLrg ma mb)) := by
  refine PE.imp (pe_listRg hc hg hm (prg_2 hg2 hr ha hb na nb hp) ne) fun σ H Q h => show tOp (fun x y H2 Q => ∃ i j, x = V.int i ∧ y = V.int j ∧ RgOk i j ∧ ∀ q, H2 q = none → Q (V.ref q) (upd H2 q (.lst (rgV i j)))) (tE G W ma) (tE G W mb) σ H Q from two h fun ρ S H2 x y vx vy R rx ry P => ?_
  unfold vLrg at P
  split at P
  · rename_i i j
    by_cases h : small i = true ∧ small j = true ∧ (j - i).toNat ≤ 1000
    · rw [if_pos h] at P
      obtain ⟨h1, h2⟩ := small_iff h.1
      obtain ⟨h3, h4⟩ := small_iff h.2.1
      cases rx
      cases ry
      exact ⟨i, j, rfl, rfl, ⟨h1, h2, h3, h4, Nat.le_trans h.2.2 (by decide)⟩, fun q hq => new_lst R (rngL_rel i j) P hq⟩
    · rw [if_neg h] at P; exact P.elim
  · exact P.elim
end
end Fx
/-! Pm: the plain mathematics of settings, readings, courses. -/
namespace Pm
open PySem L2 Fx
structure Set3 where
  l : Int
  h : Int
  s : Int
def setD (s : Set3) : D := .tup [.int s.l, .int s.h, .int s.s]
abbrev Rd2 := Int × Int
def rdD (r : Rd2) : D := .tup [.int r.1, .int r.2]
structure OkS (s : Set3) : Prop where
  l0 : 0 ≤ s.l
  lh : s.l ≤ s.h
  h9 : s.h ≤ 9
  s0 : 0 ≤ s.s
  s5 : s.s ≤ 5
structure OkR1 (r : Rd2) : Prop where
  t0 : 0 ≤ r.1
  t1 : r.1 ≤ 60
  v0 : 0 ≤ r.2
  v1 : r.2 ≤ 600
structure OkR (rs : List Rd2) : Prop where
  len : rs.length ≤ 8
  all : ∀ r ∈ rs, OkR1 r
  up : rs.Pairwise fun a b => a.1 < b.1
def clashB (s : Set3) (a b : Rd2) : Bool := decide (b.2 - a.2 + 2 * s.s < s.l * (b.1 - a.1)) || decide (s.h * (b.1 - a.1) < b.2 - a.2 - 2 * s.s)
/-- data without numbers of the store -/
theorem bel_set (s : Set3) (n : Nat) : BelD n (setD s) := belD_tup (belS_ints [s.l, s.h, s.s])
theorem bel_rd (r : Rd2) (n : Nat) : BelD n (rdD r) := belD_tup (belS_ints [r.1, r.2])
theorem bel_rds (rs : List Rd2) (n : Nat) : BelS n (rs.map rdD) := belS_of fun d hd => by
  obtain ⟨r, _, rfl⟩ := List.mem_map.mp hd
  exact bel_rd r n
theorem ms {s : Set3} (h : OkS s) (j : Int) : mulOk s.l j = true ∧ mulOk s.h j = true := by
  have := h.l0; have := h.lh; have := h.h9
  exact ⟨mul_left (by omega) (by omega), mul_left (by omega) (by omega)⟩
/-- the course has all readings -/
structure FitsP (s : Set3) (rs : List Rd2) (cs : List Int) : Prop where
  len : cs.length = rs.length
  near : ∀ (i : Nat) (c : Int) (r : Rd2), cs[i]? = some c → rs[i]? = some r → r.2 - s.s ≤ c ∧ c ≤ r.2 + s.s
  step : ∀ (i : Nat) (c c' : Int) (r r' : Rd2), cs[i]? = some c → cs[i + 1]? = some c' → rs[i]? = some r → rs[i + 1]? = some r' → s.l * (r'.1 - r.1) ≤ c' - c ∧ c' - c ≤ s.h * (r'.1 - r.1)
open Classical in
noncomputable def fitsB (s : Set3) (rs : List Rd2) (cs : List Int) : Bool := decide (FitsP s rs cs)
theorem fitsB_true {s : Set3} {rs : List Rd2} {cs : List Int} (h : FitsP s rs cs) : fitsB s rs cs = true := by simp [fitsB, h]
theorem fitsB_false {s : Set3} {rs : List Rd2} {cs : List Int} (h : ¬ FitsP s rs cs) : fitsB s rs cs = false := by simp [fitsB, h]
end Pm
/-! Pm2: stores once more; pairs; the clashes in their order. -/
namespace Pm
open PySem L2 Fx
theorem pre_set {S S2 : Sto} {k : Nat} (o : O) (p : S <+: S2) (h : S.length ≤ k) : S <+: S2.set k o := by
  obtain ⟨T, rfl⟩ := p
  rw [List.set_append_right _ _ h]
  exact pre_app _ _
theorem getL_set {S : Sto} {k : Nat} (xs : List D) (h : k < S.length) : getL (S.set k (.lst xs)) k = some xs := getL_some.mpr (by simp [h])
theorem getL_set_ne {S : Sto} {k n : Nat} {o : O} {xs : List D} (hn : k ≠ n) (h : getL S n = some xs) : getL (S.set k o) n = some xs := getL_some.mpr (by rw [List.getElem?_set_ne hn]; exact getL_some.mp h)
theorem get_set_ne {S : Sto} {k n : Nat} {o : O} {x : O} (hn : k ≠ n) (h : S[n]? = some x) : (S.set k o)[n]? = some x := by rw [List.getElem?_set_ne hn]; exact h
theorem get_set {S : Sto} {k : Nat} {o : O} (h : k < S.length) : (S.set k o)[k]? = some o := by simp [h]
theorem lt_pre {S S2 : Sto} {k : Nat} (p : S <+: S2) (h : k < S.length) : k < S2.length := Nat.lt_of_lt_of_le h p.length_le
theorem isL_pre {S S2 : Sto} {k : Nat} {xs : List D} (h : getL S k = some xs) (p : S <+: S2) : isL (.ref k) S2 = true := isL_of (getL_pre h p)
/-! ### sorting -/
theorem sortD_map {α : Type} (l : List α) (f : α → D) (g : α → PyData) : sortD (l.map f) (l.map g) = (l.mergeSort (PySem.W.dataLe false g)).map f := by
  have : (l.map f).zip (l.map g) = l.map fun a => (f a, g a) := by rw [List.zip_map']
  unfold sortD
  rw [this, ← List.map_mergeSort (r := PySem.W.dataLe false g) (f := fun a => (f a, g a)) (fun a _ b _ => rfl), List.map_map]
  rfl
abbrev Pr := Int × Int
def prD (p : Pr) : D := .tup [.int p.1, .int p.2]
def prP (p : Pr) : PyData := .tuple [.int p.1, .int p.2]
def lexLe (p q : Pr) : Bool := decide (p.1 < q.1 ∨ p.1 = q.1 ∧ p.2 ≤ q.2)
theorem toP_pr (S : Sto) (p : Pr) : toP TD S (prD p) = some (prP p) := rfl
theorem allO_prs (S : Sto) (ps : List Pr) : allO (toP TD S) (ps.map prD) = some (ps.map prP) := allO_map (toP_pr S) ps
theorem alike_prs (ps : List Pr) : alikeB (ps.map prP) = true := by
  unfold alikeB
  rw [List.all_eq_true]
  intro p hp
  obtain ⟨a, _, rfl⟩ := List.mem_map.mp hp
  rw [List.all_eq_true]
  intro q hq
  obtain ⟨b, _, rfl⟩ := List.mem_map.mp hq
  rfl
theorem sortB_prs (ps : List Pr) : sortB (ps.map prP) = true := by
  unfold sortB
  rw [Bool.or_eq_true]
  refine .inl (List.all_eq_true.mpr fun p hp => ?_)
  obtain ⟨a, _, rfl⟩ := List.mem_map.mp hp
  rfl
theorem b_sorted_prs {S : Sto} {n : Nat} {ps : List Pr} (h : getL S n = some (ps.map prD)) (hl : ps.length ≤ LIM) : bSorted [.ref n] S = .ok (.ref S.length) (S ++ [.lst ((ps.mergeSort lexLe).map prD)]) := by
  have e : sortD (ps.map prD) (ps.map prP) = (ps.mergeSort lexLe).map prD := by
    rw [sortD_map]
    have := PySem.W.dataLe_ii (β := Pr) (fun p => p.1) (fun p => p.2)
    have e2 : PySem.W.dataLe false prP = lexLe := this
    rw [e2]
  simp only [bSorted, h, allO_prs, alike_prs, sortB_prs, and_self, if_true, e]
  exact newL_ok (by simpa using hl)
theorem bel_prs (ps : List Pr) (n : Nat) : BelS n (ps.map prD) := belS_of fun d hd => by
  obtain ⟨r, _, rfl⟩ := List.mem_map.mp hd
  exact belD_tup (belS_ints [r.1, r.2])
/-! ### the clashes -/
def rd (rs : List Rd2) (i : Nat) : Rd2 := rs[i]?.getD (0, 0)
theorem rd_eq {rs : List Rd2} {i : Nat} {r : Rd2} (h : rs[i]? = some r) : rd rs i = r := by simp [rd, h]
theorem rd_some {rs : List Rd2} {i : Nat} (h : i < rs.length) : rs[i]? = some (rd rs i) := by simp [rd, h]
def clU (s : Set3) (rs : List Rd2) (j : Nat) : List Pr := (List.range j).filterMap fun i => if clashB s (rd rs i) (rd rs j) = true then some ((i : Int), (j : Int)) else none
def clAll (s : Set3) (rs : List Rd2) (k : Nat) : List Pr := (List.range k).flatMap (clU s rs)
def clL (s : Set3) (rs : List Rd2) : List Pr := (clAll s rs rs.length).mergeSort lexLe
theorem clU_len (s : Set3) (rs : List Rd2) (j : Nat) : (clU s rs j).length ≤ j := by
  have := List.length_filterMap_le (fun i => if clashB s (rd rs i) (rd rs j) = true then some ((i : Int), (j : Int)) else none) (List.range j)
  simpa [clU] using this
theorem clAll_succ (s : Set3) (rs : List Rd2) (k : Nat) : clAll s rs (k + 1) = clAll s rs k ++ clU s rs k := by simp [clAll, List.range_succ]
theorem clAll_len (s : Set3) (rs : List Rd2) (k : Nat) : (clAll s rs k).length ≤ k * k := by
  induction k with
  | zero => simp [clAll]
  | succ k ih =>
    rw [clAll_succ, List.length_append]
    have := clU_len s rs k
    have e : (k + 1) * (k + 1) = k * k + 2 * k + 1 := by rw [Nat.add_mul, Nat.mul_add]; omega
    omega
theorem mem_clU {s : Set3} {rs : List Rd2} {j : Nat} {p : Pr} : p ∈ clU s rs j ↔ ∃ i : Nat, i < j ∧ clashB s (rd rs i) (rd rs j) = true ∧ p = ((i : Int), (j : Int)) := by
  simp only [clU, List.mem_filterMap, List.mem_range]
  constructor
  · rintro ⟨i, hi, h⟩
    split at h
    · rename_i hc
      exact ⟨i, hi, hc, by simpa using h.symm⟩
    · cases h
  · rintro ⟨i, hi, hc, rfl⟩
    exact ⟨i, hi, by simp [hc]⟩
theorem mem_clL {s : Set3} {rs : List Rd2} {p : Pr} : p ∈ clL s rs ↔ ∃ i j : Nat, i < j ∧ j < rs.length ∧ clashB s (rd rs i) (rd rs j) = true ∧ p = ((i : Int), (j : Int)) := by
  simp only [clL, List.mem_mergeSort, clAll, List.mem_flatMap, List.mem_range, mem_clU]
  constructor
  · rintro ⟨j, hj, i, hi, hc, rfl⟩
    exact ⟨i, j, hi, hj, hc, rfl⟩
  · rintro ⟨i, j, hi, hj, hc, rfl⟩
    exact ⟨j, hj, i, hi, hc, rfl⟩
theorem clL_len (s : Set3) {rs : List Rd2} (h : rs.length ≤ 8) : (clL s rs).length ≤ 64 := by
  have h1 := clAll_len s rs rs.length
  have h2 : rs.length * rs.length ≤ 8 * 8 := Nat.mul_le_mul h h
  simp only [clL, List.length_mergeSort]
  omega
end Pm
/-! Pm3: the course. -/
namespace Pm
open PySem L2 Fx
/-- the first n of them, as data -/
def upD (f : Nat → Int) (n : Nat) : List D := (List.range n).map fun i => .int (f i)
theorem upD_succ (f : Nat → Int) (n : Nat) : upD f (n + 1) = upD f n ++ [.int (f n)] := by simp [upD, List.range_succ]
@[simp] theorem upD_len (f : Nat → Int) (n : Nat) : (upD f n).length = n := by simp [upD]
theorem upD_get (f : Nat → Int) {n i : Nat} (h : i < n) : (upD f n)[i]? = some (.int (f i)) := by simp [upD, h]
theorem upD_last (f : Nat → Int) (n : Nat) : atI (upD f (n + 1)) (-1) = some (.int (f n)) := by
  rw [upD_succ]
  exact atI_last _ _
theorem upD_at (f : Nat → Int) {n i : Nat} (h : i < n) : atI (upD f n) (i : Int) = some (.int (f i)) := atI_nat (upD_get f h)
theorem bel_up (f : Nat → Int) (n m : Nat) : BelS m (upD f n) := by
  have := belS_ints (m := m) ((List.range n).map f)
  rw [List.map_map] at this
  exact this
def tk (rs : List Rd2) (i : Nat) : Int := (rd rs i).1
def vl (rs : List Rd2) (i : Nat) : Int := (rd rs i).2
def leastN (s : Set3) (rs : List Rd2) : Nat → Int
  | 0 => vl rs 0 - s.s
  | i + 1 => if leastN s rs i + s.l * (tk rs (i + 1) - tk rs i) > vl rs (i + 1) - s.s then leastN s rs i + s.l * (tk rs (i + 1) - tk rs i) else vl rs (i + 1) - s.s
def backN (s : Set3) (rs : List Rd2) : Nat → Int
  | 0 => leastN s rs (rs.length - 1)
  | b + 1 => if backN s rs b - s.h * (tk rs (rs.length - 2 - b + 1) - tk rs (rs.length - 2 - b)) > leastN s rs (rs.length - 2 - b) then backN s rs b - s.h * (tk rs (rs.length - 2 - b + 1) - tk rs (rs.length - 2 - b)) else leastN s rs (rs.length - 2 - b)
def crs (s : Set3) (rs : List Rd2) (i : Nat) : Int := backN s rs (rs.length - 1 - i)
def crsL (s : Set3) (rs : List Rd2) : List Int := (List.range rs.length).map (crs s rs)
theorem rev_back (s : Set3) (rs : List Rd2) : (upD (backN s rs) rs.length).reverse = (crsL s rs).map D.int := by
  apply List.ext_getElem?
  intro i
  by_cases h : i < rs.length
  · rw [List.getElem?_reverse (by simpa using h), upD_len, upD_get _ (by omega)]
    simp [crsL, h, crs]
  · rw [List.getElem?_eq_none (by simp; omega), List.getElem?_eq_none (by simp [crsL]; omega)]
theorem crs_last (s : Set3) (rs : List Rd2) (i : Nat) (h : i + 1 = rs.length) : crs s rs i = leastN s rs i := by
  have : rs.length - 1 - i = 0 := by omega
  rw [crs, this, backN]
  congr 1
  omega
theorem crs_step (s : Set3) (rs : List Rd2) (i : Nat) (h : i + 1 < rs.length) : crs s rs i = if crs s rs (i + 1) - s.h * (tk rs (i + 1) - tk rs i) > leastN s rs i then crs s rs (i + 1) - s.h * (tk rs (i + 1) - tk rs i) else leastN s rs i := by
  have e1 : rs.length - 1 - i = (rs.length - 1 - (i + 1)) + 1 := by omega
  have e2 : rs.length - 2 - (rs.length - 1 - (i + 1)) = i := by omega
  rw [crs, e1, backN, e2]
  rfl
theorem tk_lt {rs : List Rd2} (h : OkR rs) {i j : Nat} (hij : i < j) (hj : j < rs.length) : tk rs i < tk rs j := by
  have q := List.pairwise_iff_getElem.mp h.up i j (by omega) hj hij
  have e1 : rd rs i = rs[i] := rd_eq (by simp)
  have e2 : rd rs j = rs[j] := rd_eq (by simp)
  simp only [tk, e1, e2]
  exact q
theorem tk_le {rs : List Rd2} (h : OkR rs) {i j : Nat} (hij : i ≤ j) (hj : j < rs.length) : tk rs i ≤ tk rs j := by
  rcases Nat.lt_or_eq_of_le hij with h1 | h1
  · exact Int.le_of_lt (tk_lt h h1 hj)
  · subst h1; omega
theorem least_ge (s : Set3) (rs : List Rd2) (i : Nat) : vl rs i - s.s ≤ leastN s rs i := by
  cases i with
  | zero => exact Int.le_refl _
  | succ i => rw [leastN]; split <;> omega
theorem least_step (s : Set3) (rs : List Rd2) (i : Nat) : leastN s rs i + s.l * (tk rs (i + 1) - tk rs i) ≤ leastN s rs (i + 1) := by
  rw [leastN]; split <;> omega
theorem least_at (s : Set3) (rs : List Rd2) (j : Nat) : ∃ k, k ≤ j ∧ leastN s rs j = vl rs k - s.s + s.l * (tk rs j - tk rs k) := by
  induction j with
  | zero => exact ⟨0, Nat.le_refl _, by simp [leastN]⟩
  | succ j ih =>
    obtain ⟨k, hk, e⟩ := ih
    rw [leastN]
    split
    · refine ⟨k, by omega, ?_⟩
      rw [e]
      simp only [Int.mul_sub]
      omega
    · exact ⟨j + 1, Nat.le_refl _, by simp⟩
theorem crs_at (s : Set3) (rs : List Rd2) : ∀ (d i : Nat), i + d + 1 = rs.length → ∃ j, i ≤ j ∧ j < rs.length ∧ crs s rs i = leastN s rs j - s.h * (tk rs j - tk rs i)
  | 0, i, h => ⟨i, Nat.le_refl _, by omega, by rw [crs_last s rs i (by omega)]; simp⟩
  | d + 1, i, h => by
    obtain ⟨j, h1, h2, e⟩ := crs_at s rs d (i + 1) (by omega)
    rw [crs_step s rs i (by omega)]
    split
    · refine ⟨j, by omega, h2, ?_⟩
      rw [e]
      simp only [Int.mul_sub]
      omega
    · exact ⟨i, Nat.le_refl _, by omega, by simp⟩
theorem crs_ge (s : Set3) (rs : List Rd2) (i : Nat) (h : i < rs.length) : leastN s rs i ≤ crs s rs i := by
  by_cases h1 : i + 1 = rs.length
  · rw [crs_last s rs i h1]; omega
  · rw [crs_step s rs i (by omega)]; split <;> omega
theorem lh_mul {s : Set3} (h : OkS s) {a b : Int} (hab : a ≤ b) : s.l * (b - a) ≤ s.h * (b - a) := Int.mul_le_mul_of_nonneg_right h.lh (by omega)
theorem noClash {s : Set3} {rs : List Rd2} {i j : Nat} (h : clashB s (rd rs i) (rd rs j) = false) : s.l * (tk rs j - tk rs i) ≤ vl rs j - vl rs i + 2 * s.s ∧ vl rs j - vl rs i - 2 * s.s ≤ s.h * (tk rs j - tk rs i) := by
  simp only [clashB, Bool.or_eq_false_iff, decide_eq_false_iff_not] at h
  simp only [tk, vl]
  omega
theorem crs_fits {s : Set3} (h : OkS s) {rs : List Rd2} (hr : OkR rs) (hc : ∀ i j, i < j → j < rs.length → clashB s (rd rs i) (rd rs j) = false) : FitsP s rs (crsL s rs) where
  len := by simp [crsL]
  near := fun i c r h1 h2 => by
    have hi := (List.getElem?_eq_some_iff.mp h2).1
    have e : c = crs s rs i := by simpa [crsL, hi] using h1.symm
    have e2 : r.2 = vl rs i := by rw [vl, rd_eq h2]
    have g1 := crs_ge s rs i hi
    have g2 := least_ge s rs i
    obtain ⟨j, h3, h4, e3⟩ := crs_at s rs (rs.length - 1 - i) i (by omega)
    obtain ⟨k, h5, e4⟩ := least_at s rs j
    have s0 := h.s0
    refine ⟨by omega, ?_⟩
    rw [e, e2, e3, e4]
    rcases Nat.lt_trichotomy k i with hk | hk | hk
    · have n1 := (noClash (hc k i hk hi)).1
      have n2 := lh_mul h (tk_le hr h3 h4)
      simp only [Int.mul_sub] at n1 n2 ⊢
      omega
    · subst hk
      have n2 := lh_mul h (tk_le hr h3 h4)
      simp only [Int.mul_sub] at n2 ⊢
      omega
    · have n1 := (noClash (hc i k hk (by omega))).2
      have n2 := lh_mul h (tk_le hr h5 h4)
      simp only [Int.mul_sub] at n1 n2 ⊢
      omega
  step := fun i c c' r r' h1 h2 h3 h4 => by
    have hi := (List.getElem?_eq_some_iff.mp h4).1
    have e : c = crs s rs i := by
      have : i < rs.length := by omega
      simpa [crsL, this] using h1.symm
    have e' : c' = crs s rs (i + 1) := by simpa [crsL, hi] using h2.symm
    have t1 : r.1 = tk rs i := by rw [tk, rd_eq h3]
    have t2 : r'.1 = tk rs (i + 1) := by rw [tk, rd_eq h4]
    have g1 := crs_ge s rs (i + 1) hi
    have g2 := least_step s rs i
    have g3 : s.l * (tk rs (i + 1) - tk rs i) ≤ s.h * (tk rs (i + 1) - tk rs i) := lh_mul h (tk_le hr (Nat.le_succ i) hi)
    have g4 := crs_step s rs i hi
    rw [e, e', t1, t2]
    split at g4 <;> omega
theorem no_cl {s : Set3} {rs : List Rd2} (h : clL s rs = []) {i j : Nat} (hij : i < j) (hj : j < rs.length) : clashB s (rd rs i) (rd rs j) = false := by
  cases hb : clashB s (rd rs i) (rd rs j) with
  | false => rfl
  | true =>
    have := mem_clL.mpr ⟨i, j, hij, hj, hb, rfl⟩
    rw [h] at this
    cases this
/-- no course has two that clash -/
theorem steps_of {s : Set3} (h : OkS s) {rs : List Rd2} (hr : OkR rs) {cs : List Int} (hf : FitsP s rs cs) : ∀ (d i : Nat) (c c' : Int), i + d < rs.length → cs[i]? = some c → cs[i + d]? = some c' → s.l * (tk rs (i + d) - tk rs i) ≤ c' - c ∧ c' - c ≤ s.h * (tk rs (i + d) - tk rs i)
  | 0, i, c, c', _, h1, h2 => by
    rw [Nat.add_zero, h1] at h2
    cases h2
    simp
  | d + 1, i, c, c', hi, h1, h2 => by
    have hm : i + d < cs.length := by have := hf.len; omega
    have a := steps_of h hr hf d i c cs[i + d] (by omega) h1 (by simp)
    have b := hf.step (i + d) cs[i + d] c' (rd rs (i + d)) (rd rs (i + d + 1)) (by simp) h2 (rd_some (by omega)) (rd_some (by omega))
    have e : i + (d + 1) = i + d + 1 := rfl
    rw [e]
    change s.l * (tk rs (i + d + 1) - tk rs (i + d)) ≤ _ ∧ _ ≤ s.h * (tk rs (i + d + 1) - tk rs (i + d)) at b
    simp only [Int.mul_sub] at a b ⊢
    omega
theorem fits_no {s : Set3} (h : OkS s) {rs : List Rd2} (hr : OkR rs) {cs : List Int} (hf : FitsP s rs cs) {i j : Nat} (hij : i < j) (hj : j < rs.length) : clashB s (rd rs i) (rd rs j) = false := by
  have hl := hf.len
  have hci : cs[i]? = some cs[i] := by simp
  have hcj : cs[j]? = some cs[j] := by simp
  have n1 := hf.near i _ _ hci (rd_some (by omega))
  have n2 := hf.near j _ _ hcj (rd_some hj)
  have st := steps_of h hr hf (j - i) i cs[i] cs[j] (by omega) hci (by rw [show i + (j - i) = j by omega]; exact hcj)
  rw [show i + (j - i) = j by omega] at st
  simp only [clashB, Bool.or_eq_false_iff, decide_eq_false_iff_not]
  simp only [tk] at st
  omega
end Pm
/-! Pm4: equality of data; the answers' fields. -/
namespace Pm
open PySem L2 Fx
theorem v_eq_of {S : Sto} {x y : D} {p q : PyData} (h1 : toP TD S x = some p) (h2 : toP TD S y = some q) : vEq x y S = .ok (.bl (PyData.eqv p q)) S := by
  have : ∀ a, x ≠ .str a := fun a e => by subst e; cases h1
  unfold vEq
  split
  · exact absurd rfl (this _)
  · rw [h1, h2]
theorem v_ne_of {S : Sto} {x y : D} {p q : PyData} (h1 : toP TD S x = some p) (h2 : toP TD S y = some q) : vNe x y S = .ok (.bl (!PyData.eqv p q)) S := by
  have : ∀ a, x ≠ .str a := fun a e => by subst e; cases h1
  unfold vNe
  split
  · exact absurd rfl (this _)
  · rw [h1, h2]
theorem toP_lst {S : Sto} {n f : Nat} {xs : List D} {ps : List PyData} (h : getL S n = some xs) (h2 : allO (toP f S) xs = some ps) : toP (f + 1) S (.ref n) = some (.list ps) := by simp [toP, h, h2]
theorem eqvAll_map {α : Type} [DecidableEq α] (enc : α → PyData) (h : ∀ a b, PyData.eqv (enc a) (enc b) = decide (a = b)) : ∀ (l m : List α), PyData.eqvAll (l.map enc) (m.map enc) = decide (l = m)
  | [], [] => by simp [PyData.eqvAll]
  | [], b :: m => by simp [PyData.eqvAll]
  | a :: l, [] => by simp [PyData.eqvAll]
  | a :: l, b :: m => by simp [PyData.eqvAll, h, eqvAll_map enc h l m]
theorem eqv_int (a b : Int) : PyData.eqv (.int a) (.int b) = decide (a = b) := by
  simp only [PyData.eqv]
  by_cases h : a = b <;> simp [h]
theorem eqv_pr (a b : Pr) : PyData.eqv (prP a) (prP b) = decide (a = b) := by
  obtain ⟨a1, a2⟩ := a
  obtain ⟨b1, b2⟩ := b
  simp [prP, PyData.eqv, PyData.eqvAll, Prod.mk.injEq]
  rw [Bool.eq_iff_iff]
  simp
theorem toP_ints {S : Sto} {f : Nat} (is : List Int) : allO (toP f S) (is.map D.int) = some (is.map PyData.int) := allO_map (fun a => by cases f <;> rfl) is
theorem v_ne_ints {S : Sto} {n m : Nat} {is js : List Int} (h1 : getL S n = some (is.map D.int)) (h2 : getL S m = some (js.map D.int)) : vNe (.ref n) (.ref m) S = .ok (.bl (!decide (is = js))) S := by
  rw [v_ne_of (toP_lst h1 (toP_ints is)) (toP_lst h2 (toP_ints js)), PyData.eqv, eqvAll_map _ eqv_int]
theorem v_eq_ints {S : Sto} {n m : Nat} {is js : List Int} (h1 : getL S n = some (is.map D.int)) (h2 : getL S m = some (js.map D.int)) : vEq (.ref n) (.ref m) S = .ok (.bl (decide (is = js))) S := by
  rw [v_eq_of (toP_lst h1 (toP_ints is)) (toP_lst h2 (toP_ints js)), PyData.eqv, eqvAll_map _ eqv_int]
theorem toP_prs {S : Sto} (ps : List Pr) : allO (toP 7 S) (ps.map prD) = some (ps.map prP) := allO_map (f := toP 7 S) (g := prD) (h := prP) (fun a => rfl) ps
theorem v_ne_prs {S : Sto} {n m : Nat} {ps qs : List Pr} (h1 : getL S n = some (ps.map prD)) (h2 : getL S m = some (qs.map prD)) : vNe (.ref n) (.ref m) S = .ok (.bl (!decide (ps = qs))) S := by
  rw [v_ne_of (toP_lst h1 (toP_prs ps)) (toP_lst h2 (toP_prs qs)), PyData.eqv, eqvAll_map _ eqv_pr]
theorem v_eq_prs {S : Sto} {n m : Nat} {ps qs : List Pr} (h1 : getL S n = some (ps.map prD)) (h2 : getL S m = some (qs.map prD)) : vEq (.ref n) (.ref m) S = .ok (.bl (decide (ps = qs))) S := by
  rw [v_eq_of (toP_lst h1 (toP_prs ps)) (toP_lst h2 (toP_prs qs)), PyData.eqv, eqvAll_map _ eqv_pr]
theorem v_ne_pr {S : Sto} (p q : Pr) : vNe (.tup [.int p.1, .int p.2]) (.tup [.int q.1, .int q.2]) S = .ok (.bl (!decide (p = q))) S := by
  have := v_ne_of (toP_pr S p) (toP_pr S q)
  rw [eqv_pr] at this
  exact this
theorem v_eq_pr {S : Sto} (p q : Pr) : vEq (.tup [.int p.1, .int p.2]) (.tup [.int q.1, .int q.2]) S = .ok (.bl (decide (p = q))) S := by
  have := v_eq_of (toP_pr S p) (toP_pr S q)
  rw [eqv_pr] at this
  exact this
/-- the script is not empty -/
theorem v_ne_rl {S : Sto} {n : Nat} {is : List Int} (h2 : getL S n = some []) : vNe (.rl (is.map D.int)) (.ref n) S = .ok (.bl (!decide (is = []))) S := by
  have a : toP TD S (.rl (is.map D.int)) = some (.list (is.map PyData.int)) := by simp [toP, toP_ints]
  have b : toP TD S (.ref n) = some (.list (([] : List Int).map PyData.int)) := toP_lst h2 rfl
  rw [v_ne_of a b, PyData.eqv, eqvAll_map _ eqv_int]
/-! ### fields -/
def fFits (m : Nat) : List (Str × D) := [("course", .ref m)]
def fClash (a b : Int) : List (Str × D) := [("one", .int a), ("other", .int b)]
@[simp] theorem lk_course (m : Nat) : (fFits m).lookup ("course" : Str) = some (.ref m) := rfl
@[simp] theorem lk_one (a b : Int) : (fClash a b).lookup ("one" : Str) = some (.int a) := rfl
@[simp] theorem lk_other (a b : Int) : (fClash a b).lookup ("other" : Str) = some (.int b) := rfl
@[simp] theorem lk_fs (m : Nat) : (fFits m).lookup ("shows" : Str) = none := rfl
@[simp] theorem lk_cs (a b : Int) : (fClash a b).lookup ("shows" : Str) = none := rfl
theorem newL_ex {xs : List D} (h : xs.length ≤ LIM) (S : Sto) : ∃ S2, newL xs S = .ok (.ref S.length) S2 ∧ S <+: S2 ∧ getL S2 S.length = some xs := ⟨_, newL_ok h, pre_app _ _, getL_new S [] _⟩
end Pm
/-! Pm5: the script, its numbers. -/
namespace Pm
open PySem L2 Fx
/-- not too great a number -/
def Big (z : Int) : Prop := bits z ≤ 2000000
theorem big_add {a b : Int} {m n : Nat} (h1 : bits a ≤ m) (h2 : bits b ≤ n) : bits (a + b) ≤ max m n + 1 := PySem.intBits_add_le h1 h2
theorem big_mul {a b : Int} {m n : Nat} (h1 : bits a ≤ m) (h2 : bits b ≤ n) : bits (a * b) ≤ m + n := PySem.intBits_mul_le h1 h2
theorem bits_iff {m : Nat} {x : Int} : bits x ≤ m ↔ x.natAbs < 2 ^ m := PySem.intBits_le_iff
theorem big_small {z : Int} (h1 : -(2 ^ 63) ≤ z) (h2 : z < 2 ^ 63) : Big z := Nat.le_trans (bits_le h1 h2) (by decide)
/-- sums -/
theorem sum_abs (m : Nat) : ∀ (is : List Int), (∀ z ∈ is, bits z ≤ m) → is.sum.natAbs ≤ is.length * 2 ^ m
  | [], _ => by simp
  | z :: is, h => by
    have h1 := sum_abs m is fun y hy => h y (List.mem_cons_of_mem _ hy)
    have h2 := bits_iff.mp (h z List.mem_cons_self)
    rw [List.sum_cons, List.length_cons, Nat.succ_mul]
    omega
theorem sum_bits {is : List Int} (hl : is.length ≤ 63) (h : ∀ z ∈ is, bits z ≤ 1048576) : bits is.sum ≤ 1048582 := by
  rw [bits_iff]
  have h1 := sum_abs 1048576 is h
  have h2 : is.length * 2 ^ 1048576 < 64 * 2 ^ 1048576 := Nat.mul_lt_mul_of_pos_right (by omega) (Nat.two_pow_pos _)
  have h3 : 64 * 2 ^ 1048576 = 2 ^ 1048582 := by
    rw [show (64 : Nat) = 2 ^ 6 by decide, ← Nat.pow_add]
  omega
/-- the cells -/
def cellsOf (ns : List Int) : List Int := if ns = [] then [5] else ns
structure Cells (cs : List Int) : Prop where
  pos : 0 < cs.length
  len : cs.length ≤ 63
  all : ∀ z ∈ cs, bits z ≤ 1048576
theorem cells_ok {ns : List Int} (h1 : ns.length ≤ 63) (h2 : ∀ z ∈ ns, Builtin.Int.intBits z ≤ 1048576) : Cells (cellsOf ns) := by
  unfold cellsOf
  split
  · refine ⟨by decide, by decide, fun z hz => ?_⟩
    simp at hz
    subst hz
    exact Nat.le_trans (bits_le (by decide) (by decide)) (by decide)
  · rename_i h
    exact ⟨List.length_pos_iff.mpr h, h1, h2⟩
theorem e_cells {ns : List Int} (h1 : ns.length ≤ 63) (e : En) (S : Sto) : ∃ k S2, mIfE (mTest (mBin vNe (mVar 0) (mLst mNil))) (mSl (mVar 0) oN (oS (mC (.int 63)))) (mLst (mCons (mC (.int 5)) mNil)) (some (.rl (ns.map D.int)) :: e) S = .ok (.ref k) S2 ∧ S <+: S2 ∧ getL S2 k = some ((cellsOf ns).map D.int) ∧ S.length ≤ k := by
  obtain ⟨S1, a1, p1, g1⟩ := newL_ex (xs := []) (by decide) S
  by_cases h : ns = []
  · obtain ⟨S2, a2, p2, g2⟩ := newL_ex (xs := [.int 5]) (by decide) S1
    subst h
    refine ⟨S1.length, S2, ?_, p1.trans p2, by rw [g2]; rfl, p1.length_le⟩
    have := v_ne_rl (is := []) g1
    simp at this
    simp [a1, this, a2]
  · have := v_ne_rl (is := ns) g1
    simp [h] at this
    refine ⟨S1.length, S1 ++ [.lst (ns.map D.int)], ?_, p1.trans (pre_app _ _), ?_, p1.length_le⟩
    · have q := v_slR (S := S1) (xs := ns.map D.int) (lo := none) (hi := some 63) (lim_le (by rw [List.length_map]; omega))
      rw [cut_63, List.take_of_length_le (by rw [List.length_map]; exact h1)] at q
      simp [a1, this, q]
    · rw [cellsOf, if_neg h]
      exact getL_new S1 [] _
/-- the mixing -/
def mixN (c a w : Int) : Int := ((c + 977 * a) * 48271 + w) % 2147483647
def moreN (c a w : Int) : Int := mixN c a w * (mixN c a w + 31 * a + 7) * (mixN c a w + c + 5)
def numN (c a w : Int) : Int := if 1000000000000000000 ≤ c then c else moreN c a w * (moreN c a w + 48271) / 1009
theorem mix_0 (c a w : Int) : 0 ≤ mixN c a w ∧ mixN c a w < 2147483647 := ⟨Int.emod_nonneg _ (by decide), Int.emod_lt_of_pos _ (by decide)⟩
theorem mix_mul {c a w : Int} (h1 : 0 ≤ a) (h2 : a ≤ 1000) : 0 ≤ mixN c a w * (mixN c a w + 31 * a + 7) ∧ mixN c a w * (mixN c a w + 31 * a + 7) < 2 ^ 63 := by
  have h := mix_0 c a w
  generalize mixN c a w = m at h ⊢
  refine ⟨Int.mul_nonneg h.1 (by omega), ?_⟩
  have := Int.mul_le_mul (show m ≤ 2147483647 by omega) (show m + 31 * a + 7 ≤ 2147483647 + 31007 by omega) (by omega) (by decide)
  exact Int.lt_of_le_of_lt this (by decide)
theorem more_ok {c a w : Int} (h1 : 0 ≤ a) (h2 : a ≤ 1000) (hc : Big c) : mulOk (moreN c a w) (moreN c a w + 48271) = true := by
  have b1 : bits (mixN c a w) ≤ 64 := bits_le (by have := mix_0 c a w; omega) (by have := mix_0 c a w; omega)
  have b2 : bits (mixN c a w * (mixN c a w + 31 * a + 7)) ≤ 64 := bits_le (by have := (mix_mul (c := c) (w := w) h1 h2).1; omega) (mix_mul h1 h2).2
  have b3 : bits (mixN c a w + c + 5) ≤ 2000002 := Nat.le_trans (big_add (big_add b1 hc) (bits_le (i := 5) (by decide) (by decide))) (by decide)
  have b4 : bits (moreN c a w) ≤ 2000066 := Nat.le_trans (big_mul b2 b3) (by decide)
  have b5 : bits (moreN c a w + 48271) ≤ 2000067 := Nat.le_trans (big_add b4 (bits_le (i := 48271) (by decide) (by decide))) (by decide)
  unfold mulOk
  have : bits (moreN c a w) + bits (moreN c a w + 48271) ≤ 100000000 := by omega
  simp [this]
theorem cell_big {cs : List Int} (h : Cells cs) {j : Nat} {z a : Int} (hz : cs[j]? = some z) (h1 : 0 ≤ a) (h2 : a ≤ 1000) : Big (z + a) :=
  Nat.le_trans (big_add (h.all z (List.mem_of_getElem? hz)) (bits_le (i := a) (by omega) (by omega))) (by decide)
theorem whole_big {cs : List Int} (h : Cells cs) {a : Int} (h1 : 0 ≤ a) (h2 : a ≤ 1000) : Big (cs.sum + a) :=
  Nat.le_trans (big_add (sum_bits h.len h.all) (bits_le (i := a) (by omega) (by omega))) (by decide)
theorem whole_big0 {cs : List Int} (h : Cells cs) : Big cs.sum := Nat.le_trans (sum_bits h.len h.all) (by decide)
/-- settings by a number -/
def setN (z : Int) : Set3 where
  l := if z / 900 % 4 = 0 ∨ z / 900 % 4 = 2 then z % 10 else z % 10 + z / 10 % (10 - z % 10)
  h := z % 10 + z / 10 % (10 - z % 10)
  s := z / 100 % 6
theorem setN_ok (z : Int) : OkS (setN z) := by
  have a := Int.emod_nonneg z (show (10 : Int) ≠ 0 by decide)
  have b := Int.emod_lt_of_pos z (show (0 : Int) < 10 by decide)
  have c := Int.emod_nonneg (z / 10) (show (10 - z % 10 : Int) ≠ 0 by omega)
  have d := Int.emod_lt_of_pos (z / 10) (show (0 : Int) < 10 - z % 10 by omega)
  have e := Int.emod_nonneg (z / 100) (show (6 : Int) ≠ 0 by decide)
  have f := Int.emod_lt_of_pos (z / 100) (show (0 : Int) < 6 by decide)
  refine ⟨?_, ?_, ?_, ?_, ?_⟩ <;> simp only [setN]
  · split
    · exact a
    · exact Int.add_nonneg a c
  · split
    · exact Int.le_add_of_nonneg_right c
    · exact Int.le_refl _
  · generalize z / 10 % (10 - z % 10) = q at *
    omega
  · exact e
  · exact Int.le_of_lt_add_one f
end Pm
/-! Pm6: comprehensions whose steps leave things behind; what can be reached. -/
namespace Pm
open PySem L2 Fx
theorem lc_grow {vs : List Nat} {it : MI} {g : MG} {t : MT} {e : ME} {env : En} {S S1 : Sto} {src : Src} {fuel : Nat} (xs : List D) (f : D → Option D) (hi : it env S = .ok (fuel, src) S1) (p : S <+: S1) (hf : xs.length < fuel) (hl : xs.length < LIM)
    (hs : ∀ S2, S1 <+: S2 → ∀ i, src S2 i = some xs[i]?)
    (hx : ∀ (i : Nat) (x : D), xs[i]? = some x → ∀ S2, S1 <+: S2 → ∃ S3, lcStep g t e (wipeE env vs) x S2 = .ok (f x) S3 ∧ S2 <+: S3) :
    ∃ S2, mLc vs it g t e env S = .ok (.ref S1.length) S2 ∧ S <+: S2 ∧ getL S2 S1.length = some (xs.filterMap f) ∧ S.length ≤ S1.length := by
  have key : ∀ (k i fu : Nat) (St : Sto), xs.length - i = k → i ≤ xs.length → k < fu → S1 <+: St → getL St S1.length = some ((xs.take i).filterMap f) → ∃ S2, lcM S1.length src g t e (wipeE env vs) fu i St = .ok () S2 ∧ S1 <+: S2 ∧ getL S2 S1.length = some (xs.filterMap f) := by
    intro k
    induction k with
    | zero =>
      intro i fu St h1 h2 h3 h4 h5
      cases fu with
      | zero => omega
      | succ fu =>
        have : i = xs.length := by omega
        subst this
        rw [lcM_step, hs _ h4]
        rw [List.take_length] at h5
        exact ⟨St, by simp, h4, h5⟩
    | succ k ih =>
      intro i fu St h1 h2 h3 h4 h5
      cases fu with
      | zero => omega
      | succ fu =>
        have hi : i < xs.length := by omega
        have hx' : xs[i]? = some xs[i] := by simp [hi]
        have ht := take_snoc hx'
        rw [lcM_step, hs _ h4, hx']
        obtain ⟨S3, q1, q2⟩ := hx i _ hx' St h4
        simp only [q1]
        cases hfx : f xs[i] with
        | none =>
          have z : (xs.take (i + 1)).filterMap f = (xs.take i).filterMap f := by
            rw [ht, List.filterMap_append, List.filterMap_cons_none hfx, List.filterMap_nil, List.append_nil]
          exact ih (i + 1) fu S3 (by omega) (by omega) (by omega) (h4.trans q2) (by rw [z]; exact getL_pre h5 q2)
        | some y =>
          have hz : ((xs.take i).filterMap f).length < LIM := by
            have h1 := List.length_filterMap_le f (xs.take i)
            have h2 : (xs.take i).length ≤ xs.length := by rw [List.length_take]; exact Nat.min_le_right _ _
            omega
          have z : (xs.take (i + 1)).filterMap f = (xs.take i).filterMap f ++ [y] := by
            rw [ht, List.filterMap_append, List.filterMap_cons_some hfx, List.filterMap_nil]
          have g3 := getL_pre h5 q2
          simp only [getL_some.mp g3, hz, if_true]
          exact ih (i + 1) fu _ (by omega) (by omega) (by omega) (pre_set _ (h4.trans q2) (Nat.le_refl _)) (by rw [z]; exact getL_set _ (getL_lt g3))
  obtain ⟨S2, k1, k2, k3⟩ := key xs.length 0 fuel (S1 ++ [.lst []]) (by simp) (Nat.zero_le _) hf (pre_app _ _) (getL_new S1 [] _)
  exact ⟨S2, by simp [mLc, hi, k1], p.trans k2, k3, p.length_le⟩
theorem gcF_some {r : List D → Sto → R D} {ds : List D} {S S' : Sto} {k : Nat} {xs : List D} (e : r ds S = .ok (.ref k) S') (p : S <+: S') (hk : getL S' k = some xs) (hn : S.length ≤ k) : gcF r ds S = .ok (.ref k) S' ∨ (BelS S.length xs ∧ gcF r ds S = .ok (.ref S.length) (S ++ [.lst xs])) := by
  by_cases hb : BelS S.length xs
  · exact .inr ⟨hb, gcF_preL e p hk hn hb⟩
  · left
    unfold gcF
    rw [e]
    dsimp only
    rw [if_neg, getL_some.mp hk]
    · dsimp only
      rw [if_neg fun h => hb h.2.2]
    · intro h
      have := h.2.1
      cases this with
      | ref h => omega
/-! ### what can be reached -/
def baseL (s : Set3) (rs : List Rd2) (i : Nat) : List Int := (List.range (vl rs i + s.s + 1 - (vl rs i - s.s)).toNat).map fun k => vl rs i - s.s + (k : Nat)
def stepB (s : Set3) (t x y : Int) : Bool := decide (s.l * t ≤ x - y) && decide (x - y ≤ s.h * t)
def reachL (s : Set3) (rs : List Rd2) : Nat → List Int
  | 0 => baseL s rs 0
  | i + 1 => (baseL s rs (i + 1)).filter fun x => (reachL s rs i).any fun y => stepB s (tk rs (i + 1) - tk rs i) x y
theorem mem_base {s : Set3} {rs : List Rd2} {i : Nat} {x : Int} : x ∈ baseL s rs i ↔ vl rs i - s.s ≤ x ∧ x ≤ vl rs i + s.s := by
  simp only [baseL, List.mem_map, List.mem_range]
  constructor
  · rintro ⟨k, hk, rfl⟩; omega
  · rintro ⟨h1, h2⟩
    exact ⟨(x - (vl rs i - s.s)).toNat, by omega, by omega⟩
theorem base_len {s : Set3} (h : OkS s) (rs : List Rd2) (i : Nat) : (baseL s rs i).length ≤ 11 := by
  have := h.s0; have := h.s5
  simp [baseL]
  omega
theorem reach_len {s : Set3} (h : OkS s) (rs : List Rd2) (i : Nat) : (reachL s rs i).length ≤ 11 := by
  cases i with
  | zero => exact base_len h rs 0
  | succ i => exact Nat.le_trans (List.length_filter_le _ _) (base_len h rs _)
theorem reach_course {s : Set3} {rs : List Rd2} : ∀ (i : Nat) (x : Int), x ∈ reachL s rs i → ∃ f : Nat → Int, f i = x ∧ (∀ j, j ≤ i → vl rs j - s.s ≤ f j ∧ f j ≤ vl rs j + s.s) ∧ ∀ j, j < i → s.l * (tk rs (j + 1) - tk rs j) ≤ f (j + 1) - f j ∧ f (j + 1) - f j ≤ s.h * (tk rs (j + 1) - tk rs j)
  | 0, x, h => ⟨fun _ => x, rfl, fun j hj => by
      have : j = 0 := by omega
      subst this
      exact mem_base.mp h, fun j hj => absurd hj (Nat.not_lt_zero j)⟩
  | i + 1, x, h => by
    simp only [reachL, List.mem_filter, List.any_eq_true, stepB, Bool.and_eq_true, decide_eq_true_iff] at h
    obtain ⟨h1, y, hy, h2⟩ := h
    obtain ⟨f, f1, f2, f3⟩ := reach_course i y hy
    refine ⟨fun j => if j = i + 1 then x else f j, by simp, fun j hj => ?_, fun j hj => ?_⟩
    · by_cases e : j = i + 1
      · subst e; simp only [if_true]; exact mem_base.mp h1
      · simp only [e, if_false]; exact f2 j (by omega)
    · have e : ¬ j = i + 1 := by omega
      by_cases e2 : j = i
      · subst e2
        simp only [if_true, e, if_false, f1]
        exact h2
      · have e3 : ¬ j + 1 = i + 1 := by omega
        simp only [e, e3, if_false]
        exact f3 j (by omega)
theorem reach_of {s : Set3} {rs : List Rd2} {cs : List Int} (hf : FitsP s rs cs) : ∀ (i : Nat) (c : Int), cs[i]? = some c → c ∈ reachL s rs i
  | 0, c, h => mem_base.mpr (hf.near 0 c _ h (rd_some (by have := (List.getElem?_eq_some_iff.mp h).1; have := hf.len; omega)))
  | i + 1, c, h => by
    have hi := (List.getElem?_eq_some_iff.mp h).1
    have hl := hf.len
    have c0 : cs[i]? = some cs[i] := by simp
    simp only [reachL, List.mem_filter, List.any_eq_true, stepB, Bool.and_eq_true, decide_eq_true_iff]
    exact ⟨mem_base.mpr (hf.near (i + 1) c _ h (rd_some (by omega))), cs[i], reach_of hf i _ c0, hf.step i _ _ _ _ c0 h (rd_some (by omega)) (rd_some (by omega))⟩
theorem good_iff {s : Set3} (h : OkS s) {rs : List Rd2} (hr : OkR rs) {i : Nat} (hi : i + 1 = rs.length) : reachL s rs i ≠ [] ↔ clL s rs = [] := by
  constructor
  · intro hne
    obtain ⟨x, hx⟩ := List.exists_mem_of_ne_nil _ hne
    obtain ⟨f, f1, f2, f3⟩ := reach_course i x hx
    have hF : FitsP s rs ((List.range rs.length).map f) := ⟨by simp, fun j c r h1 h2 => by
        have hj := (List.getElem?_eq_some_iff.mp h2).1
        have e : c = f j := by simpa [hj] using h1.symm
        have e2 : r.2 = vl rs j := by rw [vl, rd_eq h2]
        rw [e, e2]
        exact f2 j (by omega), fun j c c' r r' h1 h2 h3 h4 => by
        have hj := (List.getElem?_eq_some_iff.mp h4).1
        have hj0 : j < rs.length := by omega
        have e : c = f j := by simpa [hj0] using h1.symm
        have e' : c' = f (j + 1) := by simpa [hj] using h2.symm
        have t1 : r.1 = tk rs j := by rw [tk, rd_eq h3]
        have t2 : r'.1 = tk rs (j + 1) := by rw [tk, rd_eq h4]
        rw [e, e', t1, t2]
        exact f3 j (by omega)⟩
    cases hc : clL s rs with
    | nil => rfl
    | cons p t =>
      have hm : p ∈ clL s rs := by rw [hc]; exact List.mem_cons_self
      obtain ⟨a, b, h1, h2, h3, _⟩ := mem_clL.mp hm
      rw [fits_no h hr hF h1 h2] at h3
      cases h3
  · intro hc hne
    have hF := crs_fits h hr fun i j => no_cl hc
    have hi2 : i < rs.length := by omega
    have h0 : (crsL s rs)[i]? = some (crs s rs i) := by simp [crsL, hi2]
    have := reach_of hF i _ h0
    rw [hne] at this
    cases this
theorem okR_tail {rs : List Rd2} (h : OkR rs) : OkR rs.tail := ⟨by have := h.len; simp; omega, fun r hr => h.all r (List.mem_of_mem_tail hr), h.up.tail⟩
end Pm
namespace L04
open PySem L2 Fx
abbrev k_Answer : Nat := 0
abbrev k_Fits : Nat := 1
abbrev k_Clash : Nat := 2
abbrev k_Kept : Nat := 3
abbrev k_TripError : Nat := 4
abbrev k_BadSettings : Nat := 5
abbrev k_BadReadings : Nat := 6
abbrev cs_course : List Nat := [k_Fits]
abbrev cs_one : List Nat := [k_Clash]
abbrev cs_other : List Nat := [k_Clash]
def is_Answer : Ty → Option Bool := fun t => match t with | .c j => (match j with | 1 => some true | 2 => some true | _ => none) | _ => none
def is_Clash : Ty → Option Bool := fun t => match t with | .c j => (match j with | 1 => some false | 2 => some true | _ => none) | _ => none
def is_Fits : Ty → Option Bool := fun t => match t with | .c j => (match j with | 1 => some true | 2 => some false | _ => none) | _ => none
def is_Kept : Ty → Option Bool := fun t => match t with | .c j => (match j with | 1 => some false | 2 => some false | _ => none) | _ => none
/-! clash: 0 settings, 1 one, 2 other, 3 low, 4 high, 5 slack, 6 ticks, 7 more -/
noncomputable def m_clash : MS := (mSeq (mAsg (mVar 0) (gTp 3 (gCn (gN 3) (gCn (gN 4) (gCn (gN 5) gNl)))))
  (mSeq (mPar2 6 7 (mCons (mBin vSub (mBin vIx (mVar 2) (mC (.int 0))) (mBin vIx (mVar 1) (mC (.int 0)))) (mCons (mBin vSub (mBin vIx (mVar 2) (mC (.int 1))) (mBin vIx (mVar 1) (mC (.int 1)))) mNil)))
  (mRet (mOrV (mBin vLt (mBin vAdd (mVar 7) (mBin vMul (mC (.int 2)) (mVar 5))) (mBin vMul (mVar 3) (mVar 6))) (mBin vGt (mBin vSub (mVar 7) (mBin vMul (mC (.int 2)) (mVar 5))) (mBin vMul (mVar 4) (mVar 6)))))))
noncomputable def r_clash : List D → Sto → R D := fnOf 3 8 m_clash
noncomputable def c_clash : List D → Sto → R D := gcF r_clash
/-! clashes_of: 0 settings, 1 readings, 2 found, 3 place, 4 other, 5 at -/
noncomputable def lc_clashes_of_0 : ME := (mLc [5] (iRg1 (mCons (mVar 3) mNil)) (gN 5) (mTest (mCall c_clash (mCons (mVar 0) (mCons (mBin vIx (mVar 1) (mVar 5)) (mCons (mVar 4) mNil))))) (mTup (mCons (mVar 5) (mCons (mVar 3) mNil))))
noncomputable def fb_clashes_of_0 : MS := (mExp (mMtL mtExt (mVar 2) (mCons lc_clashes_of_0 mNil)))
noncomputable def fo_clashes_of_0 : MS := (mFor (iEn (mCons (mVar 1) mNil)) (gTp 2 (gCn (gN 3) (gCn (gN 4) gNl))) fb_clashes_of_0)
noncomputable def m_clashes_of : MS := (mSeq (mAsg (mLst mNil) (gN 2))
  (mSeq fo_clashes_of_0
  (mRet (mCall bSorted (mCons (mVar 2) mNil)))))
noncomputable def r_clashes_of : List D → Sto → R D := fnOf 2 6 m_clashes_of
noncomputable def c_clashes_of : List D → Sto → R D := gcF r_clashes_of
/-! course_of: 0 settings, 1 readings, 2 low, 3 high, 4 slack, 5 least, 6 tick, 7 here, 8 value, 9 ahead, 10 found, 11 back, 12 at, 13 ticks -/
noncomputable def fb_course_of_0 : MS := (mSeq (mAsg (mBin vSub (mBin vSub (mCall bLen (mCons (mVar 1) mNil)) (mC (.int 2))) (mVar 11)) (gN 12))
  (mSeq (mAsg (mBin vSub (mBin vIx (mBin vIx (mVar 1) (mBin vAdd (mVar 12) (mC (.int 1)))) (mC (.int 0))) (mBin vIx (mBin vIx (mVar 1) (mVar 12)) (mC (.int 0)))) (gN 13))
  (mExp (mMtL mtApp (mVar 10) (mCons (mCall bMax2 (mCons (mBin vIx (mVar 5) (mVar 12)) (mCons (mBin vSub (mBin vIx (mVar 10) (mUn vNeg (mC (.int 1)))) (mBin vMul (mVar 3) (mVar 13))) mNil))) mNil)))))
noncomputable def fo_course_of_0 : MS := (mFor (iRg1 (mCons (mBin vSub (mCall bLen (mCons (mVar 1) mNil)) (mC (.int 1))) mNil)) (gN 11) fb_course_of_0)
noncomputable def fb_course_of_1 : MS := (mSeq (mAsg (mIfE (mTest (mBin vIs (mVar 6) (mC .non))) (mBin vSub (mVar 8) (mVar 4)) (mCall bMax2 (mCons (mBin vSub (mVar 8) (mVar 4)) (mCons (mBin vAdd (mBin vIx (mVar 5) (mUn vNeg (mC (.int 1)))) (mBin vMul (mVar 2) (mBin vSub (mVar 7) (mVar 6)))) mNil)))) (gN 9))
  (mSeq (mExp (mMtL mtApp (mVar 5) (mCons (mVar 9) mNil)))
  (mAsg (mVar 7) (gN 6))))
noncomputable def fo_course_of_1 : MS := (mFor (iSeq (mVar 1)) (gTp 2 (gCn (gN 7) (gCn (gN 8) gNl))) fb_course_of_1)
noncomputable def m_course_of : MS := (mSeq (mAsg (mVar 0) (gTp 3 (gCn (gN 2) (gCn (gN 3) (gCn (gN 4) gNl)))))
  (mSeq (mPar2 5 6 (mCons (mLst mNil) (mCons (mC .non) mNil)))
  (mSeq fo_course_of_1
  (mSeq (mAsg (mSl (mVar 5) (oS (mUn vNeg (mC (.int 1)))) oN) (gN 10))
  (mSeq fo_course_of_0
  (mRet (mUn vRev (mVar 10))))))))
noncomputable def r_course_of : List D → Sto → R D := fnOf 2 14 m_course_of
noncomputable def c_course_of : List D → Sto → R D := gcF r_course_of
/-! fits: 0 settings, 1 readings, 2 course, 3 low, 4 high, 5 slack, 6 number, 7 reading, 8 at, 9 ticks, 10 more -/
noncomputable def fb_fits_0 : MS := (mSeq (mPar2 9 10 (mCons (mBin vSub (mBin vIx (mBin vIx (mVar 1) (mBin vAdd (mVar 8) (mC (.int 1)))) (mC (.int 0))) (mBin vIx (mBin vIx (mVar 1) (mVar 8)) (mC (.int 0)))) (mCons (mBin vSub (mBin vIx (mVar 2) (mBin vAdd (mVar 8) (mC (.int 1)))) (mBin vIx (mVar 2) (mVar 8))) mNil)))
  (mIf (mNot (mTest (mCh2 vLe vLe (mBin vMul (mVar 3) (mVar 9)) (mVar 10) (mBin vMul (mVar 4) (mVar 9))))) (mRet (mC (.bl false))) mSkip))
noncomputable def fo_fits_0 : MS := (mFor (iRg1 (mCons (mBin vSub (mCall bLen (mCons (mVar 2) mNil)) (mC (.int 1))) mNil)) (gN 8) fb_fits_0)
noncomputable def lc_fits_0 : ME := (mLc [6, 7] (iZp (mCons (mVar 2) (mCons (mVar 1) mNil))) (gTp 2 (gCn (gN 6) (gCn (gN 7) gNl))) mYes (mBin vLe (mCall bAbs (mCons (mBin vSub (mVar 6) (mBin vIx (mVar 7) (mC (.int 1)))) mNil)) (mVar 5)))
noncomputable def m_fits : MS := (mSeq (mAsg (mVar 0) (gTp 3 (gCn (gN 3) (gCn (gN 4) (gCn (gN 5) gNl)))))
  (mSeq (mIf (mTest (mBin vNe (mCall bLen (mCons (mVar 2) mNil)) (mCall bLen (mCons (mVar 1) mNil)))) (mRet (mC (.bl false))) mSkip)
  (mSeq (mIf (mNot (mTest (mCall bAll (mCons lc_fits_0 mNil)))) (mRet (mC (.bl false))) mSkip)
  (mSeq fo_fits_0
  (mRet (mC (.bl true)))))))
noncomputable def r_fits : List D → Sto → R D := fnOf 3 11 m_fits
noncomputable def c_fits : List D → Sto → R D := gcF r_fits
/-! Fits.__init__: 0 self, 1 course -/
noncomputable def m_Fits_init : MS := (mSetF cs_course "course" (mVar 0) (mCall bList (mCons (mVar 1) mNil)))
noncomputable def r_Fits_init : List D → Sto → R D := fnOf 2 2 m_Fits_init
noncomputable def c_Fits_init : List D → Sto → R D := gcF r_Fits_init
/-! Fits.shows: 0 self, 1 settings, 2 readings -/
noncomputable def m_Fits_shows : MS := (mRet (mCall c_fits (mCons (mVar 1) (mCons (mVar 2) (mCons (mFld cs_course "course" (mVar 0)) mNil)))))
noncomputable def r_Fits_shows : List D → Sto → R D := fnOf 3 3 m_Fits_shows
noncomputable def c_Fits_shows : List D → Sto → R D := gcF r_Fits_shows
/-! Clash.__init__: 0 self, 1 one, 2 other -/
noncomputable def m_Clash_init : MS := (mSeq (mSetF cs_one "one" (mVar 0) (mVar 1))
  (mSetF cs_other "other" (mVar 0) (mVar 2)))
noncomputable def r_Clash_init : List D → Sto → R D := fnOf 3 3 m_Clash_init
noncomputable def c_Clash_init : List D → Sto → R D := gcF r_Clash_init
/-! Clash.shows: 0 self, 1 settings, 2 readings -/
noncomputable def m_Clash_shows : MS := (mSeq (mIf (mNot (mCh3T vLe vLt vLt (mC (.int 0)) (mFld cs_one "one" (mVar 0)) (mFld cs_other "other" (mVar 0)) (mCall bLen (mCons (mVar 2) mNil)))) (mRet (mC (.bl false))) mSkip)
  (mRet (mCall c_clash (mCons (mVar 1) (mCons (mBin vIx (mVar 2) (mFld cs_one "one" (mVar 0))) (mCons (mBin vIx (mVar 2) (mFld cs_other "other" (mVar 0))) mNil))))))
noncomputable def r_Clash_shows : List D → Sto → R D := fnOf 3 3 m_Clash_shows
noncomputable def c_Clash_shows : List D → Sto → R D := gcF r_Clash_shows
/-! is_whole: 0 thing -/
noncomputable def m_is_whole : MS := (mRet (mAndV (mIsi (resB "int") (mVar 0)) (mNotV (mIsi (resB "bool") (mVar 0)))))
noncomputable def r_is_whole : List D → Sto → R D := fnOf 1 1 m_is_whole
noncomputable def c_is_whole : List D → Sto → R D := gcF r_is_whole
/-! is_between: 0 thing, 1 least, 2 most -/
noncomputable def m_is_between : MS := (mRet (mAndV (mCall c_is_whole (mCons (mVar 0) mNil)) (mCh2 vLe vLe (mVar 1) (mVar 0) (mVar 2))))
noncomputable def r_is_between : List D → Sto → R D := fnOf 3 3 m_is_between
noncomputable def c_is_between : List D → Sto → R D := gcF r_is_between
/-! check_settings: 0 settings -/
noncomputable def m_check_settings : MS := (mSeq (mIf (mOr (mNot (mTest (mIsi (resB "tuple") (mVar 0)))) (mOr (mTest (mBin vNe (mCall bLen (mCons (mVar 0) mNil)) (mC (.int 3)))) (mNot (mTest (mCall c_is_between (mCons (mBin vIx (mVar 0) (mC (.int 0))) (mCons (mC (.int 0)) (mCons (mC (.int 9)) mNil)))))))) mNever mSkip)
  (mIf (mOr (mNot (mTest (mCall c_is_between (mCons (mBin vIx (mVar 0) (mC (.int 1))) (mCons (mBin vIx (mVar 0) (mC (.int 0))) (mCons (mC (.int 9)) mNil)))))) (mNot (mTest (mCall c_is_between (mCons (mBin vIx (mVar 0) (mC (.int 2))) (mCons (mC (.int 0)) (mCons (mC (.int 5)) mNil))))))) mNever mSkip))
noncomputable def r_check_settings : List D → Sto → R D := fnOf 1 1 m_check_settings
noncomputable def c_check_settings : List D → Sto → R D := gcF r_check_settings
/-! is_reading: 0 thing -/
noncomputable def m_is_reading : MS := (mSeq (mIf (mOr (mNot (mTest (mIsi (resB "tuple") (mVar 0)))) (mTest (mBin vNe (mCall bLen (mCons (mVar 0) mNil)) (mC (.int 2))))) (mRet (mC (.bl false))) mSkip)
  (mRet (mAndV (mCall c_is_between (mCons (mBin vIx (mVar 0) (mC (.int 0))) (mCons (mC (.int 0)) (mCons (mC (.int 60)) mNil)))) (mCall c_is_between (mCons (mBin vIx (mVar 0) (mC (.int 1))) (mCons (mC (.int 0)) (mCons (mC (.int 600)) mNil)))))))
noncomputable def r_is_reading : List D → Sto → R D := fnOf 1 1 m_is_reading
noncomputable def c_is_reading : List D → Sto → R D := gcF r_is_reading
/-! check_readings: 0 settings, 1 readings, 2 reading, 3 one, 4 other -/
noncomputable def lc_check_readings_0 : ME := (mLc [3, 4] (iZp (mCons (mVar 1) (mCons (mSl (mVar 1) (oS (mC (.int 1))) oN) mNil))) (gTp 2 (gCn (gN 3) (gCn (gN 4) gNl))) mYes (mBin vGe (mBin vIx (mVar 3) (mC (.int 0))) (mBin vIx (mVar 4) (mC (.int 0)))))
noncomputable def lc_check_readings_1 : ME := (mLc [2] (iSeq (mVar 1)) (gN 2) mYes (mCall c_is_reading (mCons (mVar 2) mNil)))
noncomputable def m_check_readings : MS := (mSeq (mExp (mCall c_check_settings (mCons (mVar 0) mNil)))
  (mSeq (mIf (mOr (mNot (mTest (mIsi (resB "list") (mVar 1)))) (mTest (mBin vGt (mCall bLen (mCons (mVar 1) mNil)) (mC (.int 8))))) mNever mSkip)
  (mSeq (mIf (mNot (mTest (mCall bAll (mCons lc_check_readings_1 mNil)))) mNever mSkip)
  (mIf (mTest (mCall bAny (mCons lc_check_readings_0 mNil))) mNever mSkip))))
noncomputable def r_check_readings : List D → Sto → R D := fnOf 2 5 m_check_readings
noncomputable def c_check_readings : List D → Sto → R D := gcF r_check_readings
/-! judged: 0 settings, 1 readings, 2 clashes -/
noncomputable def m_judged : MS := (mSeq (mExp (mCall c_check_readings (mCons (mVar 0) (mCons (mVar 1) mNil))))
  (mSeq (mAsg (mCall c_clashes_of (mCons (mVar 0) (mCons (mVar 1) mNil))) (gN 2))
  (mSeq (mIf (mTest (mBin vNe (mVar 2) (mLst mNil))) (mRet (mMake k_Clash r_Clash_init (mCons (mBin vIx (mBin vIx (mVar 2) (mC (.int 0))) (mC (.int 0))) (mCons (mBin vIx (mBin vIx (mVar 2) (mC (.int 0))) (mC (.int 1))) mNil)))) mSkip)
  (mRet (mMake k_Fits r_Fits_init (mCons (mCall c_course_of (mCons (mVar 0) (mCons (mVar 1) mNil))) mNil))))))
noncomputable def r_judged : List D → Sto → R D := fnOf 2 3 m_judged
noncomputable def c_judged : List D → Sto → R D := gcF r_judged
/-! _law_number: 0 _law_cell, 1 _law_at, 2 _law_whole_here, 3 _law_mixed, 4 _law_more -/
noncomputable def m__law_number : MS := (mSeq (mIf (mTest (mBin vGe (mVar 0) (mBin vPow (mC (.int 10)) (mC (.int 18))))) (mRet (mVar 0)) mSkip)
  (mSeq (mAsg (mBin vMod (mBin vAdd (mBin vMul (mBin vAdd (mVar 0) (mBin vMul (mC (.int 977)) (mVar 1))) (mC (.int 48271))) (mVar 2)) (mC (.int 2147483647))) (gN 3))
  (mSeq (mAsg (mBin vMul (mBin vMul (mVar 3) (mBin vAdd (mBin vAdd (mVar 3) (mBin vMul (mC (.int 31)) (mVar 1))) (mC (.int 7)))) (mBin vAdd (mBin vAdd (mVar 3) (mVar 0)) (mC (.int 5)))) (gN 4))
  (mRet (mBin vDiv (mBin vMul (mVar 4) (mBin vAdd (mVar 4) (mC (.int 48271)))) (mC (.int 1009)))))))
noncomputable def r__law_number : List D → Sto → R D := fnOf 3 5 m__law_number
noncomputable def c__law_number : List D → Sto → R D := gcF r__law_number
/-! _law_whole: 0 _law_found -/
noncomputable def m__law_whole : MS := (mRet (mAndV (mIsi (resB "int") (mVar 0)) (mNotV (mIsi (resB "bool") (mVar 0)))))
noncomputable def r__law_whole : List D → Sto → R D := fnOf 1 1 m__law_whole
noncomputable def c__law_whole : List D → Sto → R D := gcF r__law_whole
/-! _law_says: 0 _law_said, 1 _law_due_here -/
noncomputable def m__law_says : MS := (mRet (mAndV (mIsi (resB "bool") (mVar 0)) (mBin vEq (mVar 0) (mVar 1))))
noncomputable def r__law_says : List D → Sto → R D := fnOf 2 2 m__law_says
noncomputable def c__law_says : List D → Sto → R D := gcF r__law_says
/-! _law_settings: 0 _law_number_here, 1 _law_low, 2 _law_high -/
noncomputable def m__law_settings : MS := (mSeq (mAsg (mBin vMod (mVar 0) (mC (.int 10))) (gN 1))
  (mSeq (mAsg (mBin vAdd (mVar 1) (mBin vMod (mBin vDiv (mVar 0) (mC (.int 10))) (mBin vSub (mC (.int 10)) (mVar 1)))) (gN 2))
  (mRet (mTup (mCons (mBin vIx (mTup (mCons (mVar 1) (mCons (mVar 2) (mCons (mVar 1) (mCons (mVar 2) mNil))))) (mBin vMod (mBin vDiv (mVar 0) (mC (.int 900))) (mC (.int 4)))) (mCons (mVar 2) (mCons (mBin vMod (mBin vDiv (mVar 0) (mC (.int 100))) (mC (.int 6))) mNil)))))))
noncomputable def r__law_settings : List D → Sto → R D := fnOf 1 3 m__law_settings
noncomputable def c__law_settings : List D → Sto → R D := gcF r__law_settings
/-! _law_readings: 0 _law_script, 1 _law_by, 2 _law_settings_here, 3 _law_cells, 4 _law_whole_here, 5 _law_found, 6 _law_tick, 7 _law_value, 8 _law_many, 9 _law_kind, 10 _law_low, 11 _law_high, 12 _law_slack, 13 _law_at, 14 _law_number_here, 15 _law_ticks, 16 _law_rest, 17 _law_shown -/
noncomputable def fb__law_readings_0 : MS := (mSeq (mAsg (mBin vDiv (mCall c__law_number (mCons (mBin vAdd (mBin vIx (mVar 3) (mBin vMod (mBin vAdd (mVar 13) (mVar 1)) (mCall bLen (mCons (mVar 3) mNil)))) (mVar 13)) (mCons (mBin vAdd (mVar 13) (mVar 1)) (mCons (mVar 4) mNil)))) (mC (.int 3))) (gN 14))
  (mSeq (mAsg (mBin vAdd (mC (.int 1)) (mBin vMod (mVar 14) (mBin vIx (mTup (mCons (mC (.int 6)) (mCons (mC (.int 1)) (mCons (mC (.int 7)) (mCons (mC (.int 53)) mNil))))) (mBin vMod (mBin vDiv (mVar 14) (mC (.int 53))) (mC (.int 4)))))) (gN 15))
  (mSeq (mIf (mTest (mBin vGt (mBin vSub (mBin vAdd (mBin vAdd (mVar 6) (mVar 15)) (mVar 8)) (mVar 13)) (mC (.int 61)))) (mAsg (mC (.int 1)) (gN 15)) mSkip)
  (mSeq (mPar2 6 16 (mCons (mBin vAdd (mVar 6) (mVar 15)) (mCons (mBin vDiv (mVar 14) (mC (.int 212))) mNil)))
  (mSeq (mAsg (mIfE (mTest (mBin vGt (mVar 13) (mC (.int 0)))) (mBin vAdd (mBin vAdd (mVar 7) (mBin vMul (mVar 10) (mVar 15))) (mBin vMod (mVar 16) (mBin vAdd (mBin vMul (mBin vSub (mVar 11) (mVar 10)) (mVar 15)) (mC (.int 1))))) (mBin vMod (mVar 16) (mC (.int 60)))) (gN 7))
  (mSeq (mAsg (mBin vSub (mBin vAdd (mVar 7) (mBin vMod (mBin vDiv (mVar 16) (mC (.int 600))) (mBin vAdd (mBin vMul (mC (.int 2)) (mVar 12)) (mC (.int 1))))) (mVar 12)) (gN 17))
  (mSeq (mIf (mOr (mTest (mBin vEq (mVar 9) (mC (.int 0)))) (mAnd (mTest (mBin vGt (mVar 9) (mC (.int 1)))) (mTest (mBin vEq (mBin vMod (mBin vDiv (mVar 16) (mC (.int 6600))) (mC (.int 4))) (mC (.int 0)))))) (mAsg (mBin vMod (mBin vDiv (mVar 16) (mC (.int 26400))) (mBin vIx (mTup (mCons (mC (.int 601)) (mCons (mC (.int 700)) (mCons (mC (.int 60)) mNil)))) (mBin vMod (mVar 9) (mC (.int 3))))) (gN 17)) mSkip)
  (mExp (mMtL mtApp (mVar 5) (mCons (mTup (mCons (mVar 6) (mCons (mCall bMin2 (mCons (mC (.int 600)) (mCons (mCall bMax2 (mCons (mC (.int 0)) (mCons (mVar 17) mNil))) mNil))) mNil))) mNil))))))))))
noncomputable def fo__law_readings_0 : MS := (mFor (iRg1 (mCons (mVar 8) mNil)) (gN 13) fb__law_readings_0)
noncomputable def m__law_readings : MS := (mSeq (mAsg (mIfE (mTest (mBin vNe (mVar 0) (mLst mNil))) (mSl (mVar 0) oN (oS (mC (.int 63)))) (mLst (mCons (mC (.int 5)) mNil))) (gN 3))
  (mSeq (mAsg (mTup (mCons (mBin vAdd (mCall bSum (mCons (mVar 3) mNil)) (mVar 1)) (mCons (mLst mNil) (mCons (mUn vNeg (mC (.int 1))) (mCons (mC (.int 0)) mNil))))) (gTp 4 (gCn (gN 4) (gCn (gN 5) (gCn (gN 6) (gCn (gN 7) gNl))))))
  (mSeq (mPar2 8 9 (mCons (mBin vMod (mBin vDiv (mCall c__law_number (mCons (mVar 4) (mCons (mBin vAdd (mVar 1) (mC (.int 1))) (mCons (mC (.int 3)) mNil)))) (mC (.int 43200))) (mC (.int 9))) (mCons (mBin vMod (mBin vDiv (mCall c__law_number (mCons (mVar 4) (mCons (mBin vAdd (mVar 1) (mC (.int 2))) (mCons (mC (.int 3)) mNil)))) (mC (.int 10800))) (mC (.int 4))) mNil)))
  (mSeq (mAsg (mVar 2) (gTp 3 (gCn (gN 10) (gCn (gN 11) (gCn (gN 12) gNl)))))
  (mSeq fo__law_readings_0
  (mRet (mVar 5)))))))
noncomputable def r__law_readings : List D → Sto → R D := fnOf 3 18 m__law_readings
noncomputable def c__law_readings : List D → Sto → R D := gcF r__law_readings
/-! _law_clash: 0 _law_settings_here, 1 _law_one, 2 _law_other, 3 _law_low, 4 _law_high, 5 _law_slack, 6 _law_ticks, 7 _law_begin -/
noncomputable def fb__law_clash_0 : MS := (mIf (mAnd (mTest (mBin vLe (mBin vAdd (mVar 7) (mBin vMul (mVar 3) (mVar 6))) (mBin vAdd (mBin vIx (mVar 2) (mC (.int 1))) (mVar 5)))) (mTest (mBin vGe (mBin vAdd (mVar 7) (mBin vMul (mVar 4) (mVar 6))) (mBin vSub (mBin vIx (mVar 2) (mC (.int 1))) (mVar 5))))) (mRet (mC (.bl false))) mSkip)
noncomputable def fo__law_clash_0 : MS := (mFor (iRg2 (mCons (mBin vSub (mBin vIx (mVar 1) (mC (.int 1))) (mVar 5)) (mCons (mBin vAdd (mBin vAdd (mBin vIx (mVar 1) (mC (.int 1))) (mVar 5)) (mC (.int 1))) mNil))) (gN 7) fb__law_clash_0)
noncomputable def m__law_clash : MS := (mSeq (mAsg (mVar 0) (gTp 3 (gCn (gN 3) (gCn (gN 4) (gCn (gN 5) gNl)))))
  (mSeq (mAsg (mBin vSub (mBin vIx (mVar 2) (mC (.int 0))) (mBin vIx (mVar 1) (mC (.int 0)))) (gN 6))
  (mSeq fo__law_clash_0
  (mRet (mC (.bl true))))))
noncomputable def r__law_clash : List D → Sto → R D := fnOf 3 8 m__law_clash
noncomputable def c__law_clash : List D → Sto → R D := gcF r__law_clash
/-! _law_fits: 0 _law_settings_here, 1 _law_readings_here, 2 _law_course, 3 _law_low, 4 _law_high, 5 _law_slack, 6 _law_at, 7 _law_tick, 8 _law_value, 9 _law_ticks, 10 _law_more -/
noncomputable def fb__law_fits_0 : MS := (mSeq (mIf (mNot (mTest (mCh2 vLe vLe (mBin vSub (mVar 8) (mVar 5)) (mBin vIx (mVar 2) (mVar 6)) (mBin vAdd (mVar 8) (mVar 5))))) (mRet (mC (.bl false))) mSkip)
  (mIf (mTest (mBin vGt (mVar 6) (mC (.int 0)))) (mSeq (mAsg (mBin vSub (mVar 7) (mBin vIx (mBin vIx (mVar 1) (mBin vSub (mVar 6) (mC (.int 1)))) (mC (.int 0)))) (gN 9))
  (mSeq (mAsg (mBin vSub (mBin vIx (mVar 2) (mVar 6)) (mBin vIx (mVar 2) (mBin vSub (mVar 6) (mC (.int 1))))) (gN 10))
  (mIf (mNot (mTest (mCh2 vLe vLe (mBin vMul (mVar 3) (mVar 9)) (mVar 10) (mBin vMul (mVar 4) (mVar 9))))) (mRet (mC (.bl false))) mSkip))) mSkip))
noncomputable def fo__law_fits_0 : MS := (mFor (iEn (mCons (mVar 1) mNil)) (gTp 2 (gCn (gN 6) (gCn (gTp 2 (gCn (gN 7) (gCn (gN 8) gNl))) gNl))) fb__law_fits_0)
noncomputable def m__law_fits : MS := (mSeq (mAsg (mVar 0) (gTp 3 (gCn (gN 3) (gCn (gN 4) (gCn (gN 5) gNl)))))
  (mSeq (mIf (mTest (mBin vNe (mCall bLen (mCons (mVar 2) mNil)) (mCall bLen (mCons (mVar 1) mNil)))) (mRet (mC (.bl false))) mSkip)
  (mSeq fo__law_fits_0
  (mRet (mC (.bl true))))))
noncomputable def r__law_fits : List D → Sto → R D := fnOf 3 11 m__law_fits
noncomputable def c__law_fits : List D → Sto → R D := gcF r__law_fits
/-! _law_reached: 0 _law_settings_here, 1 _law_readings_here, 2 _law_low, 3 _law_high, 4 _law_slack, 5 _law_found, 6 _law_at, 7 _law_tick, 8 _law_value, 9 _law_here, 10 _law_ticks, 11 _law_last, 12 _law_one, 13 _law_other -/
noncomputable def lc__law_reached_0 : ME := (mLc [13] (iSeq (mVar 11)) (gN 13) mYes (mCh2 vLe vLe (mBin vMul (mVar 2) (mVar 10)) (mBin vSub (mVar 12) (mVar 13)) (mBin vMul (mVar 3) (mVar 10))))
noncomputable def lc__law_reached_1 : ME := (mLc [12] (iSeq (mVar 9)) (gN 12) (mTest (mCall bAny (mCons lc__law_reached_0 mNil))) (mVar 12))
noncomputable def fb__law_reached_0 : MS := (mSeq (mAsg (mBin vLrg (mBin vSub (mVar 8) (mVar 4)) (mBin vAdd (mBin vAdd (mVar 8) (mVar 4)) (mC (.int 1)))) (gN 9))
  (mSeq (mIf (mTest (mBin vGt (mVar 6) (mC (.int 0)))) (mSeq (mAsg (mTup (mCons (mBin vSub (mVar 7) (mBin vIx (mBin vIx (mVar 1) (mBin vSub (mVar 6) (mC (.int 1)))) (mC (.int 0)))) (mCons (mBin vIx (mVar 5) (mUn vNeg (mC (.int 1)))) mNil))) (gTp 2 (gCn (gN 10) (gCn (gN 11) gNl))))
  (mAsg lc__law_reached_1 (gN 9))) mSkip)
  (mExp (mMtL mtApp (mVar 5) (mCons (mVar 9) mNil)))))
noncomputable def fo__law_reached_0 : MS := (mFor (iEn (mCons (mVar 1) mNil)) (gTp 2 (gCn (gN 6) (gCn (gTp 2 (gCn (gN 7) (gCn (gN 8) gNl))) gNl))) fb__law_reached_0)
noncomputable def m__law_reached : MS := (mSeq (mAsg (mVar 0) (gTp 3 (gCn (gN 2) (gCn (gN 3) (gCn (gN 4) gNl)))))
  (mSeq (mAsg (mLst mNil) (gN 5))
  (mSeq fo__law_reached_0
  (mRet (mVar 5)))))
noncomputable def r__law_reached : List D → Sto → R D := fnOf 2 14 m__law_reached
noncomputable def c__law_reached : List D → Sto → R D := gcF r__law_reached
/-! _law_due: 0 _law_settings_here, 1 _law_readings_here, 2 _law_found -/
noncomputable def m__law_due : MS := (mSeq (mIf (mTest (mIsi is_Fits (mVar 2))) (mRet (mCall c__law_fits (mCons (mVar 0) (mCons (mVar 1) (mCons (mFld cs_course "course" (mVar 2)) mNil))))) mSkip)
  (mSeq (mIf (mNot (mCh3T vLe vLt vLt (mC (.int 0)) (mFld cs_one "one" (mVar 2)) (mFld cs_other "other" (mVar 2)) (mCall bLen (mCons (mVar 1) mNil)))) (mRet (mC (.bl false))) mSkip)
  (mRet (mCall c__law_clash (mCons (mVar 0) (mCons (mBin vIx (mVar 1) (mFld cs_one "one" (mVar 2))) (mCons (mBin vIx (mVar 1) (mFld cs_other "other" (mVar 2))) mNil)))))))
noncomputable def r__law_due : List D → Sto → R D := fnOf 3 3 m__law_due
noncomputable def c__law_due : List D → Sto → R D := gcF r__law_due
/-! _law_right: 0 _law_settings_here, 1 _law_readings_here, 2 _law_others, 3 _law_handed, 4 _law_reached_here, 5 _law_good, 6 _law_again, 7 _law_found, 8 _law_one, 9 _law_some, 10 _law_number_here -/
noncomputable def lc__law_right_0 : ME := (mLc [10] (iSeq (mFld cs_course "course" (mVar 7))) (gN 10) mYes (mCall c__law_whole (mCons (mVar 10) mNil)))
noncomputable def fb__law_right_0 : MS := (mIf (mNot (mTest (mCall c__law_says (mCons (mMeth [(k_Fits, c_Fits_shows), (k_Clash, c_Clash_shows)] "shows" (mVar 7) (mCons (mVar 8) (mCons (mVar 9) mNil))) (mCons (mCall c__law_due (mCons (mVar 8) (mCons (mVar 9) (mCons (mVar 7) mNil)))) mNil))))) (mRet (mC (.bl false))) mSkip)
noncomputable def fo__law_right_0 : MS := (mFor (iSeq (mVar 2)) (gTp 2 (gCn (gN 8) (gCn (gN 9) gNl))) fb__law_right_0)
noncomputable def fb__law_right_1 : MS := (mSeq (mAsg (mCall c_judged (mCons (mVar 0) (mCons (mVar 3) mNil))) (gN 7))
  (mSeq (mIf (mOr (mNot (mTest (mIsi is_Answer (mVar 7)))) (mTest (mBin vNe (mLst (mCons (mIsi is_Fits (mVar 7)) (mCons (mIsi is_Clash (mVar 7)) mNil))) (mLst (mCons (mVar 5) (mCons (mNotV (mVar 5)) mNil)))))) (mRet (mC (.bl false))) mSkip)
  (mSeq (mIf (mOr (mTest (mIsi is_Kept (mVar 7))) (mOr (mTest (mBin vNe (mVar 3) (mVar 1))) (mNot (mTest (mCall c__law_due (mCons (mVar 0) (mCons (mVar 1) (mCons (mVar 7) mNil)))))))) (mRet (mC (.bl false))) mSkip)
  (mSeq (mIf (mTest (mBin vIsNot (mMeth [(k_Fits, c_Fits_shows), (k_Clash, c_Clash_shows)] "shows" (mVar 7) (mCons (mVar 0) (mCons (mVar 1) mNil))) (mC (.bl true)))) (mRet (mC (.bl false))) mSkip)
  (mSeq fo__law_right_0
  (mIf (mTest (mVar 5)) (mSeq (mIf (mOr (mNot (mTest (mIsi (resB "list") (mFld cs_course "course" (mVar 7))))) (mNot (mTest (mCall bAll (mCons lc__law_right_0 mNil))))) (mRet (mC (.bl false))) mSkip)
  (mSeq (mExp (mMtL mtApp (mFld cs_course "course" (mVar 7)) (mCons (mC (.int 0)) mNil)))
  (mIf (mTest (mBin vIsNot (mMeth [(k_Fits, c_Fits_shows), (k_Clash, c_Clash_shows)] "shows" (mVar 7) (mCons (mVar 0) (mCons (mVar 1) mNil))) (mC (.bl false)))) (mRet (mC (.bl false))) mSkip))) (mIf (mOr (mNot (mTest (mCall c__law_whole (mCons (mFld cs_one "one" (mVar 7)) mNil)))) (mNot (mTest (mCall c__law_whole (mCons (mFld cs_other "other" (mVar 7)) mNil))))) (mRet (mC (.bl false))) mSkip)))))))
noncomputable def fo__law_right_1 : MS := (mFor (iRg1 (mCons (mC (.int 2)) mNil)) (gN 6) fb__law_right_1)
noncomputable def m__law_right : MS := (mSeq (mPar2 3 4 (mCons (mCall bList (mCons (mVar 1) mNil)) (mCons (mCall c__law_reached (mCons (mVar 0) (mCons (mVar 1) mNil))) mNil)))
  (mSeq (mAsg (mOrV (mBin vEq (mVar 1) (mLst mNil)) (mBin vNe (mBin vIx (mVar 4) (mUn vNeg (mC (.int 1)))) (mLst mNil))) (gN 5))
  (mSeq fo__law_right_1
  (mRet (mC (.bl true))))))
noncomputable def r__law_right : List D → Sto → R D := fnOf 3 11 m__law_right
noncomputable def c__law_right : List D → Sto → R D := gcF r__law_right
/-! law: 0 _law_script, 1 _law_cells, 2 _law_whole_here, 3 _law_by, 4 _law_settings_here, 5 _law_readings_here, 6 _law_other, 7 _law_others, 8 _law_found, 9 _law_far, 10 _law_ends, 11 _law_one -/
noncomputable def fb_law_0 : MS := (mSeq (mAsg (mCall c__law_settings (mCons (mBin vDiv (mCall c__law_number (mCons (mVar 2) (mCons (mBin vAdd (mVar 3) (mC (.int 4))) (mCons (mVar 3) mNil)))) (mC (.int 3))) mNil)) (gN 4))
  (mSeq (mAsg (mCall c__law_readings (mCons (mVar 0) (mCons (mVar 3) (mCons (mVar 4) mNil)))) (gN 5))
  (mSeq (mAsg (mCall c__law_settings (mCons (mBin vDiv (mCall c__law_number (mCons (mVar 2) (mCons (mBin vAdd (mVar 3) (mC (.int 7))) (mCons (mVar 3) mNil)))) (mC (.int 5))) mNil)) (gN 6))
  (mSeq (mAsg (mLst (mCons (mTup (mCons (mVar 6) (mCons (mVar 5) mNil))) (mCons (mTup (mCons (mVar 4) (mCons (mSl (mVar 5) (oS (mC (.int 1))) oN) mNil))) (mCons (mTup (mCons (mVar 4) (mCons (mCall c__law_readings (mCons (mVar 0) (mCons (mBin vAdd (mVar 3) (mC (.int 3))) (mCons (mVar 4) mNil)))) mNil))) mNil)))) (gN 7))
  (mIf (mNot (mTest (mCall c__law_right (mCons (mVar 4) (mCons (mVar 5) (mCons (mVar 7) mNil)))))) (mRet (mC (.bl false))) mSkip)))))
noncomputable def fo_law_0 : MS := (mFor (iRg1 (mCons (mC (.int 3)) mNil)) (gN 3) fb_law_0)
noncomputable def m_law : MS := (mSeq (mAsg (mIfE (mTest (mBin vNe (mVar 0) (mLst mNil))) (mSl (mVar 0) oN (oS (mC (.int 63)))) (mLst (mCons (mC (.int 5)) mNil))) (gN 1))
  (mSeq (mAsg (mCall bSum (mCons (mVar 1) mNil)) (gN 2))
  (mSeq fo_law_0
  (mSeq (mAsg (mCall c_judged (mCons (mTup (mCons (mC (.int 1)) (mCons (mC (.int 2)) (mCons (mC (.int 0)) mNil)))) (mCons (mLst (mCons (mTup (mCons (mC (.int 0)) (mCons (mC (.int 0)) mNil))) (mCons (mTup (mCons (mC (.int 2)) (mCons (mC (.int 4)) mNil))) (mCons (mTup (mCons (mC (.int 4)) (mCons (mC (.int 5)) mNil))) mNil)))) mNil))) (gN 8))
  (mSeq (mAsg (mCall c_judged (mCons (mTup (mCons (mC (.int 0)) (mCons (mC (.int 9)) (mCons (mC (.int 0)) mNil)))) (mCons (mLst (mCons (mTup (mCons (mC (.int 0)) (mCons (mC (.int 9)) mNil))) (mCons (mTup (mCons (mC (.int 1)) (mCons (mC (.int 9)) mNil))) (mCons (mTup (mCons (mC (.int 60)) (mCons (mC (.int 8)) mNil))) mNil)))) mNil))) (gN 9))
  (mSeq (mIf (mOr (mNot (mTest (mIsi is_Clash (mVar 8)))) (mOr (mNot (mTest (mIsi is_Clash (mVar 9)))) (mTest (mBin vNe (mFld cs_other "other" (mVar 9)) (mC (.int 2)))))) (mRet (mC (.bl false))) mSkip)
  (mSeq (mAsg (mCall c_judged (mCons (mTup (mCons (mC (.int 0)) (mCons (mC (.int 0)) (mCons (mC (.int 1)) mNil)))) (mCons (mLst (mCons (mTup (mCons (mC (.int 0)) (mCons (mC (.int 0)) mNil))) (mCons (mTup (mCons (mC (.int 1)) (mCons (mC (.int 2)) mNil))) (mCons (mTup (mCons (mC (.int 2)) (mCons (mC (.int 4)) mNil))) mNil)))) mNil))) (gN 10))
  (mSeq (mIf (mOr (mNot (mTest (mIsi is_Clash (mVar 10)))) (mTest (mBin vNe (mTup (mCons (mFld cs_one "one" (mVar 10)) (mCons (mFld cs_other "other" (mVar 10)) mNil))) (mTup (mCons (mC (.int 0)) (mCons (mC (.int 2)) mNil)))))) (mRet (mC (.bl false))) mSkip)
  (mSeq (mAsg (mCall c_judged (mCons (mTup (mCons (mC (.int 3)) (mCons (mC (.int 3)) (mCons (mC (.int 0)) mNil)))) (mCons (mLst (mCons (mTup (mCons (mC (.int 0)) (mCons (mC (.int 0)) mNil))) (mCons (mTup (mCons (mC (.int 60)) (mCons (mC (.int 180)) mNil))) mNil))) mNil))) (gN 11))
  (mRet (mAndV (mBin vEq (mTup (mCons (mFld cs_one "one" (mVar 8)) (mCons (mFld cs_other "other" (mVar 8)) mNil))) (mTup (mCons (mC (.int 1)) (mCons (mC (.int 2)) mNil)))) (mAndV (mIsi is_Fits (mVar 11)) (mBin vEq (mFld cs_course "course" (mVar 11)) (mLst (mCons (mC (.int 0)) (mCons (mC (.int 180)) mNil))))))))))))))))
noncomputable def r_law : List D → Sto → R D := fnOf 1 12 m_law
noncomputable def c_law : List D → Sto → R D := gcF r_law
end L04
namespace L04
open PySem L2 Fx
def topS (i : Nat) : Stmt := PySem.Challenge.pw_tripgauge_k04_whole_judged.main.body.getD i (.Pass ⟨0, 0, 0, 0⟩)
structure Txt (mg : Str → Option Value) (G : Cc) : Prop where
  b_abs : mg "abs" = none
  b_all : mg "all" = none
  b_any : mg "any" = none
  b_bool : mg "bool" = none
  b_enumerate : mg "enumerate" = none
  b_int : mg "int" = none
  b_isinstance : mg "isinstance" = none
  b_len : mg "len" = none
  b_list : mg "list" = none
  b_max : mg "max" = none
  b_min : mg "min" = none
  b_range : mg "range" = none
  b_sorted : mg "sorted" = none
  b_sum : mg "sum" = none
  b_tuple : mg "tuple" = none
  b_zip : mg "zip" = none
  g_LATEST : ∃ t, mg "LATEST" = some (.int 60 t)
  g_MOST_RATE : ∃ t, mg "MOST_RATE" = some (.int 9 t)
  g_MOST_READINGS : ∃ t, mg "MOST_READINGS" = some (.int 8 t)
  g_MOST_SLACK : ∃ t, mg "MOST_SLACK" = some (.int 5 t)
  g_MOST_VALUE : ∃ t, mg "MOST_VALUE" = some (.int 600 t)
  fl_course : FldOk G.K G cs_course "course"
  fl_one : FldOk G.K G cs_one "one"
  fl_other : FldOk G.K G cs_other "other"
  m_Answer : mg "Answer" = some (.ref (G.ca k_Answer))
  is_Answer : IsiOk G.K G (.ref (G.ca k_Answer)) is_Answer
  m_Clash : mg "Clash" = some (.ref (G.ca k_Clash))
  is_Clash : IsiOk G.K G (.ref (G.ca k_Clash)) is_Clash
  m_Fits : mg "Fits" = some (.ref (G.ca k_Fits))
  is_Fits : IsiOk G.K G (.ref (G.ca k_Fits)) is_Fits
  m_Kept : mg "Kept" = some (.ref (G.ca k_Kept))
  is_Kept : IsiOk G.K G (.ref (G.ca k_Kept)) is_Kept
section
variable {P : Program} {w : World} {mg : Str → Option Value} {base : Heap} {G : Cc}
abbrev s_clash : Stmt := topS 1
abbrev N_clash : List Str := ["settings", "one", "other", "low", "high", "slack", "ticks", "more"]
theorem sc_clash : FnScope N_clash ["settings", "one", "other"] (defScope s_clash) := ⟨rfl, rfl, rfl, by decide +kernel, rfl, by decide +kernel, by decide +kernel⟩
theorem w_clash {f : Addr} {fd : FuncData} (F : Fun G.K "clash" "clash" s_clash f fd) (T : Txt mg G)  : FnOk P w G.K mg base (L2.CX P w) 1 f fd ["settings", "one", "other"] (spF G 3 r_clash) := by
  refine def_ok (N := N_clash) (k := 0) (m := m_clash) F sc_clash rfl fun cdv A outer s H E hr tk hp => ?_
  have hN := sc_clash.nd
  exact (fss_cons (fs_asg (vs := [3, 4, 5]) (fe_var 0) (fg_tup (fgs_cons (fg_name 3 hN (by decide)) (fgs_cons (fg_name 4 hN (by decide)) (fgs_cons (fg_name 5 hN (by decide)) fgs_nil (gN_ne 5) gNl_ne) (gN_ne 4) (gCn_ne (gN_ne 5) gNl_ne)) (gN_ne 3) (gCn_ne (gN_ne 4) (gCn_ne (gN_ne 5) gNl_ne)))))
    (fss_cons (fs_par2 6 7 (fa_cons (fe_op op_sub f_sub (fe_ix ix_A f_ix (fe_var 2) fe_int) (fe_ix ix_A f_ix (fe_var 1) fe_int)) (fa_cons (fe_op op_sub f_sub (fe_ix ix_A f_ix (fe_var 2) fe_int) (fe_ix ix_A f_ix (fe_var 1) fe_int)) fa_nil)) hN (by decide) (by rfl))
    (fss_one (fs_ret (fe_or (fe_cmp op_lt f_lt (fe_op op_addA f_add (fe_var 7) (fe_op op_mulA f_mul fe_int (fe_var 5))) (fe_op op_mulA f_mul (fe_var 3) (fe_var 6))) (fe_one (fe_cmp op_gt f_gt (fe_op op_sub f_sub (fe_var 7) (fe_op op_mulA f_mul fe_int (fe_var 5))) (fe_op op_mulA f_mul (fe_var 4) (fe_var 6)))))))))
abbrev s_clashes_of : Stmt := topS 2
abbrev N_clashes_of : List Str := ["settings", "readings", "found", "place", "other", "at"]
theorem sc_clashes_of : FnScope N_clashes_of ["settings", "readings"] (defScope s_clashes_of) := ⟨rfl, rfl, rfl, by decide +kernel, rfl, by decide +kernel, by decide +kernel⟩
theorem w_clashes_of {f : Addr} {fd : FuncData} (F : Fun G.K "clashes_of" "clashes_of" s_clashes_of f fd) (T : Txt mg G) (B_clash : FnB P w mg base G "clash" 3 1 c_clash) : FnOk P w G.K mg base (L2.CX P w) 2 f fd ["settings", "readings"] (spF G 2 r_clashes_of) := by
  refine def_ok (N := N_clashes_of) (k := 1) (m := m_clashes_of) F sc_clashes_of rfl fun cdv A outer s H E hr tk hp => ?_
  have hN := sc_clashes_of.nd
  exact (fss_cons (fs_set 2 (fe_lst fa_nil) hN)
    (fss_cons (fs_for (vs := [3, 4]) (fi_en T.b_enumerate (fa_cons (fe_var 1) fa_nil)) (fg_tup (fgs_cons (fg_name 3 hN (by decide)) (fgs_cons (fg_name 4 hN (by decide)) fgs_nil (gN_ne 4) gNl_ne) (gN_ne 3) (gCn_ne (gN_ne 4) gNl_ne))) (fss_one (fs_expr (fe_mtL PySem.F.slot_list_extend PySem.F.type_list_extend mt_extend f_ext (fe_var 2) (fa_cons (fe_lc (own := [("at", 5)]) (fi_rg1 T.b_range (fa_cons (fe_var 3) fa_nil)) (blkOk_by (by rfl)) hN (fun _ _ _ _ _ => (fg_name 5 hN (by decide))) (fun _ _ _ _ _ => (fts_one (ft_val (fe_call (FnB.fn B_clash hr) takes0 (lenA_cons (lenA_cons (lenA_cons lenA_nil))) (fa_cons (fe_var 0) (fa_cons (fe_ix ix_A f_ix (fe_var 1) (fe_var 5)) (fa_cons (fe_var 4) fa_nil))))))) (fun _ _ _ _ _ => (fe_tup (fa_cons (fe_var 5) (fa_cons (fe_var 3) fa_nil))))) fa_nil)))) hp)
    (fss_one (fs_ret (fe_callB (cr_sortedD hr.units) f_sorted T.b_sorted (by decide +kernel) (fa_cons (fe_var 2) fa_nil))))))
abbrev s_course_of : Stmt := topS 3
abbrev N_course_of : List Str := ["settings", "readings", "low", "high", "slack", "least", "tick", "here", "value", "ahead", "found", "back", "at", "ticks"]
theorem sc_course_of : FnScope N_course_of ["settings", "readings"] (defScope s_course_of) := ⟨rfl, rfl, rfl, by decide +kernel, rfl, by decide +kernel, by decide +kernel⟩
theorem w_course_of {f : Addr} {fd : FuncData} (F : Fun G.K "course_of" "course_of" s_course_of f fd) (T : Txt mg G)  : FnOk P w G.K mg base (L2.CX P w) 1 f fd ["settings", "readings"] (spF G 2 r_course_of) := by
  refine def_ok (N := N_course_of) (k := 0) (m := m_course_of) F sc_course_of rfl fun cdv A outer s H E hr tk hp => ?_
  have hN := sc_course_of.nd
  exact (fss_cons (fs_asg (vs := [2, 3, 4]) (fe_var 0) (fg_tup (fgs_cons (fg_name 2 hN (by decide)) (fgs_cons (fg_name 3 hN (by decide)) (fgs_cons (fg_name 4 hN (by decide)) fgs_nil (gN_ne 4) gNl_ne) (gN_ne 3) (gCn_ne (gN_ne 4) gNl_ne)) (gN_ne 2) (gCn_ne (gN_ne 3) (gCn_ne (gN_ne 4) gNl_ne)))))
    (fss_cons (fs_par2 5 6 (fa_cons (fe_lst fa_nil) (fa_cons fe_non fa_nil)) hN (by decide) (by rfl))
    (fss_cons (fs_for (vs := [7, 8]) (fi_seq (fe_var 1)) (fg_tup (fgs_cons (fg_name 7 hN (by decide)) (fgs_cons (fg_name 8 hN (by decide)) fgs_nil (gN_ne 8) gNl_ne) (gN_ne 7) (gCn_ne (gN_ne 8) gNl_ne))) (fss_cons (fs_set 9 (fe_if (ft_cmp op_isA f_is (fe_var 6) fe_non) (fe_op op_sub f_sub (fe_var 8) (fe_var 4)) (fe_callB (call_max2 rfl) f_max2 T.b_max (by decide +kernel) (fa_cons (fe_op op_sub f_sub (fe_var 8) (fe_var 4)) (fa_cons (fe_op op_addA f_add (fe_ix ix_A f_ix (fe_var 5) (fe_un un_neg f_neg fe_int)) (fe_op op_mulA f_mul (fe_var 2) (fe_op op_sub f_sub (fe_var 7) (fe_var 6)))) fa_nil)))) hN)
    (fss_cons (fs_expr (fe_mtL PySem.F.slot_list_append PySem.F.type_list_append mt_append f_app (fe_var 5) (fa_cons (fe_var 9) fa_nil)))
    (fss_one (fs_set 6 (fe_var 7) hN)))) hp)
    (fss_cons (fs_set 10 (fe_slice (fe_var 5) (fo_some (fe_un un_neg f_neg fe_int)) fo_none) hN)
    (fss_cons (fs_for (vs := [11]) (fi_rg1 T.b_range (fa_cons (fe_op op_sub f_sub (fe_callB (cr_len) f_len T.b_len (by decide +kernel) (fa_cons (fe_var 1) fa_nil)) fe_int) fa_nil)) (fg_name 11 hN (by decide)) (fss_cons (fs_set 12 (fe_op op_sub f_sub (fe_op op_sub f_sub (fe_callB (cr_len) f_len T.b_len (by decide +kernel) (fa_cons (fe_var 1) fa_nil)) fe_int) (fe_var 11)) hN)
    (fss_cons (fs_set 13 (fe_op op_sub f_sub (fe_ix ix_A f_ix (fe_ix ix_A f_ix (fe_var 1) (fe_op op_addA f_add (fe_var 12) fe_int)) fe_int) (fe_ix ix_A f_ix (fe_ix ix_A f_ix (fe_var 1) (fe_var 12)) fe_int)) hN)
    (fss_one (fs_expr (fe_mtL PySem.F.slot_list_append PySem.F.type_list_append mt_append f_app (fe_var 10) (fa_cons (fe_callB (call_max2 rfl) f_max2 T.b_max (by decide +kernel) (fa_cons (fe_ix ix_A f_ix (fe_var 5) (fe_var 12)) (fa_cons (fe_op op_sub f_sub (fe_ix ix_A f_ix (fe_var 10) (fe_un un_neg f_neg fe_int)) (fe_op op_mulA f_mul (fe_var 3) (fe_var 13))) fa_nil))) fa_nil)))))) hp)
    (fss_one (fs_ret (fe_revA (fe_var 10)))))))))
abbrev s_fits : Stmt := topS 4
abbrev N_fits : List Str := ["settings", "readings", "course", "low", "high", "slack", "number", "reading", "at", "ticks", "more"]
theorem sc_fits : FnScope N_fits ["settings", "readings", "course"] (defScope s_fits) := ⟨rfl, rfl, rfl, by decide +kernel, rfl, by decide +kernel, by decide +kernel⟩
theorem w_fits {f : Addr} {fd : FuncData} (F : Fun G.K "fits" "fits" s_fits f fd) (T : Txt mg G)  : FnOk P w G.K mg base (L2.CX P w) 1 f fd ["settings", "readings", "course"] (spF G 3 r_fits) := by
  refine def_ok (N := N_fits) (k := 0) (m := m_fits) F sc_fits rfl fun cdv A outer s H E hr tk hp => ?_
  have hN := sc_fits.nd
  exact (fss_cons (fs_asg (vs := [3, 4, 5]) (fe_var 0) (fg_tup (fgs_cons (fg_name 3 hN (by decide)) (fgs_cons (fg_name 4 hN (by decide)) (fgs_cons (fg_name 5 hN (by decide)) fgs_nil (gN_ne 5) gNl_ne) (gN_ne 4) (gCn_ne (gN_ne 5) gNl_ne)) (gN_ne 3) (gCn_ne (gN_ne 4) (gCn_ne (gN_ne 5) gNl_ne)))))
    (fss_cons (fs_if (ft_cmp (op_neA hr.units) f_ne (fe_callB (cr_len) f_len T.b_len (by decide +kernel) (fa_cons (fe_var 2) fa_nil)) (fe_callB (cr_len) f_len T.b_len (by decide +kernel) (fa_cons (fe_var 1) fa_nil))) (fss_one (fs_ret fe_bl)) fss_nil)
    (fss_cons (fs_if (ft_not (ft_val (fe_callB (cr_all rfl) f_all T.b_all (by decide +kernel) (fa_cons (fe_lc (own := [("number", 6), ("reading", 7)]) (fi_zp T.b_zip (fa_cons (fe_var 2) (fa_cons (fe_var 1) fa_nil))) (blkOk_by (by rfl)) hN (fun _ _ _ _ _ => (fg_tup (fgs_cons (fg_name 6 hN (by decide)) (fgs_cons (fg_name 7 hN (by decide)) fgs_nil (gN_ne 7) gNl_ne) (gN_ne 6) (gCn_ne (gN_ne 7) gNl_ne)))) (fun _ _ _ _ _ => fts_nil) (fun _ _ _ _ _ => (fe_cmp op_le f_le (fe_callB (call_abs) f_abs T.b_abs (by decide +kernel) (fa_cons (fe_op op_sub f_sub (fe_var 6) (fe_ix ix_A f_ix (fe_var 7) fe_int)) fa_nil)) (fe_var 5)))) fa_nil)))) (fss_one (fs_ret fe_bl)) fss_nil)
    (fss_cons (fs_for (vs := [8]) (fi_rg1 T.b_range (fa_cons (fe_op op_sub f_sub (fe_callB (cr_len) f_len T.b_len (by decide +kernel) (fa_cons (fe_var 2) fa_nil)) fe_int) fa_nil)) (fg_name 8 hN (by decide)) (fss_cons (fs_par2 9 10 (fa_cons (fe_op op_sub f_sub (fe_ix ix_A f_ix (fe_ix ix_A f_ix (fe_var 1) (fe_op op_addA f_add (fe_var 8) fe_int)) fe_int) (fe_ix ix_A f_ix (fe_ix ix_A f_ix (fe_var 1) (fe_var 8)) fe_int)) (fa_cons (fe_op op_sub f_sub (fe_ix ix_A f_ix (fe_var 2) (fe_op op_addA f_add (fe_var 8) fe_int)) (fe_ix ix_A f_ix (fe_var 2) (fe_var 8))) fa_nil)) hN (by decide) (by rfl))
    (fss_one (fs_if (ft_not (ft_ch2 op_le op_le f_le f_le (fe_op op_mulA f_mul (fe_var 3) (fe_var 9)) (fe_var 10) (fe_op op_mulA f_mul (fe_var 4) (fe_var 9)))) (fss_one (fs_ret fe_bl)) fss_nil))) hp)
    (fss_one (fs_ret fe_bl))))))
abbrev s_Fits_init : Stmt := inClass (topS 7) 0
abbrev N_Fits_init : List Str := ["self", "course"]
theorem sc_Fits_init : FnScope N_Fits_init ["self", "course"] (defScope s_Fits_init) := ⟨rfl, rfl, rfl, by decide +kernel, rfl, by decide +kernel, by decide +kernel⟩
theorem w_Fits_init {f : Addr} {fd : FuncData} (F : Fun G.K "__init__" "Fits.__init__" s_Fits_init f fd) (T : Txt mg G)  : FnOk P w G.K mg base (L2.CX P w) 1 f fd ["self", "course"] (spF G 2 r_Fits_init) := by
  refine def_ok (N := N_Fits_init) (k := 0) (m := m_Fits_init) F sc_Fits_init rfl fun cdv A outer s H E hr tk hp => ?_
  have hN := sc_Fits_init.nd
  exact (fss_one (fs_fld T.fl_course (fe_var 0) (fe_callTy (call_list_of) f_list T.b_list (by decide +kernel) (fa_cons (fe_var 1) fa_nil))))
abbrev s_Fits_shows : Stmt := inClass (topS 7) 1
abbrev N_Fits_shows : List Str := ["self", "settings", "readings"]
theorem sc_Fits_shows : FnScope N_Fits_shows ["self", "settings", "readings"] (defScope s_Fits_shows) := ⟨rfl, rfl, rfl, by decide +kernel, rfl, by decide +kernel, by decide +kernel⟩
theorem w_Fits_shows {f : Addr} {fd : FuncData} (F : Fun G.K "shows" "Fits.shows" s_Fits_shows f fd) (T : Txt mg G) (B_fits : FnB P w mg base G "fits" 3 1 c_fits) : FnOk P w G.K mg base (L2.CX P w) 2 f fd ["self", "settings", "readings"] (spF G 3 r_Fits_shows) := by
  refine def_ok (N := N_Fits_shows) (k := 1) (m := m_Fits_shows) F sc_Fits_shows rfl fun cdv A outer s H E hr tk hp => ?_
  have hN := sc_Fits_shows.nd
  exact (fss_one (fs_ret (fe_call (FnB.fn B_fits hr) tk (lenA_cons (lenA_cons (lenA_cons lenA_nil))) (fa_cons (fe_var 1) (fa_cons (fe_var 2) (fa_cons (fe_fld T.fl_course (fe_var 0)) fa_nil))))))
abbrev s_Clash_init : Stmt := inClass (topS 8) 0
abbrev N_Clash_init : List Str := ["self", "one", "other"]
theorem sc_Clash_init : FnScope N_Clash_init ["self", "one", "other"] (defScope s_Clash_init) := ⟨rfl, rfl, rfl, by decide +kernel, rfl, by decide +kernel, by decide +kernel⟩
theorem w_Clash_init {f : Addr} {fd : FuncData} (F : Fun G.K "__init__" "Clash.__init__" s_Clash_init f fd) (T : Txt mg G)  : FnOk P w G.K mg base (L2.CX P w) 1 f fd ["self", "one", "other"] (spF G 3 r_Clash_init) := by
  refine def_ok (N := N_Clash_init) (k := 0) (m := m_Clash_init) F sc_Clash_init rfl fun cdv A outer s H E hr tk hp => ?_
  have hN := sc_Clash_init.nd
  exact (fss_cons (fs_fld T.fl_one (fe_var 0) (fe_var 1))
    (fss_one (fs_fld T.fl_other (fe_var 0) (fe_var 2))))
abbrev s_Clash_shows : Stmt := inClass (topS 8) 1
abbrev N_Clash_shows : List Str := ["self", "settings", "readings"]
theorem sc_Clash_shows : FnScope N_Clash_shows ["self", "settings", "readings"] (defScope s_Clash_shows) := ⟨rfl, rfl, rfl, by decide +kernel, rfl, by decide +kernel, by decide +kernel⟩
theorem w_Clash_shows {f : Addr} {fd : FuncData} (F : Fun G.K "shows" "Clash.shows" s_Clash_shows f fd) (T : Txt mg G) (B_clash : FnB P w mg base G "clash" 3 1 c_clash) : FnOk P w G.K mg base (L2.CX P w) 2 f fd ["self", "settings", "readings"] (spF G 3 r_Clash_shows) := by
  refine def_ok (N := N_Clash_shows) (k := 1) (m := m_Clash_shows) F sc_Clash_shows rfl fun cdv A outer s H E hr tk hp => ?_
  have hN := sc_Clash_shows.nd
  exact (fss_cons (fs_if (ft_not (ft_ch3 op_le op_lt op_lt f_le f_lt f_lt fe_int (fe_fld T.fl_one (fe_var 0)) (fe_fld T.fl_other (fe_var 0)) (fe_callB (cr_len) f_len T.b_len (by decide +kernel) (fa_cons (fe_var 2) fa_nil)))) (fss_one (fs_ret fe_bl)) fss_nil)
    (fss_one (fs_ret (fe_call (FnB.fn B_clash hr) tk (lenA_cons (lenA_cons (lenA_cons lenA_nil))) (fa_cons (fe_var 1) (fa_cons (fe_ix ix_A f_ix (fe_var 2) (fe_fld T.fl_one (fe_var 0))) (fa_cons (fe_ix ix_A f_ix (fe_var 2) (fe_fld T.fl_other (fe_var 0))) fa_nil)))))))
abbrev s_is_whole : Stmt := topS 21
abbrev N_is_whole : List Str := ["thing"]
theorem sc_is_whole : FnScope N_is_whole ["thing"] (defScope s_is_whole) := ⟨rfl, rfl, rfl, by decide +kernel, rfl, by decide +kernel, by decide +kernel⟩
theorem w_is_whole {f : Addr} {fd : FuncData} (F : Fun G.K "is_whole" "is_whole" s_is_whole f fd) (T : Txt mg G)  : FnOk P w G.K mg base (L2.CX P w) 1 f fd ["thing"] (spF G 1 r_is_whole) := by
  refine def_ok (N := N_is_whole) (k := 0) (m := m_is_whole) F sc_is_whole rfl fun cdv A outer s H E hr tk hp => ?_
  have hN := sc_is_whole.nd
  exact (fss_one (fs_ret (fe_and (fe_isiB T.b_isinstance T.b_int (by decide +kernel) isiOk_B (fe_var 0)) (fe_one (fe_not (fe_isiB T.b_isinstance T.b_bool (by decide +kernel) isiOk_B (fe_var 0)))))))
abbrev s_is_between : Stmt := topS 22
abbrev N_is_between : List Str := ["thing", "least", "most"]
theorem sc_is_between : FnScope N_is_between ["thing", "least", "most"] (defScope s_is_between) := ⟨rfl, rfl, rfl, by decide +kernel, rfl, by decide +kernel, by decide +kernel⟩
theorem w_is_between {f : Addr} {fd : FuncData} (F : Fun G.K "is_between" "is_between" s_is_between f fd) (T : Txt mg G) (B_is_whole : FnB P w mg base G "is_whole" 1 1 c_is_whole) : FnOk P w G.K mg base (L2.CX P w) 2 f fd ["thing", "least", "most"] (spF G 3 r_is_between) := by
  refine def_ok (N := N_is_between) (k := 1) (m := m_is_between) F sc_is_between rfl fun cdv A outer s H E hr tk hp => ?_
  have hN := sc_is_between.nd
  exact (fss_one (fs_ret (fe_and (fe_call (FnB.fn B_is_whole hr) tk (lenA_cons lenA_nil) (fa_cons (fe_var 0) fa_nil)) (fe_one (fe_ch2 op_le op_le f_le f_le (fe_var 1) (fe_var 0) (fe_var 2))))))
abbrev s_check_settings : Stmt := topS 23
abbrev N_check_settings : List Str := ["settings"]
theorem sc_check_settings : FnScope N_check_settings ["settings"] (defScope s_check_settings) := ⟨rfl, rfl, rfl, by decide +kernel, rfl, by decide +kernel, by decide +kernel⟩
theorem w_check_settings {f : Addr} {fd : FuncData} (F : Fun G.K "check_settings" "check_settings" s_check_settings f fd) (T : Txt mg G) (B_is_between : FnB P w mg base G "is_between" 3 2 c_is_between) : FnOk P w G.K mg base (L2.CX P w) 3 f fd ["settings"] (spF G 1 r_check_settings) := by
  refine def_ok (N := N_check_settings) (k := 2) (m := m_check_settings) F sc_check_settings rfl fun cdv A outer s H E hr tk hp => ?_
  have hN := sc_check_settings.nd
  exact (fss_cons (fs_if (ft_w (fw_or (ft_not (ft_val (fe_isiB T.b_isinstance T.b_tuple (by decide +kernel) isiOk_B (fe_var 0)))) (fw_or (ft_cmp (op_neA hr.units) f_ne (fe_callB (cr_len) f_len T.b_len (by decide +kernel) (fa_cons (fe_var 0) fa_nil)) fe_int) (fw_or1 (ft_not (ft_val (fe_call (FnB.fn B_is_between hr) tk (lenA_cons (lenA_cons (lenA_cons lenA_nil))) (fa_cons (fe_ix ix_A f_ix (fe_var 0) fe_int) (fa_cons fe_int (fa_cons (fe_globI T.g_MOST_RATE.choose_spec) fa_nil)))))))))) (fss_one fs_never) fss_nil)
    (fss_one (fs_if (ft_w (fw_or (ft_not (ft_val (fe_call (FnB.fn B_is_between hr) tk (lenA_cons (lenA_cons (lenA_cons lenA_nil))) (fa_cons (fe_ix ix_A f_ix (fe_var 0) fe_int) (fa_cons (fe_ix ix_A f_ix (fe_var 0) fe_int) (fa_cons (fe_globI T.g_MOST_RATE.choose_spec) fa_nil)))))) (fw_or1 (ft_not (ft_val (fe_call (FnB.fn B_is_between hr) tk (lenA_cons (lenA_cons (lenA_cons lenA_nil))) (fa_cons (fe_ix ix_A f_ix (fe_var 0) fe_int) (fa_cons fe_int (fa_cons (fe_globI T.g_MOST_SLACK.choose_spec) fa_nil))))))))) (fss_one fs_never) fss_nil)))
abbrev s_is_reading : Stmt := topS 24
abbrev N_is_reading : List Str := ["thing"]
theorem sc_is_reading : FnScope N_is_reading ["thing"] (defScope s_is_reading) := ⟨rfl, rfl, rfl, by decide +kernel, rfl, by decide +kernel, by decide +kernel⟩
theorem w_is_reading {f : Addr} {fd : FuncData} (F : Fun G.K "is_reading" "is_reading" s_is_reading f fd) (T : Txt mg G) (B_is_between : FnB P w mg base G "is_between" 3 2 c_is_between) : FnOk P w G.K mg base (L2.CX P w) 3 f fd ["thing"] (spF G 1 r_is_reading) := by
  refine def_ok (N := N_is_reading) (k := 2) (m := m_is_reading) F sc_is_reading rfl fun cdv A outer s H E hr tk hp => ?_
  have hN := sc_is_reading.nd
  exact (fss_cons (fs_if (ft_w (fw_or (ft_not (ft_val (fe_isiB T.b_isinstance T.b_tuple (by decide +kernel) isiOk_B (fe_var 0)))) (fw_or1 (ft_cmp (op_neA hr.units) f_ne (fe_callB (cr_len) f_len T.b_len (by decide +kernel) (fa_cons (fe_var 0) fa_nil)) fe_int)))) (fss_one (fs_ret fe_bl)) fss_nil)
    (fss_one (fs_ret (fe_and (fe_call (FnB.fn B_is_between hr) tk (lenA_cons (lenA_cons (lenA_cons lenA_nil))) (fa_cons (fe_ix ix_A f_ix (fe_var 0) fe_int) (fa_cons fe_int (fa_cons (fe_globI T.g_LATEST.choose_spec) fa_nil)))) (fe_one (fe_call (FnB.fn B_is_between hr) tk (lenA_cons (lenA_cons (lenA_cons lenA_nil))) (fa_cons (fe_ix ix_A f_ix (fe_var 0) fe_int) (fa_cons fe_int (fa_cons (fe_globI T.g_MOST_VALUE.choose_spec) fa_nil)))))))))
abbrev s_check_readings : Stmt := topS 25
abbrev N_check_readings : List Str := ["settings", "readings", "reading", "one", "other"]
theorem sc_check_readings : FnScope N_check_readings ["settings", "readings"] (defScope s_check_readings) := ⟨rfl, rfl, rfl, by decide +kernel, rfl, by decide +kernel, by decide +kernel⟩
theorem w_check_readings {f : Addr} {fd : FuncData} (F : Fun G.K "check_readings" "check_readings" s_check_readings f fd) (T : Txt mg G) (B_check_settings : FnB P w mg base G "check_settings" 1 3 c_check_settings) (B_is_reading : FnB P w mg base G "is_reading" 1 3 c_is_reading) : FnOk P w G.K mg base (L2.CX P w) 4 f fd ["settings", "readings"] (spF G 2 r_check_readings) := by
  refine def_ok (N := N_check_readings) (k := 3) (m := m_check_readings) F sc_check_readings rfl fun cdv A outer s H E hr tk hp => ?_
  have hN := sc_check_readings.nd
  exact (fss_cons (fs_expr (fe_call (FnB.fn B_check_settings hr) tk (lenA_cons lenA_nil) (fa_cons (fe_var 0) fa_nil)))
    (fss_cons (fs_if (ft_w (fw_or (ft_not (ft_val (fe_isiB T.b_isinstance T.b_list (by decide +kernel) isiOk_B (fe_var 1)))) (fw_or1 (ft_cmp op_gt f_gt (fe_callB (cr_len) f_len T.b_len (by decide +kernel) (fa_cons (fe_var 1) fa_nil)) (fe_globI T.g_MOST_READINGS.choose_spec))))) (fss_one fs_never) fss_nil)
    (fss_cons (fs_if (ft_not (ft_val (fe_callB (cr_all rfl) f_all T.b_all (by decide +kernel) (fa_cons (fe_lc (own := [("reading", 2)]) (fi_seq (fe_var 1)) (blkOk_by (by rfl)) hN (fun _ _ _ _ _ => (fg_name 2 hN (by decide))) (fun _ _ _ _ _ => fts_nil) (fun _ _ _ _ _ => (fe_call (FnB.fn B_is_reading hr) takes0 (lenA_cons lenA_nil) (fa_cons (fe_var 2) fa_nil)))) fa_nil)))) (fss_one fs_never) fss_nil)
    (fss_one (fs_if (ft_val (fe_callB (cr_any rfl) f_any T.b_any (by decide +kernel) (fa_cons (fe_lc (own := [("one", 3), ("other", 4)]) (fi_zp T.b_zip (fa_cons (fe_var 1) (fa_cons (fe_slice (fe_var 1) (fo_some fe_int) fo_none) fa_nil))) (blkOk_by (by rfl)) hN (fun _ _ _ _ _ => (fg_tup (fgs_cons (fg_name 3 hN (by decide)) (fgs_cons (fg_name 4 hN (by decide)) fgs_nil (gN_ne 4) gNl_ne) (gN_ne 3) (gCn_ne (gN_ne 4) gNl_ne)))) (fun _ _ _ _ _ => fts_nil) (fun _ _ _ _ _ => (fe_cmp op_ge f_ge (fe_ix ix_A f_ix (fe_var 3) fe_int) (fe_ix ix_A f_ix (fe_var 4) fe_int)))) fa_nil))) (fss_one fs_never) fss_nil)))))
abbrev s_judged : Stmt := topS 27
abbrev N_judged : List Str := ["settings", "readings", "clashes"]
theorem sc_judged : FnScope N_judged ["settings", "readings"] (defScope s_judged) := ⟨rfl, rfl, rfl, by decide +kernel, rfl, by decide +kernel, by decide +kernel⟩
theorem w_judged {f : Addr} {fd : FuncData} (F : Fun G.K "judged" "judged" s_judged f fd) (T : Txt mg G) (B_Clash_init : MkB P w mg base G "Clash" k_Clash 3 1 r_Clash_init) (B_Fits_init : MkB P w mg base G "Fits" k_Fits 2 1 r_Fits_init) (B_check_readings : FnB P w mg base G "check_readings" 2 4 c_check_readings) (B_clashes_of : FnB P w mg base G "clashes_of" 2 2 c_clashes_of) (B_course_of : FnB P w mg base G "course_of" 2 1 c_course_of) : FnOk P w G.K mg base (L2.CX P w) 5 f fd ["settings", "readings"] (spF G 2 r_judged) := by
  refine def_ok (N := N_judged) (k := 4) (m := m_judged) F sc_judged rfl fun cdv A outer s H E hr tk hp => ?_
  have hN := sc_judged.nd
  exact (fss_cons (fs_expr (fe_call (FnB.fn B_check_readings hr) tk (lenA_cons (lenA_cons lenA_nil)) (fa_cons (fe_var 0) (fa_cons (fe_var 1) fa_nil))))
    (fss_cons (fs_set 2 (fe_call (FnB.fn B_clashes_of hr) tk (lenA_cons (lenA_cons lenA_nil)) (fa_cons (fe_var 0) (fa_cons (fe_var 1) fa_nil))) hN)
    (fss_cons (fs_if (ft_cmp (op_neA hr.units) f_ne (fe_var 2) (fe_lst fa_nil)) (fss_one (fs_ret (fe_make (E := E) 2 (MkB.mke B_Clash_init hr) tk (lenA_cons (lenA_cons lenA_nil)) (fa_cons (fe_ix ix_A f_ix (fe_ix ix_A f_ix (fe_var 2) fe_int) fe_int) (fa_cons (fe_ix ix_A f_ix (fe_ix ix_A f_ix (fe_var 2) fe_int) fe_int) fa_nil))))) fss_nil)
    (fss_one (fs_ret (fe_make (E := E) 1 (MkB.mke B_Fits_init hr) tk (lenA_cons lenA_nil) (fa_cons (fe_call (FnB.fn B_course_of hr) tk (lenA_cons (lenA_cons lenA_nil)) (fa_cons (fe_var 0) (fa_cons (fe_var 1) fa_nil))) fa_nil)))))))
abbrev s__law_number : Stmt := topS 29
abbrev N__law_number : List Str := ["_law_cell", "_law_at", "_law_whole_here", "_law_mixed", "_law_more"]
theorem sc__law_number : FnScope N__law_number ["_law_cell", "_law_at", "_law_whole_here"] (defScope s__law_number) := ⟨rfl, rfl, rfl, by decide +kernel, rfl, by decide +kernel, by decide +kernel⟩
theorem w__law_number {f : Addr} {fd : FuncData} (F : Fun G.K "_law_number" "_law_number" s__law_number f fd) (T : Txt mg G)  : FnOk P w G.K mg base (L2.CX P w) 1 f fd ["_law_cell", "_law_at", "_law_whole_here"] (spF G 3 r__law_number) := by
  refine def_ok (N := N__law_number) (k := 0) (m := m__law_number) F sc__law_number rfl fun cdv A outer s H E hr tk hp => ?_
  have hN := sc__law_number.nd
  exact (fss_cons (fs_if (ft_cmp op_ge f_ge (fe_var 0) (fe_op op_pow f_pow fe_int fe_int)) (fss_one (fs_ret (fe_var 0))) fss_nil)
    (fss_cons (fs_set 3 (fe_op op_mod f_mod (fe_op op_addA f_add (fe_op op_mulA f_mul (fe_op op_addA f_add (fe_var 0) (fe_op op_mulA f_mul fe_int (fe_var 1))) fe_int) (fe_var 2)) fe_int) hN)
    (fss_cons (fs_set 4 (fe_op op_mulA f_mul (fe_op op_mulA f_mul (fe_var 3) (fe_op op_addA f_add (fe_op op_addA f_add (fe_var 3) (fe_op op_mulA f_mul fe_int (fe_var 1))) fe_int)) (fe_op op_addA f_add (fe_op op_addA f_add (fe_var 3) (fe_var 0)) fe_int)) hN)
    (fss_one (fs_ret (fe_op op_fdiv f_div (fe_op op_mulA f_mul (fe_var 4) (fe_op op_addA f_add (fe_var 4) fe_int)) fe_int))))))
abbrev s__law_whole : Stmt := topS 30
abbrev N__law_whole : List Str := ["_law_found"]
theorem sc__law_whole : FnScope N__law_whole ["_law_found"] (defScope s__law_whole) := ⟨rfl, rfl, rfl, by decide +kernel, rfl, by decide +kernel, by decide +kernel⟩
theorem w__law_whole {f : Addr} {fd : FuncData} (F : Fun G.K "_law_whole" "_law_whole" s__law_whole f fd) (T : Txt mg G)  : FnOk P w G.K mg base (L2.CX P w) 1 f fd ["_law_found"] (spF G 1 r__law_whole) := by
  refine def_ok (N := N__law_whole) (k := 0) (m := m__law_whole) F sc__law_whole rfl fun cdv A outer s H E hr tk hp => ?_
  have hN := sc__law_whole.nd
  exact (fss_one (fs_ret (fe_and (fe_isiB T.b_isinstance T.b_int (by decide +kernel) isiOk_B (fe_var 0)) (fe_one (fe_not (fe_isiB T.b_isinstance T.b_bool (by decide +kernel) isiOk_B (fe_var 0)))))))
abbrev s__law_says : Stmt := topS 31
abbrev N__law_says : List Str := ["_law_said", "_law_due_here"]
theorem sc__law_says : FnScope N__law_says ["_law_said", "_law_due_here"] (defScope s__law_says) := ⟨rfl, rfl, rfl, by decide +kernel, rfl, by decide +kernel, by decide +kernel⟩
theorem w__law_says {f : Addr} {fd : FuncData} (F : Fun G.K "_law_says" "_law_says" s__law_says f fd) (T : Txt mg G)  : FnOk P w G.K mg base (L2.CX P w) 1 f fd ["_law_said", "_law_due_here"] (spF G 2 r__law_says) := by
  refine def_ok (N := N__law_says) (k := 0) (m := m__law_says) F sc__law_says rfl fun cdv A outer s H E hr tk hp => ?_
  have hN := sc__law_says.nd
  exact (fss_one (fs_ret (fe_and (fe_isiB T.b_isinstance T.b_bool (by decide +kernel) isiOk_B (fe_var 0)) (fe_one (fe_cmp (op_eqA hr.units) f_eq (fe_var 0) (fe_var 1))))))
abbrev s__law_settings : Stmt := topS 32
abbrev N__law_settings : List Str := ["_law_number_here", "_law_low", "_law_high"]
theorem sc__law_settings : FnScope N__law_settings ["_law_number_here"] (defScope s__law_settings) := ⟨rfl, rfl, rfl, by decide +kernel, rfl, by decide +kernel, by decide +kernel⟩
theorem w__law_settings {f : Addr} {fd : FuncData} (F : Fun G.K "_law_settings" "_law_settings" s__law_settings f fd) (T : Txt mg G)  : FnOk P w G.K mg base (L2.CX P w) 1 f fd ["_law_number_here"] (spF G 1 r__law_settings) := by
  refine def_ok (N := N__law_settings) (k := 0) (m := m__law_settings) F sc__law_settings rfl fun cdv A outer s H E hr tk hp => ?_
  have hN := sc__law_settings.nd
  exact (fss_cons (fs_set 1 (fe_op op_mod f_mod (fe_var 0) fe_int) hN)
    (fss_cons (fs_set 2 (fe_op op_addA f_add (fe_var 1) (fe_op op_mod f_mod (fe_op op_fdiv f_div (fe_var 0) fe_int) (fe_op op_sub f_sub fe_int (fe_var 1)))) hN)
    (fss_one (fs_ret (fe_tup (fa_cons (fe_ix ix_A f_ix (fe_tup (fa_cons (fe_var 1) (fa_cons (fe_var 2) (fa_cons (fe_var 1) (fa_cons (fe_var 2) fa_nil))))) (fe_op op_mod f_mod (fe_op op_fdiv f_div (fe_var 0) fe_int) fe_int)) (fa_cons (fe_var 2) (fa_cons (fe_op op_mod f_mod (fe_op op_fdiv f_div (fe_var 0) fe_int) fe_int) fa_nil))))))))
abbrev s__law_readings : Stmt := topS 33
abbrev N__law_readings : List Str := ["_law_script", "_law_by", "_law_settings_here", "_law_cells", "_law_whole_here", "_law_found", "_law_tick", "_law_value", "_law_many", "_law_kind", "_law_low", "_law_high", "_law_slack", "_law_at", "_law_number_here", "_law_ticks", "_law_rest", "_law_shown"]
theorem sc__law_readings : FnScope N__law_readings ["_law_script", "_law_by", "_law_settings_here"] (defScope s__law_readings) := ⟨rfl, rfl, rfl, by decide +kernel, rfl, by decide +kernel, by decide +kernel⟩
theorem w__law_readings {f : Addr} {fd : FuncData} (F : Fun G.K "_law_readings" "_law_readings" s__law_readings f fd) (T : Txt mg G) (B__law_number : FnB P w mg base G "_law_number" 3 1 c__law_number) : FnOk P w G.K mg base (L2.CX P w) 2 f fd ["_law_script", "_law_by", "_law_settings_here"] (spF G 3 r__law_readings) := by
  refine def_ok (N := N__law_readings) (k := 1) (m := m__law_readings) F sc__law_readings rfl fun cdv A outer s H E hr tk hp => ?_
  have hN := sc__law_readings.nd
  exact (fss_cons (fs_set 3 (fe_if (ft_cmp (op_neA hr.units) f_ne (fe_var 0) (fe_lst fa_nil)) (fe_slice (fe_var 0) fo_none (fo_some fe_int)) (fe_lst (fa_cons fe_int fa_nil))) hN)
    (fss_cons (fs_asg (vs := [4, 5, 6, 7]) (fe_tup (fa_cons (fe_op op_addA f_add (fe_callB (cr_sum rfl) f_sum T.b_sum (by decide +kernel) (fa_cons (fe_var 3) fa_nil)) (fe_var 1)) (fa_cons (fe_lst fa_nil) (fa_cons (fe_un un_neg f_neg fe_int) (fa_cons fe_int fa_nil))))) (fg_tup (fgs_cons (fg_name 4 hN (by decide)) (fgs_cons (fg_name 5 hN (by decide)) (fgs_cons (fg_name 6 hN (by decide)) (fgs_cons (fg_name 7 hN (by decide)) fgs_nil (gN_ne 7) gNl_ne) (gN_ne 6) (gCn_ne (gN_ne 7) gNl_ne)) (gN_ne 5) (gCn_ne (gN_ne 6) (gCn_ne (gN_ne 7) gNl_ne))) (gN_ne 4) (gCn_ne (gN_ne 5) (gCn_ne (gN_ne 6) (gCn_ne (gN_ne 7) gNl_ne))))))
    (fss_cons (fs_par2 8 9 (fa_cons (fe_op op_mod f_mod (fe_op op_fdiv f_div (fe_call (FnB.fn B__law_number hr) tk (lenA_cons (lenA_cons (lenA_cons lenA_nil))) (fa_cons (fe_var 4) (fa_cons (fe_op op_addA f_add (fe_var 1) fe_int) (fa_cons fe_int fa_nil)))) fe_int) fe_int) (fa_cons (fe_op op_mod f_mod (fe_op op_fdiv f_div (fe_call (FnB.fn B__law_number hr) tk (lenA_cons (lenA_cons (lenA_cons lenA_nil))) (fa_cons (fe_var 4) (fa_cons (fe_op op_addA f_add (fe_var 1) fe_int) (fa_cons fe_int fa_nil)))) fe_int) fe_int) fa_nil)) hN (by decide) (by rfl))
    (fss_cons (fs_asg (vs := [10, 11, 12]) (fe_var 2) (fg_tup (fgs_cons (fg_name 10 hN (by decide)) (fgs_cons (fg_name 11 hN (by decide)) (fgs_cons (fg_name 12 hN (by decide)) fgs_nil (gN_ne 12) gNl_ne) (gN_ne 11) (gCn_ne (gN_ne 12) gNl_ne)) (gN_ne 10) (gCn_ne (gN_ne 11) (gCn_ne (gN_ne 12) gNl_ne)))))
    (fss_cons (fs_for (vs := [13]) (fi_rg1 T.b_range (fa_cons (fe_var 8) fa_nil)) (fg_name 13 hN (by decide)) (fss_cons (fs_set 14 (fe_op op_fdiv f_div (fe_call (FnB.fn B__law_number hr) tk (lenA_cons (lenA_cons (lenA_cons lenA_nil))) (fa_cons (fe_op op_addA f_add (fe_ix ix_A f_ix (fe_var 3) (fe_op op_mod f_mod (fe_op op_addA f_add (fe_var 13) (fe_var 1)) (fe_callB (cr_len) f_len T.b_len (by decide +kernel) (fa_cons (fe_var 3) fa_nil)))) (fe_var 13)) (fa_cons (fe_op op_addA f_add (fe_var 13) (fe_var 1)) (fa_cons (fe_var 4) fa_nil)))) fe_int) hN)
    (fss_cons (fs_set 15 (fe_op op_addA f_add fe_int (fe_op op_mod f_mod (fe_var 14) (fe_ix ix_A f_ix (fe_tup (fa_cons fe_int (fa_cons fe_int (fa_cons fe_int (fa_cons fe_int fa_nil))))) (fe_op op_mod f_mod (fe_op op_fdiv f_div (fe_var 14) fe_int) fe_int)))) hN)
    (fss_cons (fs_if (ft_cmp op_gt f_gt (fe_op op_sub f_sub (fe_op op_addA f_add (fe_op op_addA f_add (fe_var 6) (fe_var 15)) (fe_var 8)) (fe_var 13)) fe_int) (fss_one (fs_set 15 fe_int hN)) fss_nil)
    (fss_cons (fs_par2 6 16 (fa_cons (fe_op op_addA f_add (fe_var 6) (fe_var 15)) (fa_cons (fe_op op_fdiv f_div (fe_var 14) fe_int) fa_nil)) hN (by decide) (by rfl))
    (fss_cons (fs_set 7 (fe_if (ft_cmp op_gt f_gt (fe_var 13) fe_int) (fe_op op_addA f_add (fe_op op_addA f_add (fe_var 7) (fe_op op_mulA f_mul (fe_var 10) (fe_var 15))) (fe_op op_mod f_mod (fe_var 16) (fe_op op_addA f_add (fe_op op_mulA f_mul (fe_op op_sub f_sub (fe_var 11) (fe_var 10)) (fe_var 15)) fe_int))) (fe_op op_mod f_mod (fe_var 16) fe_int)) hN)
    (fss_cons (fs_set 17 (fe_op op_sub f_sub (fe_op op_addA f_add (fe_var 7) (fe_op op_mod f_mod (fe_op op_fdiv f_div (fe_var 16) fe_int) (fe_op op_addA f_add (fe_op op_mulA f_mul fe_int (fe_var 12)) fe_int))) (fe_var 12)) hN)
    (fss_cons (fs_if (ft_w (fw_or (ft_cmp (op_eqA hr.units) f_eq (fe_var 9) fe_int) (fw_or1 (ft_w (fw_and (ft_cmp op_gt f_gt (fe_var 9) fe_int) (fw_and1 (ft_cmp (op_eqA hr.units) f_eq (fe_op op_mod f_mod (fe_op op_fdiv f_div (fe_var 16) fe_int) fe_int) fe_int))))))) (fss_one (fs_set 17 (fe_op op_mod f_mod (fe_op op_fdiv f_div (fe_var 16) fe_int) (fe_ix ix_A f_ix (fe_tup (fa_cons fe_int (fa_cons fe_int (fa_cons fe_int fa_nil)))) (fe_op op_mod f_mod (fe_var 9) fe_int))) hN)) fss_nil)
    (fss_one (fs_expr (fe_mtL PySem.F.slot_list_append PySem.F.type_list_append mt_append f_app (fe_var 5) (fa_cons (fe_tup (fa_cons (fe_var 6) (fa_cons (fe_callB (call_min2 rfl) f_min2 T.b_min (by decide +kernel) (fa_cons fe_int (fa_cons (fe_callB (call_max2 rfl) f_max2 T.b_max (by decide +kernel) (fa_cons fe_int (fa_cons (fe_var 17) fa_nil))) fa_nil))) fa_nil))) fa_nil))))))))))) hp)
    (fss_one (fs_ret (fe_var 5))))))))
abbrev s__law_clash : Stmt := topS 34
abbrev N__law_clash : List Str := ["_law_settings_here", "_law_one", "_law_other", "_law_low", "_law_high", "_law_slack", "_law_ticks", "_law_begin"]
theorem sc__law_clash : FnScope N__law_clash ["_law_settings_here", "_law_one", "_law_other"] (defScope s__law_clash) := ⟨rfl, rfl, rfl, by decide +kernel, rfl, by decide +kernel, by decide +kernel⟩
theorem w__law_clash {f : Addr} {fd : FuncData} (F : Fun G.K "_law_clash" "_law_clash" s__law_clash f fd) (T : Txt mg G)  : FnOk P w G.K mg base (L2.CX P w) 1 f fd ["_law_settings_here", "_law_one", "_law_other"] (spF G 3 r__law_clash) := by
  refine def_ok (N := N__law_clash) (k := 0) (m := m__law_clash) F sc__law_clash rfl fun cdv A outer s H E hr tk hp => ?_
  have hN := sc__law_clash.nd
  exact (fss_cons (fs_asg (vs := [3, 4, 5]) (fe_var 0) (fg_tup (fgs_cons (fg_name 3 hN (by decide)) (fgs_cons (fg_name 4 hN (by decide)) (fgs_cons (fg_name 5 hN (by decide)) fgs_nil (gN_ne 5) gNl_ne) (gN_ne 4) (gCn_ne (gN_ne 5) gNl_ne)) (gN_ne 3) (gCn_ne (gN_ne 4) (gCn_ne (gN_ne 5) gNl_ne)))))
    (fss_cons (fs_set 6 (fe_op op_sub f_sub (fe_ix ix_A f_ix (fe_var 2) fe_int) (fe_ix ix_A f_ix (fe_var 1) fe_int)) hN)
    (fss_cons (fs_for (vs := [7]) (fi_rg2 T.b_range (fa_cons (fe_op op_sub f_sub (fe_ix ix_A f_ix (fe_var 1) fe_int) (fe_var 5)) (fa_cons (fe_op op_addA f_add (fe_op op_addA f_add (fe_ix ix_A f_ix (fe_var 1) fe_int) (fe_var 5)) fe_int) fa_nil))) (fg_name 7 hN (by decide)) (fss_one (fs_if (ft_w (fw_and (ft_cmp op_le f_le (fe_op op_addA f_add (fe_var 7) (fe_op op_mulA f_mul (fe_var 3) (fe_var 6))) (fe_op op_addA f_add (fe_ix ix_A f_ix (fe_var 2) fe_int) (fe_var 5))) (fw_and1 (ft_cmp op_ge f_ge (fe_op op_addA f_add (fe_var 7) (fe_op op_mulA f_mul (fe_var 4) (fe_var 6))) (fe_op op_sub f_sub (fe_ix ix_A f_ix (fe_var 2) fe_int) (fe_var 5)))))) (fss_one (fs_ret fe_bl)) fss_nil)) hp)
    (fss_one (fs_ret fe_bl)))))
abbrev s__law_fits : Stmt := topS 35
abbrev N__law_fits : List Str := ["_law_settings_here", "_law_readings_here", "_law_course", "_law_low", "_law_high", "_law_slack", "_law_at", "_law_tick", "_law_value", "_law_ticks", "_law_more"]
theorem sc__law_fits : FnScope N__law_fits ["_law_settings_here", "_law_readings_here", "_law_course"] (defScope s__law_fits) := ⟨rfl, rfl, rfl, by decide +kernel, rfl, by decide +kernel, by decide +kernel⟩
theorem w__law_fits {f : Addr} {fd : FuncData} (F : Fun G.K "_law_fits" "_law_fits" s__law_fits f fd) (T : Txt mg G)  : FnOk P w G.K mg base (L2.CX P w) 1 f fd ["_law_settings_here", "_law_readings_here", "_law_course"] (spF G 3 r__law_fits) := by
  refine def_ok (N := N__law_fits) (k := 0) (m := m__law_fits) F sc__law_fits rfl fun cdv A outer s H E hr tk hp => ?_
  have hN := sc__law_fits.nd
  exact (fss_cons (fs_asg (vs := [3, 4, 5]) (fe_var 0) (fg_tup (fgs_cons (fg_name 3 hN (by decide)) (fgs_cons (fg_name 4 hN (by decide)) (fgs_cons (fg_name 5 hN (by decide)) fgs_nil (gN_ne 5) gNl_ne) (gN_ne 4) (gCn_ne (gN_ne 5) gNl_ne)) (gN_ne 3) (gCn_ne (gN_ne 4) (gCn_ne (gN_ne 5) gNl_ne)))))
    (fss_cons (fs_if (ft_cmp (op_neA hr.units) f_ne (fe_callB (cr_len) f_len T.b_len (by decide +kernel) (fa_cons (fe_var 2) fa_nil)) (fe_callB (cr_len) f_len T.b_len (by decide +kernel) (fa_cons (fe_var 1) fa_nil))) (fss_one (fs_ret fe_bl)) fss_nil)
    (fss_cons (fs_for (vs := [6, 7, 8]) (fi_en T.b_enumerate (fa_cons (fe_var 1) fa_nil)) (fg_tup (fgs_cons (fg_name 6 hN (by decide)) (fgs_cons (fg_tup (fgs_cons (fg_name 7 hN (by decide)) (fgs_cons (fg_name 8 hN (by decide)) fgs_nil (gN_ne 8) gNl_ne) (gN_ne 7) (gCn_ne (gN_ne 8) gNl_ne))) fgs_nil (gTp_ne (gCn_ne (gN_ne 7) (gCn_ne (gN_ne 8) gNl_ne))) gNl_ne) (gN_ne 6) (gCn_ne (gTp_ne (gCn_ne (gN_ne 7) (gCn_ne (gN_ne 8) gNl_ne))) gNl_ne))) (fss_cons (fs_if (ft_not (ft_ch2 op_le op_le f_le f_le (fe_op op_sub f_sub (fe_var 8) (fe_var 5)) (fe_ix ix_A f_ix (fe_var 2) (fe_var 6)) (fe_op op_addA f_add (fe_var 8) (fe_var 5)))) (fss_one (fs_ret fe_bl)) fss_nil)
    (fss_one (fs_if (ft_cmp op_gt f_gt (fe_var 6) fe_int) (fss_cons (fs_set 9 (fe_op op_sub f_sub (fe_var 7) (fe_ix ix_A f_ix (fe_ix ix_A f_ix (fe_var 1) (fe_op op_sub f_sub (fe_var 6) fe_int)) fe_int)) hN)
    (fss_cons (fs_set 10 (fe_op op_sub f_sub (fe_ix ix_A f_ix (fe_var 2) (fe_var 6)) (fe_ix ix_A f_ix (fe_var 2) (fe_op op_sub f_sub (fe_var 6) fe_int))) hN)
    (fss_one (fs_if (ft_not (ft_ch2 op_le op_le f_le f_le (fe_op op_mulA f_mul (fe_var 3) (fe_var 9)) (fe_var 10) (fe_op op_mulA f_mul (fe_var 4) (fe_var 9)))) (fss_one (fs_ret fe_bl)) fss_nil)))) fss_nil))) hp)
    (fss_one (fs_ret fe_bl)))))
abbrev s__law_reached : Stmt := topS 36
abbrev N__law_reached : List Str := ["_law_settings_here", "_law_readings_here", "_law_low", "_law_high", "_law_slack", "_law_found", "_law_at", "_law_tick", "_law_value", "_law_here", "_law_ticks", "_law_last", "_law_one", "_law_other"]
theorem sc__law_reached : FnScope N__law_reached ["_law_settings_here", "_law_readings_here"] (defScope s__law_reached) := ⟨rfl, rfl, rfl, by decide +kernel, rfl, by decide +kernel, by decide +kernel⟩
theorem w__law_reached {f : Addr} {fd : FuncData} (F : Fun G.K "_law_reached" "_law_reached" s__law_reached f fd) (T : Txt mg G)  : FnOk P w G.K mg base (L2.CX P w) 1 f fd ["_law_settings_here", "_law_readings_here"] (spF G 2 r__law_reached) := by
  refine def_ok (N := N__law_reached) (k := 0) (m := m__law_reached) F sc__law_reached rfl fun cdv A outer s H E hr tk hp => ?_
  have hN := sc__law_reached.nd
  exact (fss_cons (fs_asg (vs := [2, 3, 4]) (fe_var 0) (fg_tup (fgs_cons (fg_name 2 hN (by decide)) (fgs_cons (fg_name 3 hN (by decide)) (fgs_cons (fg_name 4 hN (by decide)) fgs_nil (gN_ne 4) gNl_ne) (gN_ne 3) (gCn_ne (gN_ne 4) gNl_ne)) (gN_ne 2) (gCn_ne (gN_ne 3) (gCn_ne (gN_ne 4) gNl_ne)))))
    (fss_cons (fs_set 5 (fe_lst fa_nil) hN)
    (fss_cons (fs_for (vs := [6, 7, 8]) (fi_en T.b_enumerate (fa_cons (fe_var 1) fa_nil)) (fg_tup (fgs_cons (fg_name 6 hN (by decide)) (fgs_cons (fg_tup (fgs_cons (fg_name 7 hN (by decide)) (fgs_cons (fg_name 8 hN (by decide)) fgs_nil (gN_ne 8) gNl_ne) (gN_ne 7) (gCn_ne (gN_ne 8) gNl_ne))) fgs_nil (gTp_ne (gCn_ne (gN_ne 7) (gCn_ne (gN_ne 8) gNl_ne))) gNl_ne) (gN_ne 6) (gCn_ne (gTp_ne (gCn_ne (gN_ne 7) (gCn_ne (gN_ne 8) gNl_ne))) gNl_ne))) (fss_cons (fs_set 9 (fe_listRg T.b_list T.b_range (fe_op op_sub f_sub (fe_var 8) (fe_var 4)) (fe_op op_addA f_add (fe_op op_addA f_add (fe_var 8) (fe_var 4)) fe_int)) hN)
    (fss_cons (fs_if (ft_cmp op_gt f_gt (fe_var 6) fe_int) (fss_cons (fs_asg (vs := [10, 11]) (fe_tup (fa_cons (fe_op op_sub f_sub (fe_var 7) (fe_ix ix_A f_ix (fe_ix ix_A f_ix (fe_var 1) (fe_op op_sub f_sub (fe_var 6) fe_int)) fe_int)) (fa_cons (fe_ix ix_A f_ix (fe_var 5) (fe_un un_neg f_neg fe_int)) fa_nil))) (fg_tup (fgs_cons (fg_name 10 hN (by decide)) (fgs_cons (fg_name 11 hN (by decide)) fgs_nil (gN_ne 11) gNl_ne) (gN_ne 10) (gCn_ne (gN_ne 11) gNl_ne))))
    (fss_one (fs_setLc 9 (own := [("_law_one", 12)]) (fi_seq (fe_var 9)) (blkOk_by (by rfl)) hN (fun _ _ _ _ _ => (fg_name 12 hN (by decide))) (fun _ _ _ _ _ => (fts_one (ft_val (fe_callB (cr_any rfl) f_any T.b_any (by decide +kernel) (fa_cons (fe_lc (own := [("_law_other", 13)]) (fi_seq (fe_var 11)) (blkOk_by (by rfl)) hN (fun _ _ _ _ _ => (fg_name 13 hN (by decide))) (fun _ _ _ _ _ => fts_nil) (fun _ _ _ _ _ => (fe_ch2 op_le op_le f_le f_le (fe_op op_mulA f_mul (fe_var 2) (fe_var 10)) (fe_op op_sub f_sub (fe_var 12) (fe_var 13)) (fe_op op_mulA f_mul (fe_var 3) (fe_var 10))))) fa_nil))))) (fun _ _ _ _ _ => (fe_var 12))))) fss_nil)
    (fss_one (fs_expr (fe_mtL PySem.F.slot_list_append PySem.F.type_list_append mt_append f_app (fe_var 5) (fa_cons (fe_var 9) fa_nil)))))) hp)
    (fss_one (fs_ret (fe_var 5))))))
abbrev s__law_due : Stmt := topS 37
abbrev N__law_due : List Str := ["_law_settings_here", "_law_readings_here", "_law_found"]
theorem sc__law_due : FnScope N__law_due ["_law_settings_here", "_law_readings_here", "_law_found"] (defScope s__law_due) := ⟨rfl, rfl, rfl, by decide +kernel, rfl, by decide +kernel, by decide +kernel⟩
theorem w__law_due {f : Addr} {fd : FuncData} (F : Fun G.K "_law_due" "_law_due" s__law_due f fd) (T : Txt mg G) (B__law_clash : FnB P w mg base G "_law_clash" 3 1 c__law_clash) (B__law_fits : FnB P w mg base G "_law_fits" 3 1 c__law_fits) : FnOk P w G.K mg base (L2.CX P w) 2 f fd ["_law_settings_here", "_law_readings_here", "_law_found"] (spF G 3 r__law_due) := by
  refine def_ok (N := N__law_due) (k := 1) (m := m__law_due) F sc__law_due rfl fun cdv A outer s H E hr tk hp => ?_
  have hN := sc__law_due.nd
  exact (fss_cons (fs_if (ft_val (fe_isiC T.b_isinstance T.m_Fits T.is_Fits (fe_var 2))) (fss_one (fs_ret (fe_call (FnB.fn B__law_fits hr) tk (lenA_cons (lenA_cons (lenA_cons lenA_nil))) (fa_cons (fe_var 0) (fa_cons (fe_var 1) (fa_cons (fe_fld T.fl_course (fe_var 2)) fa_nil)))))) fss_nil)
    (fss_cons (fs_if (ft_not (ft_ch3 op_le op_lt op_lt f_le f_lt f_lt fe_int (fe_fld T.fl_one (fe_var 2)) (fe_fld T.fl_other (fe_var 2)) (fe_callB (cr_len) f_len T.b_len (by decide +kernel) (fa_cons (fe_var 1) fa_nil)))) (fss_one (fs_ret fe_bl)) fss_nil)
    (fss_one (fs_ret (fe_call (FnB.fn B__law_clash hr) tk (lenA_cons (lenA_cons (lenA_cons lenA_nil))) (fa_cons (fe_var 0) (fa_cons (fe_ix ix_A f_ix (fe_var 1) (fe_fld T.fl_one (fe_var 2))) (fa_cons (fe_ix ix_A f_ix (fe_var 1) (fe_fld T.fl_other (fe_var 2))) fa_nil))))))))
abbrev s__law_right : Stmt := topS 38
abbrev N__law_right : List Str := ["_law_settings_here", "_law_readings_here", "_law_others", "_law_handed", "_law_reached_here", "_law_good", "_law_again", "_law_found", "_law_one", "_law_some", "_law_number_here"]
theorem sc__law_right : FnScope N__law_right ["_law_settings_here", "_law_readings_here", "_law_others"] (defScope s__law_right) := ⟨rfl, rfl, rfl, by decide +kernel, rfl, by decide +kernel, by decide +kernel⟩
theorem w__law_right {f : Addr} {fd : FuncData} (F : Fun G.K "_law_right" "_law_right" s__law_right f fd) (T : Txt mg G) (B_Clash_shows : MtB P w mg base G k_Clash "shows" 3 2 c_Clash_shows) (B_Fits_shows : MtB P w mg base G k_Fits "shows" 3 2 c_Fits_shows) (B__law_due : FnB P w mg base G "_law_due" 3 2 c__law_due) (B__law_reached : FnB P w mg base G "_law_reached" 2 1 c__law_reached) (B__law_says : FnB P w mg base G "_law_says" 2 1 c__law_says) (B__law_whole : FnB P w mg base G "_law_whole" 1 1 c__law_whole) (B_judged : FnB P w mg base G "judged" 2 5 c_judged) : FnOk P w G.K mg base (L2.CX P w) 6 f fd ["_law_settings_here", "_law_readings_here", "_law_others"] (spF G 3 r__law_right) := by
  refine def_ok (N := N__law_right) (k := 5) (m := m__law_right) F sc__law_right rfl fun cdv A outer s H E hr tk hp => ?_
  have hN := sc__law_right.nd
  exact (fss_cons (fs_par2 3 4 (fa_cons (fe_callTy (call_list_of) f_list T.b_list (by decide +kernel) (fa_cons (fe_var 1) fa_nil)) (fa_cons (fe_call (FnB.fn B__law_reached hr) tk (lenA_cons (lenA_cons lenA_nil)) (fa_cons (fe_var 0) (fa_cons (fe_var 1) fa_nil))) fa_nil)) hN (by decide) (by rfl))
    (fss_cons (fs_set 5 (fe_or (fe_cmp (op_eqA hr.units) f_eq (fe_var 1) (fe_lst fa_nil)) (fe_one (fe_cmp (op_neA hr.units) f_ne (fe_ix ix_A f_ix (fe_var 4) (fe_un un_neg f_neg fe_int)) (fe_lst fa_nil)))) hN)
    (fss_cons (fs_for (vs := [6]) (fi_rg1 T.b_range (fa_cons fe_int fa_nil)) (fg_name 6 hN (by decide)) (fss_cons (fs_set 7 (fe_call (FnB.fn B_judged hr) tk (lenA_cons (lenA_cons lenA_nil)) (fa_cons (fe_var 0) (fa_cons (fe_var 3) fa_nil))) hN)
    (fss_cons (fs_if (ft_w (fw_or (ft_not (ft_val (fe_isiC T.b_isinstance T.m_Answer T.is_Answer (fe_var 7)))) (fw_or1 (ft_cmp (op_neA hr.units) f_ne (fe_lst (fa_cons (fe_isiC T.b_isinstance T.m_Fits T.is_Fits (fe_var 7)) (fa_cons (fe_isiC T.b_isinstance T.m_Clash T.is_Clash (fe_var 7)) fa_nil))) (fe_lst (fa_cons (fe_var 5) (fa_cons (fe_not (fe_var 5)) fa_nil))))))) (fss_one (fs_ret fe_bl)) fss_nil)
    (fss_cons (fs_if (ft_w (fw_or (ft_val (fe_isiC T.b_isinstance T.m_Kept T.is_Kept (fe_var 7))) (fw_or (ft_cmp (op_neA hr.units) f_ne (fe_var 3) (fe_var 1)) (fw_or1 (ft_not (ft_val (fe_call (FnB.fn B__law_due hr) tk (lenA_cons (lenA_cons (lenA_cons lenA_nil))) (fa_cons (fe_var 0) (fa_cons (fe_var 1) (fa_cons (fe_var 7) fa_nil)))))))))) (fss_one (fs_ret fe_bl)) fss_nil)
    (fss_cons (fs_if (ft_cmp op_notA f_isNot (fe_meth (E := E) (tb := [(k_Fits, c_Fits_shows), (k_Clash, c_Clash_shows)]) 2 (all2 (MtB.mt B_Fits_shows hr) (MtB.mt B_Clash_shows hr)) (by simp) (lenA_cons (lenA_cons lenA_nil)) tk (fe_var 7) (fa_cons (fe_var 0) (fa_cons (fe_var 1) fa_nil))) fe_bl) (fss_one (fs_ret fe_bl)) fss_nil)
    (fss_cons (fs_for (vs := [8, 9]) (fi_seq (fe_var 2)) (fg_tup (fgs_cons (fg_name 8 hN (by decide)) (fgs_cons (fg_name 9 hN (by decide)) fgs_nil (gN_ne 9) gNl_ne) (gN_ne 8) (gCn_ne (gN_ne 9) gNl_ne))) (fss_one (fs_if (ft_not (ft_val (fe_call (FnB.fn B__law_says hr) tk (lenA_cons (lenA_cons lenA_nil)) (fa_cons (fe_meth (E := E) (tb := [(k_Fits, c_Fits_shows), (k_Clash, c_Clash_shows)]) 2 (all2 (MtB.mt B_Fits_shows hr) (MtB.mt B_Clash_shows hr)) (by simp) (lenA_cons (lenA_cons lenA_nil)) tk (fe_var 7) (fa_cons (fe_var 8) (fa_cons (fe_var 9) fa_nil))) (fa_cons (fe_call (FnB.fn B__law_due hr) tk (lenA_cons (lenA_cons (lenA_cons lenA_nil))) (fa_cons (fe_var 8) (fa_cons (fe_var 9) (fa_cons (fe_var 7) fa_nil)))) fa_nil))))) (fss_one (fs_ret fe_bl)) fss_nil)) hp)
    (fss_one (fs_if (ft_val (fe_var 5)) (fss_cons (fs_if (ft_w (fw_or (ft_not (ft_val (fe_isiB T.b_isinstance T.b_list (by decide +kernel) isiOk_B (fe_fld T.fl_course (fe_var 7))))) (fw_or1 (ft_not (ft_val (fe_callB (cr_all rfl) f_all T.b_all (by decide +kernel) (fa_cons (fe_lc (own := [("_law_number_here", 10)]) (fi_seq (fe_fld T.fl_course (fe_var 7))) (blkOk_by (by rfl)) hN (fun _ _ _ _ _ => (fg_name 10 hN (by decide))) (fun _ _ _ _ _ => fts_nil) (fun _ _ _ _ _ => (fe_call (FnB.fn B__law_whole hr) takes0 (lenA_cons lenA_nil) (fa_cons (fe_var 10) fa_nil)))) fa_nil))))))) (fss_one (fs_ret fe_bl)) fss_nil)
    (fss_cons (fs_expr (fe_mtL PySem.F.slot_list_append PySem.F.type_list_append mt_append f_app (fe_fld T.fl_course (fe_var 7)) (fa_cons fe_int fa_nil)))
    (fss_one (fs_if (ft_cmp op_notA f_isNot (fe_meth (E := E) (tb := [(k_Fits, c_Fits_shows), (k_Clash, c_Clash_shows)]) 2 (all2 (MtB.mt B_Fits_shows hr) (MtB.mt B_Clash_shows hr)) (by simp) (lenA_cons (lenA_cons lenA_nil)) tk (fe_var 7) (fa_cons (fe_var 0) (fa_cons (fe_var 1) fa_nil))) fe_bl) (fss_one (fs_ret fe_bl)) fss_nil)))) (fss_one (fs_if (ft_w (fw_or (ft_not (ft_val (fe_call (FnB.fn B__law_whole hr) tk (lenA_cons lenA_nil) (fa_cons (fe_fld T.fl_one (fe_var 7)) fa_nil)))) (fw_or1 (ft_not (ft_val (fe_call (FnB.fn B__law_whole hr) tk (lenA_cons lenA_nil) (fa_cons (fe_fld T.fl_other (fe_var 7)) fa_nil))))))) (fss_one (fs_ret fe_bl)) fss_nil))))))))) hp)
    (fss_one (fs_ret fe_bl)))))
abbrev s_law : Stmt := topS 39
abbrev N_law : List Str := ["_law_script", "_law_cells", "_law_whole_here", "_law_by", "_law_settings_here", "_law_readings_here", "_law_other", "_law_others", "_law_found", "_law_far", "_law_ends", "_law_one"]
theorem sc_law : FnScope N_law ["_law_script"] (defScope s_law) := ⟨rfl, rfl, rfl, by decide +kernel, rfl, by decide +kernel, by decide +kernel⟩
theorem w_law {f : Addr} {fd : FuncData} (F : Fun G.K "law" "law" s_law f fd) (T : Txt mg G) (B__law_number : FnB P w mg base G "_law_number" 3 1 c__law_number) (B__law_readings : FnB P w mg base G "_law_readings" 3 2 c__law_readings) (B__law_right : FnB P w mg base G "_law_right" 3 6 c__law_right) (B__law_settings : FnB P w mg base G "_law_settings" 1 1 c__law_settings) (B_judged : FnB P w mg base G "judged" 2 5 c_judged) : FnOk P w G.K mg base (L2.CX P w) 7 f fd ["_law_script"] (spF G 1 r_law) := by
  refine def_ok (N := N_law) (k := 6) (m := m_law) F sc_law rfl fun cdv A outer s H E hr tk hp => ?_
  have hN := sc_law.nd
  exact (fss_cons (fs_set 1 (fe_if (ft_cmp (op_neA hr.units) f_ne (fe_var 0) (fe_lst fa_nil)) (fe_slice (fe_var 0) fo_none (fo_some fe_int)) (fe_lst (fa_cons fe_int fa_nil))) hN)
    (fss_cons (fs_set 2 (fe_callB (cr_sum rfl) f_sum T.b_sum (by decide +kernel) (fa_cons (fe_var 1) fa_nil)) hN)
    (fss_cons (fs_for (vs := [3]) (fi_rg1 T.b_range (fa_cons fe_int fa_nil)) (fg_name 3 hN (by decide)) (fss_cons (fs_set 4 (fe_call (FnB.fn B__law_settings hr) tk (lenA_cons lenA_nil) (fa_cons (fe_op op_fdiv f_div (fe_call (FnB.fn B__law_number hr) tk (lenA_cons (lenA_cons (lenA_cons lenA_nil))) (fa_cons (fe_var 2) (fa_cons (fe_op op_addA f_add (fe_var 3) fe_int) (fa_cons (fe_var 3) fa_nil)))) fe_int) fa_nil)) hN)
    (fss_cons (fs_set 5 (fe_call (FnB.fn B__law_readings hr) tk (lenA_cons (lenA_cons (lenA_cons lenA_nil))) (fa_cons (fe_var 0) (fa_cons (fe_var 3) (fa_cons (fe_var 4) fa_nil)))) hN)
    (fss_cons (fs_set 6 (fe_call (FnB.fn B__law_settings hr) tk (lenA_cons lenA_nil) (fa_cons (fe_op op_fdiv f_div (fe_call (FnB.fn B__law_number hr) tk (lenA_cons (lenA_cons (lenA_cons lenA_nil))) (fa_cons (fe_var 2) (fa_cons (fe_op op_addA f_add (fe_var 3) fe_int) (fa_cons (fe_var 3) fa_nil)))) fe_int) fa_nil)) hN)
    (fss_cons (fs_set 7 (fe_lst (fa_cons (fe_tup (fa_cons (fe_var 6) (fa_cons (fe_var 5) fa_nil))) (fa_cons (fe_tup (fa_cons (fe_var 4) (fa_cons (fe_slice (fe_var 5) (fo_some fe_int) fo_none) fa_nil))) (fa_cons (fe_tup (fa_cons (fe_var 4) (fa_cons (fe_call (FnB.fn B__law_readings hr) tk (lenA_cons (lenA_cons (lenA_cons lenA_nil))) (fa_cons (fe_var 0) (fa_cons (fe_op op_addA f_add (fe_var 3) fe_int) (fa_cons (fe_var 4) fa_nil)))) fa_nil))) fa_nil)))) hN)
    (fss_one (fs_if (ft_not (ft_val (fe_call (FnB.fn B__law_right hr) tk (lenA_cons (lenA_cons (lenA_cons lenA_nil))) (fa_cons (fe_var 4) (fa_cons (fe_var 5) (fa_cons (fe_var 7) fa_nil)))))) (fss_one (fs_ret fe_bl)) fss_nil)))))) hp)
    (fss_cons (fs_set 8 (fe_call (FnB.fn B_judged hr) tk (lenA_cons (lenA_cons lenA_nil)) (fa_cons (fe_tup (fa_cons fe_int (fa_cons fe_int (fa_cons fe_int fa_nil)))) (fa_cons (fe_lst (fa_cons (fe_tup (fa_cons fe_int (fa_cons fe_int fa_nil))) (fa_cons (fe_tup (fa_cons fe_int (fa_cons fe_int fa_nil))) (fa_cons (fe_tup (fa_cons fe_int (fa_cons fe_int fa_nil))) fa_nil)))) fa_nil))) hN)
    (fss_cons (fs_set 9 (fe_call (FnB.fn B_judged hr) tk (lenA_cons (lenA_cons lenA_nil)) (fa_cons (fe_tup (fa_cons fe_int (fa_cons fe_int (fa_cons fe_int fa_nil)))) (fa_cons (fe_lst (fa_cons (fe_tup (fa_cons fe_int (fa_cons fe_int fa_nil))) (fa_cons (fe_tup (fa_cons fe_int (fa_cons fe_int fa_nil))) (fa_cons (fe_tup (fa_cons fe_int (fa_cons fe_int fa_nil))) fa_nil)))) fa_nil))) hN)
    (fss_cons (fs_if (ft_w (fw_or (ft_not (ft_val (fe_isiC T.b_isinstance T.m_Clash T.is_Clash (fe_var 8)))) (fw_or (ft_not (ft_val (fe_isiC T.b_isinstance T.m_Clash T.is_Clash (fe_var 9)))) (fw_or1 (ft_cmp (op_neA hr.units) f_ne (fe_fld T.fl_other (fe_var 9)) fe_int))))) (fss_one (fs_ret fe_bl)) fss_nil)
    (fss_cons (fs_set 10 (fe_call (FnB.fn B_judged hr) tk (lenA_cons (lenA_cons lenA_nil)) (fa_cons (fe_tup (fa_cons fe_int (fa_cons fe_int (fa_cons fe_int fa_nil)))) (fa_cons (fe_lst (fa_cons (fe_tup (fa_cons fe_int (fa_cons fe_int fa_nil))) (fa_cons (fe_tup (fa_cons fe_int (fa_cons fe_int fa_nil))) (fa_cons (fe_tup (fa_cons fe_int (fa_cons fe_int fa_nil))) fa_nil)))) fa_nil))) hN)
    (fss_cons (fs_if (ft_w (fw_or (ft_not (ft_val (fe_isiC T.b_isinstance T.m_Clash T.is_Clash (fe_var 10)))) (fw_or1 (ft_cmp (op_neA hr.units) f_ne (fe_tup (fa_cons (fe_fld T.fl_one (fe_var 10)) (fa_cons (fe_fld T.fl_other (fe_var 10)) fa_nil))) (fe_tup (fa_cons fe_int (fa_cons fe_int fa_nil))))))) (fss_one (fs_ret fe_bl)) fss_nil)
    (fss_cons (fs_set 11 (fe_call (FnB.fn B_judged hr) tk (lenA_cons (lenA_cons lenA_nil)) (fa_cons (fe_tup (fa_cons fe_int (fa_cons fe_int (fa_cons fe_int fa_nil)))) (fa_cons (fe_lst (fa_cons (fe_tup (fa_cons fe_int (fa_cons fe_int fa_nil))) (fa_cons (fe_tup (fa_cons fe_int (fa_cons fe_int fa_nil))) fa_nil))) fa_nil))) hN)
    (fss_one (fs_ret (fe_and (fe_cmp (op_eqA hr.units) f_eq (fe_tup (fa_cons (fe_fld T.fl_one (fe_var 8)) (fa_cons (fe_fld T.fl_other (fe_var 8)) fa_nil))) (fe_tup (fa_cons fe_int (fa_cons fe_int fa_nil)))) (fe_and (fe_isiC T.b_isinstance T.m_Fits T.is_Fits (fe_var 11)) (fe_one (fe_cmp (op_eqA hr.units) f_eq (fe_fld T.fl_course (fe_var 11)) (fe_lst (fa_cons fe_int (fa_cons fe_int fa_nil))))))))))))))))))
end
end L04
/-! PA: what the program's defs about settings and readings come to. -/
namespace L04
open PySem L2 Fx Pm
theorem e_clash {s : Set3} (h : OkS s) (a b : Rd2) (S : Sto) : c_clash [setD s, rdD a, rdD b] S = .ok (.bl (clashB s a b)) S := by
  refine gcF_pure ?_ (.bl _)
  have m1 := (ms h (b.1 - a.1)).1
  have m2 := (ms h (b.1 - a.1)).2
  have m3 : mulOk 2 s.s = true := mul_left (by decide) (by decide)
  simp [r_clash, fnOf_eq, m_clash, setD, rdD, m1, m2, m3, clashB]
theorem e_whole_int (i : Int) (S : Sto) : c_is_whole [.int i] S = .ok (.bl true) S := by
  refine gcF_pure ?_ (.bl _)
  simp [r_is_whole, fnOf_eq, m_is_whole]
theorem e_between_int (i a b : Int) (S : Sto) : c_is_between [.int i, .int a, .int b] S = .ok (.bl (decide (a ≤ i ∧ i ≤ b))) S := by
  refine gcF_pure ?_ (.bl _)
  simp [r_is_between, fnOf_eq, m_is_between, e_whole_int]
theorem e_check_settings {s : Set3} (h : OkS s) (S : Sto) : c_check_settings [setD s] S = .ok .non S := by
  refine gcF_pure ?_ .non
  obtain ⟨h1, h2, h3, h4, h5⟩ := h
  have h6 : s.l ≤ 9 := by omega
  simp [r_check_settings, fnOf_eq, m_check_settings, e_between_int, setD, h1, h2, h3, h4, h5, h6]
theorem e_is_reading {r : Rd2} (h : OkR1 r) (S : Sto) : c_is_reading [rdD r] S = .ok (.bl true) S := by
  refine gcF_pure ?_ (.bl _)
  obtain ⟨h1, h2, h3, h4⟩ := h
  simp [r_is_reading, fnOf_eq, m_is_reading, e_between_int, rdD, h1, h2, h3, h4]
theorem rds_get {rs : List Rd2} {i : Nat} {x : D} (h : (rs.map rdD)[i]? = some x) : ∃ r, rs[i]? = some r ∧ x = rdD r := by
  rw [List.getElem?_map, Option.map_eq_some_iff] at h
  obtain ⟨r, h1, h2⟩ := h
  exact ⟨r, h1, h2.symm⟩
theorem map_const {α β : Type} (xs : List α) (f : α → β) (b : β) (h : ∀ x ∈ xs, f x = b) : xs.map f = List.replicate xs.length b := List.eq_replicate_iff.mpr ⟨by simp, fun y hy => by
  obtain ⟨x, hx, rfl⟩ := List.mem_map.mp hy
  exact h x hx⟩
theorem lc_cr1 {rs : List Rd2} (h : OkR rs) {s : D} {n : Nat} {S : Sto} (hl : getL S n = some (rs.map rdD)) : ∃ k S2, lc_check_readings_1 [some s, some (.ref n), none, none, none] S = .ok (.ref k) S2 ∧ S <+: S2 ∧ bAll [.ref k] S2 = .ok (.bl true) S2 := by
  obtain ⟨S2, h1, h2, h3, h4⟩ := lc_laterM (vs := [2]) (it := iSeq (mVar 1)) (g := gN 2) (t := mYes) (e := mCall c_is_reading (mCons (mVar 2) mNil)) (env := [some s, some (.ref n), none, none, none]) (rs.map rdD) (fun _ => .bl true)
    (i_seq (S := S) (by simp) hl) List.prefix_rfl (by simp) (lim_lt (by have := h.len; rw [List.length_map]; omega)) (fun S2 p i => src_list (getL_pre hl p) i) fun i x hx S2 p => by
      obtain ⟨r, hr, rfl⟩ := rds_get hx
      simp [lcStep, wipeE, e_is_reading (h.all r (List.mem_of_getElem? hr))]
  refine ⟨_, S2, h1, h2, ?_⟩
  rw [b_all (bs := List.replicate rs.length true) (by rw [h3, List.map_const']; simp)]
  simp
theorem zip_tail (rs : List Rd2) : zipD (rs.map rdD) (rs.map rdD).tail = (rs.zip rs.tail).map fun p => .tup [rdD p.1, rdD p.2] := by
  rw [zipD, ← List.map_tail, List.zip_map, List.map_map]
  rfl
theorem lc_cr0 {rs : List Rd2} (h : OkR rs) {s : D} {n : Nat} {S : Sto} (hl : getL S n = some (rs.map rdD)) : ∃ k S2, lc_check_readings_0 [some s, some (.ref n), none, none, none] S = .ok (.ref k) S2 ∧ S <+: S2 ∧ bAny [.ref k] S2 = .ok (.bl false) S2 := by
  have hz : (rs.map rdD).length ≤ LIM := lim_le (by have := h.len; rw [List.length_map]; omega)
  have ln : (zipD (rs.map rdD) (rs.map rdD).tail).length = rs.length - 1 := by simp
  obtain ⟨S2, h1, h2, h3, h4⟩ := lc_laterM (vs := [3, 4]) (it := iZp (mCons (mVar 1) (mCons (mSl (mVar 1) (oS (mC (.int 1))) oN) mNil))) (g := gTp 2 (gCn (gN 3) (gCn (gN 4) gNl))) (t := mYes) (e := mBin vGe (mBin vIx (mVar 3) (mC (.int 0))) (mBin vIx (mVar 4) (mC (.int 0)))) (env := [some s, some (.ref n), none, none, none])
    (zipD (rs.map rdD) (rs.map rdD).tail) (fun _ => .bl false)
    (i_zip (S := S) (S1 := S ++ [.lst (rs.map rdD).tail]) (n := n) (k := S.length) (by simp [v_slL hl hz]) (getL_app hl) (getL_new S [] _)) (pre_app _ _) (by rw [ln, List.length_map]; omega) (lim_lt (by have := h.len; rw [ln]; omega)) (fun S2 p i => src_zip (getL_pre (getL_app hl) p) (getL_pre (getL_new S [] _) p) i) fun i x hx S2 p => by
      rw [zip_tail, List.getElem?_map, Option.map_eq_some_iff] at hx
      obtain ⟨p, hp, rfl⟩ := hx
      obtain ⟨h1, h2⟩ := List.getElem?_zip_eq_some.mp hp
      rw [List.getElem?_tail] at h2
      have hlt : p.1.1 < p.2.1 := by
        have q := List.pairwise_iff_getElem.mp h.up i (i + 1) (List.getElem?_eq_some_iff.mp h1).1 (List.getElem?_eq_some_iff.mp h2).1 (by omega)
        rw [(List.getElem?_eq_some_iff.mp h1).2, (List.getElem?_eq_some_iff.mp h2).2] at q
        exact q
      simp [lcStep, wipeE, rdD]
      omega
  refine ⟨_, S2, h1, h2, ?_⟩
  rw [b_any (bs := List.replicate (rs.length - 1) false) (by rw [h3, List.map_const', ln]; simp)]
  simp
theorem e_check_readings {s : Set3} (h : OkS s) {rs : List Rd2} (hr : OkR rs) {n : Nat} {S : Sto} (hl : getL S n = some (rs.map rdD)) : c_check_readings [setD s, .ref n] S = .ok .non S := by
  obtain ⟨k1, S1, h1, p1, q1⟩ := lc_cr1 hr (s := setD s) hl
  obtain ⟨k2, S2, h2, p2, q2⟩ := lc_cr0 hr (s := setD s) (getL_pre hl p1)
  have h8 : ¬ (8 : Int) < rs.length := by have := hr.len; omega
  refine gcF_pre ?_ (p1.trans p2) .non
  simp [r_check_readings, fnOf_eq, m_check_readings, e_check_settings h, ty_lst S hl, b_lenL S hl, h8, h1, q1, h2, q2]
end L04
/-! PB: clashes_of. -/
namespace L04
open PySem L2 Fx Pm
theorem rng_clU (s : Set3) (rs : List Rd2) (j : Nat) : (rngD 0 1 j).filterMap (fun d => match d with | .int z => if clashB s (rd rs z.toNat) (rd rs j) = true then some (prD (z, (j : Int))) else none | _ => none) = (clU s rs j).map prD := by
  rw [rngD, List.filterMap_map, clU, List.map_filterMap]
  congr 1
  funext i
  simp only [Function.comp, Int.mul_one, Int.zero_add, Int.toNat_natCast]
  split <;> simp
theorem lc_co {s : Set3} (h : OkS s) {rs : List Rd2} (hr : OkR rs) {n : Nat} {S : Sto} (hl : getL S n = some (rs.map rdD)) (x : Option D) (j : Nat) (hj : j < rs.length) : ∃ k S2, lc_clashes_of_0 [some (setD s), some (.ref n), x, some (.int (j : Nat)), some (rdD (rd rs j)), none] S = .ok (.ref k) S2 ∧ S <+: S2 ∧ getL S2 k = some ((clU s rs j).map prD) := by
  have hj8 : j < 8 := by have := hr.len; omega
  obtain ⟨S2, h1, h2, h3, h4⟩ := lc_later (vs := [5]) (it := iRg1 (mCons (mVar 3) mNil)) (g := gN 5) (t := mTest (mCall c_clash (mCons (mVar 0) (mCons (mBin vIx (mVar 1) (mVar 5)) (mCons (mVar 4) mNil))))) (e := mTup (mCons (mVar 5) (mCons (mVar 3) mNil)))
    (env := [some (setD s), some (.ref n), x, some (.int (j : Nat)), some (rdD (rd rs j)), none]) (rngD 0 1 j) (fun d => match d with | .int z => if clashB s (rd rs z.toNat) (rd rs j) = true then some (prD (z, (j : Int))) else none | _ => none)
    (i_rng1 (S := S) (j := j) (by simp) (by omega) (by omega)) List.prefix_rfl (by simp) (lim_lt (by simp; omega)) (fun S2 p i => src_rng 0 1 j S2 i) fun i d hd S2 p => by
      obtain ⟨hi, rfl⟩ := rngD_get hd
      have e : atI (rs.map rdD) (i : Int) = some (rdD (rd rs i)) := atI_nat (by rw [List.getElem?_map, rd_some (by omega)]; rfl)
      by_cases hc : clashB s (rd rs i) (rd rs j) = true
      · simp [lcStep, wipeE, getL_pre hl p, e, e_clash h, hc, prD]
      · simp [lcStep, wipeE, getL_pre hl p, e, e_clash h, hc]
  refine ⟨_, S2, h1, h2, ?_⟩
  rw [h3, rng_clU]
theorem e_clashes_of {s : Set3} (h : OkS s) {rs : List Rd2} (hr : OkR rs) {n : Nat} {S : Sto} (hl : getL S n = some (rs.map rdD)) : c_clashes_of [setD s, .ref n] S = .ok (.ref S.length) (S ++ [.lst ((clL s rs).map prD)]) := by
  have h8 := hr.len
  have hn : n ≠ S.length := Nat.ne_of_lt (getL_lt hl)
  obtain ⟨e', S', h1, x, y, rfl, p, q⟩ := for_inv (src := srcE n) (g := gTp 2 (gCn (gN 3) (gCn (gN 4) gNl))) (b := fb_clashes_of_0) (enumD (rs.map rdD))
    (fun i e St => ∃ x y, e = [some (setD s), some (.ref n), some (.ref S.length), x, y, none] ∧ S <+: St ∧ getL St S.length = some ((clAll s rs i).map prD))
    (fun i e St ⟨_, _, _, p, _⟩ => src_enum (getL_pre hl p) i)
    (fun i x e St hx ⟨u, v, he, p, q⟩ => by
      subst he
      obtain ⟨d, hd, rfl⟩ := enumD_get hx
      obtain ⟨r, hri, rfl⟩ := rds_get hd
      have hi := (List.getElem?_eq_some_iff.mp hri).1
      obtain ⟨k, S2, a1, a2, a3⟩ := lc_co h hr (getL_pre hl p) (some (.ref S.length)) i hi
      rw [rd_eq hri] at a1
      have b1 := getL_pre q a2
      have b2 : ((clAll s rs i).map prD).length + ((clU s rs i).map prD).length ≤ LIM := by
        have c1 := clAll_len s rs i
        have c2 := clU_len s rs i
        have c3 : i * i ≤ 8 * 8 := Nat.mul_le_mul (by omega) (by omega)
        rw [List.length_map, List.length_map]
        exact lim_le (by omega)
      refine ⟨[some (setD s), some (.ref n), some (.ref S.length), some (.int (i : Nat)), some (rdD r), none], S2.set S.length (.lst ((clAll s rs i).map prD ++ (clU s rs i).map prD)), by simp [turn, fb_clashes_of_0, isL_of q, a1, mt_ext b1 a3 b2], _, _, rfl, pre_set _ (p.trans a2) (Nat.le_refl _), ?_⟩
      rw [getL_set _ (getL_lt b1), clAll_succ, List.map_append])
    (fuel := rs.length + 1) (by simp) (e := [some (setD s), some (.ref n), some (.ref S.length), none, none, none]) (S := S ++ [.lst []]) ⟨none, none, rfl, pre_app _ _, getL_new S [] _⟩
  have h2 : fo_clashes_of_0 [some (setD s), some (.ref n), some (.ref S.length), none, none, none] (S ++ [.lst []]) = .nx [some (setD s), some (.ref n), some (.ref S.length), x, y, none] S' := by
    rw [fo_clashes_of_0, m_for (i_enum (n := n) (S1 := S ++ [.lst []]) (by simp) (getL_app hl)), List.length_map]
    exact h1
  rw [enumD_len, List.length_map] at q
  have c1 := clAll_len s rs rs.length
  have c3 : rs.length * rs.length ≤ 8 * 8 := Nat.mul_le_mul h8 h8
  have h3 := b_sorted_prs q (lim_le (by omega))
  refine gcF_preL (k := S'.length) (S' := S' ++ [.lst ((clL s rs).map prD)]) ?_ (p.trans (pre_app _ _)) (getL_new S' [] _) p.length_le (bel_prs _ _)
  simp [r_clashes_of, fnOf_eq, m_clashes_of, newL_ok (show ([] : List D).length ≤ LIM by decide), h2, h3, clL]
end L04
/-! PC: course_of. -/
namespace L04
open PySem L2 Fx Pm
def tkO (rs : List Rd2) : Nat → D
  | 0 => .non
  | i + 1 => .int (tk rs i)
theorem t_course_1 {s : Set3} (h : OkS s) {rs : List Rd2} (hr : OkR rs) {n k : Nat} {St : Sto} {i : Nat} (hi : i < rs.length) (hk : getL St k = some (upD (leastN s rs) i)) (a b c d e f g : Option D) :
    turn (gTp 2 (gCn (gN 7) (gCn (gN 8) gNl))) fb_course_of_1 (rdD (rd rs i)) [some (setD s), some (.ref n), some (.int s.l), some (.int s.h), some (.int s.s), some (.ref k), some (tkO rs i), a, b, c, d, e, f, g] St
      = .nx [some (setD s), some (.ref n), some (.int s.l), some (.int s.h), some (.int s.s), some (.ref k), some (tkO rs (i + 1)), some (.int (tk rs i)), some (.int (vl rs i)), some (.int (leastN s rs i)), d, e, f, g] (St.set k (.lst (upD (leastN s rs) (i + 1)))) := by
  have h8 := hr.len
  have hm := mt_app (y := .int (leastN s rs i)) hk (lim_lt (by rw [upD_len]; omega))
  rw [← upD_succ] at hm
  cases i with
  | zero =>
    simp only [leastN, vl] at hm
    simp [turn, fb_course_of_1, rdD, tkO, isL_of hk, hm, vl, tk, leastN]
  | succ i =>
    simp only [leastN, vl, tk, gt_iff_lt] at hm
    have m1 := (ms h ((rd rs (i + 1)).1 - (rd rs i).1)).1
    simp [turn, fb_course_of_1, rdD, tkO, isL_of hk, hm, hk, upD_last, vl, tk, m1, leastN]
theorem t_course_0 {s : Set3} (h : OkS s) {rs : List Rd2} (hr : OkR rs) {n k k2 : Nat} {St : Sto} {i : Nat} (hi : i + 1 < rs.length) (hl : getL St n = some (rs.map rdD)) (hk : getL St k = some (upD (leastN s rs) rs.length)) (h2 : getL St k2 = some (upD (backN s rs) (i + 1))) (o a b c d f g : Option D) :
    ∃ d' f' g', turn (gN 11) fb_course_of_0 (.int (i : Nat)) [some (setD s), some (.ref n), some (.int s.l), some (.int s.h), some (.int s.s), some (.ref k), o, a, b, c, some (.ref k2), d, f, g] St
      = .nx [some (setD s), some (.ref n), some (.int s.l), some (.int s.h), some (.int s.s), some (.ref k), o, a, b, c, some (.ref k2), d', f', g'] (St.set k2 (.lst (upD (backN s rs) (i + 1 + 1)))) := by
  have h8 := hr.len
  have hm := mt_app (y := .int (backN s rs (i + 1))) h2 (lim_lt (by rw [upD_len]; omega))
  rw [← upD_succ] at hm
  have e1 : ((rs.map rdD).length : Int) - 2 - (i : Int) = ((rs.length - 2 - i : Nat) : Int) := by rw [List.length_map]; omega
  have e2 : (((rs.length - 2 - i : Nat) : Int) + 1) = ((rs.length - 2 - i + 1 : Nat) : Int) := by omega
  have a1 : atI (rs.map rdD) ((rs.length - 2 - i : Nat) : Int) = some (rdD (rd rs (rs.length - 2 - i))) := atI_nat (by rw [List.getElem?_map, rd_some (by omega)]; rfl)
  have a2 : atI (rs.map rdD) ((rs.length - 2 - i + 1 : Nat) : Int) = some (rdD (rd rs (rs.length - 2 - i + 1))) := atI_nat (by rw [List.getElem?_map, rd_some (by omega)]; rfl)
  have a3 := upD_at (leastN s rs) (n := rs.length) (i := rs.length - 2 - i) (by omega)
  have a4 := upD_last (backN s rs) i
  simp only [backN, vl, tk, gt_iff_lt] at hm
  have m1 := (ms h ((rd rs (rs.length - 2 - i + 1)).1 - (rd rs (rs.length - 2 - i)).1)).2
  refine ⟨some (.int (i : Nat)), some (.int ((rs.length - 2 - i : Nat) : Int)), some (.int ((rd rs (rs.length - 2 - i + 1)).1 - (rd rs (rs.length - 2 - i)).1)), ?_⟩
  generalize rs.length - 2 - i = j at *
  have b1 := b_lenL St hl
  simp only [turn, fb_course_of_0, eg_n, List.set, es_seq, es_asg, ev_bin, ev_call, ev_cons, ev_nil, ev_varS, ev_var0, R.bind, b1, ev_c, v_sub, e1, toS_ok, v_add, e2, v_ixL, hl, a1, a2, rdD, v_ixT, atI_0, es_exp, ev_mtL, isL_of h2, if_true, hk, a3, ev_un, v_neg, a4, h2, v_mul, m1, b_max2, hm, gt_iff_lt]
theorem l_course_1 {s : Set3} (h : OkS s) {rs : List Rd2} (hr : OkR rs) {n : Nat} {S : Sto} (hl : getL S n = some (rs.map rdD)) : ∃ o a b c S2, fo_course_of_1 [some (setD s), some (.ref n), some (.int s.l), some (.int s.h), some (.int s.s), some (.ref S.length), some .non, none, none, none, none, none, none, none] (S ++ [.lst []]) = .nx [some (setD s), some (.ref n), some (.int s.l), some (.int s.h), some (.int s.s), some (.ref S.length), o, a, b, c, none, none, none, none] S2 ∧ S <+: S2 ∧ getL S2 S.length = some (upD (leastN s rs) rs.length) := by
  obtain ⟨e', S', h1, a, b, c, rfl, p, q⟩ := for_inv (src := srcL n) (g := gTp 2 (gCn (gN 7) (gCn (gN 8) gNl))) (b := fb_course_of_1) (rs.map rdD)
    (fun i e St => ∃ a b c, e = [some (setD s), some (.ref n), some (.int s.l), some (.int s.h), some (.int s.s), some (.ref S.length), some (tkO rs i), a, b, c, none, none, none, none] ∧ S <+: St ∧ getL St S.length = some (upD (leastN s rs) i))
    (fun i e St ⟨_, _, _, _, p, _⟩ => src_list (getL_pre hl p) i)
    (fun i x e St hx ⟨a, b, c, he, p, q⟩ => by
      subst he
      obtain ⟨r, hri, rfl⟩ := rds_get hx
      have hi := (List.getElem?_eq_some_iff.mp hri).1
      have := t_course_1 h hr (n := n) hi q a b c none none none none
      rw [rd_eq hri] at this
      exact ⟨_, _, this, _, _, _, rfl, pre_set _ p (Nat.le_refl _), getL_set _ (getL_lt q)⟩)
    (fuel := rs.length + 1) (by simp) (e := [some (setD s), some (.ref n), some (.int s.l), some (.int s.h), some (.int s.s), some (.ref S.length), some .non, none, none, none, none, none, none, none]) (S := S ++ [.lst []]) ⟨none, none, none, rfl, pre_app _ _, getL_new S [] _⟩
  refine ⟨some (tkO rs rs.length), a, b, c, S', ?_, p, by rw [List.length_map] at q; exact q⟩
  rw [fo_course_of_1, m_for (i_seq (n := n) (S1 := S ++ [.lst []]) (by simp) (getL_app hl)), List.length_map]
  rw [List.length_map] at h1
  exact h1
theorem l_course_0 {s : Set3} (h : OkS s) {rs : List Rd2} (hr : OkR rs) {n k : Nat} {S : Sto} (hl : getL S n = some (rs.map rdD)) (hk : getL S k = some (upD (leastN s rs) rs.length)) (o a b c : Option D) : ∃ d f g S2, fo_course_of_0 [some (setD s), some (.ref n), some (.int s.l), some (.int s.h), some (.int s.s), some (.ref k), o, a, b, c, some (.ref S.length), none, none, none] (S ++ [.lst (upD (backN s rs) (min rs.length 1))]) = .nx [some (setD s), some (.ref n), some (.int s.l), some (.int s.h), some (.int s.s), some (.ref k), o, a, b, c, some (.ref S.length), d, f, g] S2 ∧ S <+: S2 ∧ getL S2 S.length = some (upD (backN s rs) rs.length) := by
  have h8 := hr.len
  obtain ⟨e', S', h1, d, f, g, rfl, p, q⟩ := for_inv (src := srcR 0 1 (rs.length - 1)) (g := gN 11) (b := fb_course_of_0) (rngD 0 1 (rs.length - 1))
    (fun i e St => ∃ d f g, e = [some (setD s), some (.ref n), some (.int s.l), some (.int s.h), some (.int s.s), some (.ref k), o, a, b, c, some (.ref S.length), d, f, g] ∧ S <+: St ∧ getL St S.length = some (upD (backN s rs) (i + min rs.length 1)))
    (fun i e St _ => src_rng _ _ _ _ _)
    (fun i x e St hx ⟨d, f, g, he, p, q⟩ => by
      subst he
      obtain ⟨hi, rfl⟩ := rngD_get hx
      have e1 : min rs.length 1 = 1 := by omega
      rw [e1] at q ⊢
      obtain ⟨d', f', g', t⟩ := t_course_0 h hr (by omega) (getL_pre hl p) (getL_pre hk p) q o a b c d f g
      rw [show (0 : Int) + (i : Nat) * 1 = (i : Nat) by omega]
      exact ⟨_, _, t, _, _, _, rfl, pre_set _ p (Nat.le_refl _), getL_set _ (getL_lt q)⟩)
    (fuel := rs.length - 1 + 1) (by simp) (e := [some (setD s), some (.ref n), some (.int s.l), some (.int s.h), some (.int s.s), some (.ref k), o, a, b, c, some (.ref S.length), none, none, none]) (S := S ++ [.lst (upD (backN s rs) (min rs.length 1))]) ⟨none, none, none, rfl, pre_app _ _, by rw [Nat.zero_add]; exact getL_new S [] _⟩
  refine ⟨d, f, g, S', ?_, p, by rw [rngD_len, show rs.length - 1 + min rs.length 1 = rs.length by omega] at q; exact q⟩
  rw [fo_course_of_0, m_for (i_rng1 (j := (rs.length : Int) - 1) (S1 := S ++ [.lst (upD (backN s rs) (min rs.length 1))]) (by simp [b_lenL _ (getL_app hl)]) (by omega) (by omega)), show ((rs.length : Int) - 1).toNat = rs.length - 1 by omega]
  exact h1
theorem cut_up (s : Set3) (rs : List Rd2) : cutD (upD (leastN s rs) rs.length) (some (-1)) none = upD (backN s rs) (min rs.length 1) := by
  rw [cut_last, upD_len]
  cases h : rs.length with
  | zero => rfl
  | succ m =>
    rw [Nat.succ_sub_one, upD_succ, List.drop_left' (by simp), show min (m + 1) 1 = 1 by omega]
    simp [upD, backN, h]
theorem e_course_of {s : Set3} (h : OkS s) {rs : List Rd2} (hr : OkR rs) {n : Nat} {S : Sto} (hl : getL S n = some (rs.map rdD)) : c_course_of [setD s, .ref n] S = .ok (.ref S.length) (S ++ [.lst ((crsL s rs).map D.int)]) := by
  have h8 := hr.len
  obtain ⟨o, a, b, c, S1, h1, p1, q1⟩ := l_course_1 h hr hl
  have h2 := v_slL (lo := some (-1)) (hi := none) q1 (lim_le (by rw [upD_len]; omega))
  rw [cut_up] at h2
  obtain ⟨d, f, g, S2, h3, p3, q3⟩ := l_course_0 h hr (getL_pre hl p1) q1 o a b c
  have h4 := v_rev q3 (lim_le (by rw [upD_len]; omega))
  rw [rev_back] at h4
  refine gcF_preL (k := S2.length) (S' := S2 ++ [.lst ((crsL s rs).map D.int)]) ?_ ((p1.trans p3).trans (pre_app _ _)) (getL_new S2 [] _) (p1.trans p3).length_le (belS_ints _)
  simp [r_course_of, fnOf_eq, m_course_of, setD, newL_ok (show ([] : List D).length ≤ LIM by decide)]
  simp only [setD] at h1 h3
  simp [h1, h2, h3, h4]
end L04
/-! PD: fits. -/
namespace L04
open PySem L2 Fx Pm
def nearB (s : Set3) (p : Int × Rd2) : Bool := decide ((if p.1 - p.2.2 < 0 then -(p.1 - p.2.2) else p.1 - p.2.2) ≤ s.s)
theorem nearB_iff {s : Set3} {p : Int × Rd2} : nearB s p = true ↔ p.2.2 - s.s ≤ p.1 ∧ p.1 ≤ p.2.2 + s.s := by
  rw [nearB, decide_eq_true_iff]
  split <;> omega
def nearD (s : Set3) (d : D) : D := match d with
  | .tup [.int c, .tup [.int t, .int v]] => .bl (nearB s (c, (t, v)))
  | _ => .non
theorem zip_cr (cs : List Int) (rs : List Rd2) : zipD (cs.map D.int) (rs.map rdD) = (cs.zip rs).map fun p => .tup [.int p.1, rdD p.2] := by
  rw [zipD, List.zip_map, List.map_map]
  rfl
theorem lc_fit {s : Set3} {rs : List Rd2} {cs : List Int} {n k : Nat} {S : Sto} (hl : getL S n = some (rs.map rdD)) (hk : getL S k = some (cs.map D.int)) (hlen : cs.length ≤ 1000) (a b : Option D) (c d : Option D) (e : Option D) : ∃ m S2, lc_fits_0 [a, some (.ref n), some (.ref k), b, c, some (.int s.s), none, none, d, e, none] S = .ok (.ref m) S2 ∧ S <+: S2 ∧ bAll [.ref m] S2 = .ok (.bl ((cs.zip rs).all (nearB s))) S2 := by
  have ln : (zipD (cs.map D.int) (rs.map rdD)).length ≤ cs.length := by simp; omega
  obtain ⟨S2, h1, h2, h3, h4⟩ := lc_laterM (vs := [6, 7]) (it := iZp (mCons (mVar 2) (mCons (mVar 1) mNil))) (g := gTp 2 (gCn (gN 6) (gCn (gN 7) gNl))) (t := mYes) (e := mBin vLe (mCall bAbs (mCons (mBin vSub (mVar 6) (mBin vIx (mVar 7) (mC (.int 1)))) mNil)) (mVar 5))
    (env := [a, some (.ref n), some (.ref k), b, c, some (.int s.s), none, none, d, e, none]) (zipD (cs.map D.int) (rs.map rdD)) (nearD s)
    (i_zip (S := S) (S1 := S) (n := k) (k := n) (by simp) hk hl) List.prefix_rfl (by rw [List.length_map]; omega) (lim_lt (by omega)) (fun S2 p i => src_zip (getL_pre hk p) (getL_pre hl p) i) fun i x hx S2 p => by
      rw [zip_cr, List.getElem?_map, Option.map_eq_some_iff] at hx
      obtain ⟨q, hq, rfl⟩ := hx
      simp [lcStep, wipeE, rdD, nearD, nearB]
  refine ⟨_, S2, h1, h2, ?_⟩
  have e : (zipD (cs.map D.int) (rs.map rdD)).map (nearD s) = ((cs.zip rs).map (nearB s)).map D.bl := by
    rw [zip_cr, List.map_map, List.map_map]
    rfl
  rw [b_all (bs := (cs.zip rs).map (nearB s)) (by rw [h3, e]), List.all_map]
  rfl
theorem t_fits {s : Set3} (h : OkS s) {rs : List Rd2} {cs : List Int} (e : cs.length = rs.length) {n k : Nat} {S : Sto} (hl : getL S n = some (rs.map rdD)) (hk : getL S k = some (cs.map D.int)) (hlen : cs.length ≤ 1000) (hn : (cs.zip rs).all (nearB s) = true) (a : Option D) : (∃ b c d S2, fo_fits_0 [a, some (.ref n), some (.ref k), some (.int s.l), some (.int s.h), some (.int s.s), none, none, none, none, none] S = .nx [a, some (.ref n), some (.ref k), some (.int s.l), some (.int s.h), some (.int s.s), none, none, b, c, d] S2 ∧ S2 = S ∧ FitsP s rs cs) ∨ fo_fits_0 [a, some (.ref n), some (.ref k), some (.int s.l), some (.int s.h), some (.int s.s), none, none, none, none, none] S = .rt (.bl false) S ∧ ¬ FitsP s rs cs := by
  have hf : fo_fits_0 [a, some (.ref n), some (.ref k), some (.int s.l), some (.int s.h), some (.int s.s), none, none, none, none, none] S = Fx.forM (srcR 0 1 (cs.length - 1)) (gN 8) fb_fits_0 (cs.length - 1 + 1) 0 [a, some (.ref n), some (.ref k), some (.int s.l), some (.int s.h), some (.int s.s), none, none, none, none, none] S := by
    rw [fo_fits_0, m_for (i_rng1 (j := (cs.length : Int) - 1) (S1 := S) (by simp [b_lenL _ hk]) (by omega) (by omega)), show ((cs.length : Int) - 1).toNat = cs.length - 1 by omega]
  rw [hf]
  have key := for_ret (src := srcR 0 1 (cs.length - 1)) (g := gN 8) (b := fb_fits_0) (rngD 0 1 (cs.length - 1))
    (fun i e St => St = S ∧ ∃ b c d, e = [a, some (.ref n), some (.ref k), some (.int s.l), some (.int s.h), some (.int s.s), none, none, b, c, d] ∧ ∀ j, j < i → ∀ (c c' : Int) (r r' : Rd2), cs[j]? = some c → cs[j + 1]? = some c' → rs[j]? = some r → rs[j + 1]? = some r' → s.l * (r'.1 - r.1) ≤ c' - c ∧ c' - c ≤ s.h * (r'.1 - r.1))
    (fun d St => d = .bl false ∧ St = S ∧ ¬ FitsP s rs cs)
    (fun i e St _ => src_rng _ _ _ _ _)
    (fun i x e2 St hx ⟨hS, b, c, d, he, hj⟩ => by
      subst he hS
      obtain ⟨hi, rfl⟩ := rngD_get hx
      rw [show (0 : Int) + (i : Nat) * 1 = (i : Nat) by omega]
      have c1 : cs[i]? = some cs[i] := by simp
      have c2 : cs[i + 1]? = some cs[i + 1] := by simp
      have r1 : rs[i]? = some (rd rs i) := rd_some (by omega)
      have r2 : rs[i + 1]? = some (rd rs (i + 1)) := rd_some (by omega)
      have a1 : atI (rs.map rdD) ((i : Nat) : Int) = some (rdD (rd rs i)) := atI_nat (by rw [List.getElem?_map, r1]; rfl)
      have a2 : atI (rs.map rdD) ((i + 1 : Nat) : Int) = some (rdD (rd rs (i + 1))) := atI_nat (by rw [List.getElem?_map, r2]; rfl)
      have a3 : atI (cs.map D.int) ((i : Nat) : Int) = some (.int cs[i]) := atI_nat (by rw [List.getElem?_map, c1]; rfl)
      have a4 : atI (cs.map D.int) ((i + 1 : Nat) : Int) = some (.int cs[i + 1]) := atI_nat (by rw [List.getElem?_map, c2]; rfl)
      have e1 : ((i : Nat) : Int) + 1 = ((i + 1 : Nat) : Int) := by omega
      have m1 := ms h ((rd rs (i + 1)).1 - (rd rs i).1)
      by_cases hc : s.l * ((rd rs (i + 1)).1 - (rd rs i).1) ≤ cs[i + 1] - cs[i] ∧ cs[i + 1] - cs[i] ≤ s.h * ((rd rs (i + 1)).1 - (rd rs i).1)
      · refine .inl ⟨[a, some (.ref n), some (.ref k), some (.int s.l), some (.int s.h), some (.int s.s), none, none, some (.int (i : Nat)), some (.int ((rd rs (i + 1)).1 - (rd rs i).1)), some (.int (cs[i + 1] - cs[i]))], St, ?_, rfl, _, _, _, rfl, fun j hji => ?_⟩
        · simp only [turn, fb_fits_0, eg_n, List.set, es_seq, es_par2, ev_cons, ev_nil, ev_bin, ev_varS, ev_var0, R.bind, v_ixL, hl, hk, ev_c, v_add, e1, a1, a2, a3, a4, rdD, v_ixT, atI_0, v_sub, es_if, ev_not, ev_test, ev_ch2, v_mul, m1.1, m1.2, if_true, v_le, ev_isB, hc.1, hc.2, decide_true, Bool.not_true, es_skip, Bool.false_eq_true, if_false]
        · rcases Nat.lt_or_eq_of_le (Nat.le_of_lt_succ hji) with h1 | h1
          · exact hj j h1
          · subst h1
            intro d d' r r' q1 q2 q3 q4
            rw [c1] at q1; rw [c2] at q2; rw [r1] at q3; rw [r2] at q4
            cases q1; cases q2; cases q3; cases q4
            exact hc
      · refine .inr ⟨.bl false, St, ?_, rfl, rfl, fun hF => hc (hF.step i _ _ _ _ c1 c2 r1 r2)⟩
        simp only [turn, fb_fits_0, eg_n, List.set, es_seq, es_par2, ev_cons, ev_nil, ev_bin, ev_varS, ev_var0, R.bind, v_ixL, hl, hk, ev_c, v_add, e1, a1, a2, a3, a4, rdD, v_ixT, atI_0, v_sub, es_if, ev_not, ev_test, ev_ch2, v_mul, m1.1, m1.2, if_true, v_le, ev_isB]
        by_cases hc1 : s.l * ((rd rs (i + 1)).1 - (rd rs i).1) ≤ cs[i + 1] - cs[i]
        · have hc2 : ¬ cs[i + 1] - cs[i] ≤ s.h * ((rd rs (i + 1)).1 - (rd rs i).1) := fun h2 => hc ⟨hc1, h2⟩
          simp [hc1, hc2]
        · simp [hc1])
    (fuel := cs.length - 1 + 1) (by simp) (e := [a, some (.ref n), some (.ref k), some (.int s.l), some (.int s.h), some (.int s.s), none, none, none, none, none]) (S := S) ⟨rfl, none, none, none, rfl, fun j hj => absurd hj (Nat.not_lt_zero j)⟩
  rcases key with ⟨e', S', h1, rfl, b, c, d, rfl, hj⟩ | ⟨d, S', h1, rfl, rfl, hF⟩
  · refine .inl ⟨b, c, d, S', h1, rfl, e, ?_, ?_⟩
    · intro i c r h1 h2
      have := List.all_eq_true.mp hn (c, r) (List.mem_of_getElem? (List.getElem?_zip_eq_some.mpr ⟨h1, h2⟩))
      exact nearB_iff.mp this
    · intro i c c' r r' h1 h2 h3 h4
      refine hj i ?_ c c' r r' h1 h2 h3 h4
      have := (List.getElem?_eq_some_iff.mp h2).1
      rw [rngD_len]
      omega
  · exact .inr ⟨h1, hF⟩
theorem e_fits {s : Set3} (h : OkS s) {rs : List Rd2} {cs : List Int} {n k : Nat} {S : Sto} (hl : getL S n = some (rs.map rdD)) (hk : getL S k = some (cs.map D.int)) (hlen : cs.length ≤ 1000) : c_fits [setD s, .ref n, .ref k] S = .ok (.bl (fitsB s rs cs)) S := by
  by_cases e : cs.length = rs.length
  · obtain ⟨m, S2, h1, p, h2⟩ := lc_fit (s := s) hl hk hlen (some (setD s)) (some (.int s.l)) (some (.int s.h)) none none
    simp only [setD] at h1
    refine gcF_pre (S' := S2) ?_ p (.bl _)
    cases hn : (cs.zip rs).all (nearB s) with
    | false =>
      rw [hn] at h2
      have hF : ¬ FitsP s rs cs := fun hF => by
        rw [List.all_eq_false] at hn
        obtain ⟨q, hq, hb⟩ := hn
        obtain ⟨i, hi⟩ := List.getElem?_of_mem hq
        obtain ⟨i1, i2⟩ := List.getElem?_zip_eq_some.mp hi
        exact hb (nearB_iff.mpr (hF.near i _ _ i1 i2))
      simp [r_fits, fnOf_eq, m_fits, setD, b_lenL S hl, b_lenL S hk, e, h1, h2, fitsB_false hF]
    | true =>
      rw [hn] at h2
      rcases t_fits h e (getL_pre hl p) (getL_pre hk p) hlen hn (some (setD s)) with ⟨b, c, d, S3, q1, rfl, hF⟩ | ⟨q1, hF⟩
      · simp only [setD] at q1
        simp [r_fits, fnOf_eq, m_fits, setD, b_lenL S hl, b_lenL S hk, e, h1, h2, q1, fitsB_true hF]
      · simp only [setD] at q1
        simp [r_fits, fnOf_eq, m_fits, setD, b_lenL S hl, b_lenL S hk, e, h1, h2, q1, fitsB_false hF]
  · have hF : ¬ FitsP s rs cs := fun hF => e hF.len
    have e2 : ¬ (cs.length : Int) = rs.length := by omega
    refine gcF_pure ?_ (.bl _)
    simp [r_fits, fnOf_eq, m_fits, setD, b_lenL S hl, b_lenL S hk, e2, fitsB_false hF]
end L04
/-! PE: the answers; judged. -/
namespace L04
open PySem L2 Fx Pm
theorem e_Fits_init {S : Sto} {k : Nat} {xs : List D} (h : getL S k = some xs) (hl : xs.length ≤ LIM) : r_Fits_init [.ref S.length, .ref k] (S ++ [.ins k_Fits []]) = .ok .non (S ++ [.ins k_Fits (fFits (S.length + 1)), .lst xs]) := by
  have h1 := b_list (getL_app (T := [.ins k_Fits []]) h) hl
  simp [r_Fits_init, fnOf_eq, m_Fits_init, mSetF, h1, insAt, putD, fFits]
theorem mk_Fits {S S1 : Sto} {env : En} {a : MA} {k : Nat} {xs : List D} (ha : a env S = .ok [.ref k] S1) (h : getL S1 k = some xs) (hl : xs.length ≤ LIM) : mMake k_Fits r_Fits_init a env S = .ok (.ref S1.length) (S1 ++ [.ins k_Fits (fFits (S1.length + 1)), .lst xs]) := by
  simp [mMake, ha, e_Fits_init h hl]
theorem e_Clash_init {S : Sto} (a b : Int) : r_Clash_init [.ref S.length, .int a, .int b] (S ++ [.ins k_Clash []]) = .ok .non (S ++ [.ins k_Clash (fClash a b)]) := by
  have e : ("one" : Str) ≠ "other" := by decide
  simp [r_Clash_init, fnOf_eq, m_Clash_init, mSetF, insAt, putD, fClash, e]
theorem mk_Clash {S S1 : Sto} {env : En} {m : MA} {a b : Int} (ha : m env S = .ok [.int a, .int b] S1) : mMake k_Clash r_Clash_init m env S = .ok (.ref S1.length) (S1 ++ [.ins k_Clash (fClash a b)]) := by
  simp [mMake, ha, e_Clash_init]
theorem e_Fits_shows {s : Set3} (h : OkS s) {rs : List Rd2} {cs : List Int} {S : Sto} {n r m : Nat} (hn : S[n]? = some (.ins k_Fits (fFits m))) (hm : getL S m = some (cs.map D.int)) (hr : getL S r = some (rs.map rdD)) (hlen : cs.length ≤ 1000) : c_Fits_shows [.ref n, setD s, .ref r] S = .ok (.bl (fitsB s rs cs)) S := by
  refine gcF_pure ?_ (.bl _)
  simp [r_Fits_shows, fnOf_eq, m_Fits_shows, mFld, insAt, hn, e_fits h hr hm hlen]
def clashAt (s : Set3) (rs : List Rd2) (a b : Int) : Bool := decide (0 ≤ a ∧ a < b ∧ b < rs.length) && clashB s (rd rs a.toNat) (rd rs b.toNat)
theorem e_Clash_shows {s : Set3} (h : OkS s) {rs : List Rd2} {a b : Int} {S : Sto} {n r : Nat} (hn : S[n]? = some (.ins k_Clash (fClash a b))) (hr : getL S r = some (rs.map rdD)) : c_Clash_shows [.ref n, setD s, .ref r] S = .ok (.bl (clashAt s rs a b)) S := by
  refine gcF_pure ?_ (.bl _)
  by_cases hc : 0 ≤ a ∧ a < b ∧ b < rs.length
  · obtain ⟨i, rfl⟩ := Int.eq_ofNat_of_zero_le hc.1
    obtain ⟨j, rfl⟩ := Int.eq_ofNat_of_zero_le (show 0 ≤ b by omega)
    have a1 : atI (rs.map rdD) ((i : Nat) : Int) = some (rdD (rd rs i)) := atI_nat (by rw [List.getElem?_map, rd_some (by omega)]; rfl)
    have a2 : atI (rs.map rdD) ((j : Nat) : Int) = some (rdD (rd rs j)) := atI_nat (by rw [List.getElem?_map, rd_some (by omega)]; rfl)
    have hij : i < j := by omega
    have hj : j < rs.length := by omega
    simp [r_Clash_shows, fnOf_eq, m_Clash_shows, mFld, insAt, hn, b_lenL S hr, hr, a1, a2, e_clash h, clashAt, hij, hj]
  · have e : clashAt s rs a b = false := by simp [clashAt, hc]
    rw [e]
    simp [r_Clash_shows, fnOf_eq, m_Clash_shows, mFld, insAt, hn, b_lenL S hr]
    rw [if_pos (by omega)]
/-- what judged comes to: a Fits, a Clash -/
theorem e_judged {s : Set3} (h : OkS s) {rs : List Rd2} (hr : OkR rs) {n : Nat} {S : Sto} (hl : getL S n = some (rs.map rdD)) : ∃ k S', c_judged [setD s, .ref n] S = .ok (.ref k) S' ∧ S <+: S' ∧ S.length ≤ k ∧
    ((clL s rs = [] ∧ ∃ m, S'[k]? = some (.ins k_Fits (fFits m)) ∧ getL S' m = some ((crsL s rs).map D.int) ∧ S.length ≤ m) ∨ (∃ p t, clL s rs = p :: t ∧ S'[k]? = some (.ins k_Clash (fClash p.1 p.2)))) := by
  have h8 := hr.len
  obtain ⟨S1, e1, p1, g1⟩ : ∃ S1, c_clashes_of [setD s, .ref n] S = .ok (.ref S.length) S1 ∧ S <+: S1 ∧ getL S1 S.length = some ((clL s rs).map prD) := ⟨_, e_clashes_of h hr hl, pre_app _ _, getL_new S [] _⟩
  obtain ⟨S2, e2, p2, g2⟩ := newL_ex (xs := []) (by decide) S1
  have n2 := v_ne_prs (qs := []) (getL_pre g1 p2) g2
  cases hc : clL s rs with
  | nil =>
    obtain ⟨S3, e3, p3, g3⟩ : ∃ S3, c_course_of [setD s, .ref n] S2 = .ok (.ref S2.length) S3 ∧ S2 <+: S3 ∧ getL S3 S2.length = some ((crsL s rs).map D.int) := ⟨_, e_course_of h hr (getL_pre hl (p1.trans p2)), pre_app _ _, getL_new S2 [] _⟩
    have l1 : ((crsL s rs).map D.int).length ≤ LIM := lim_le (by simp [crsL]; omega)
    have p := (p1.trans p2).trans p3
    refine ⟨S3.length, S3 ++ [.ins k_Fits (fFits (S3.length + 1)), .lst ((crsL s rs).map D.int)], gcF_ins (c := k_Fits) (fs := fFits (S3.length + 1)) ?_ (by simp) p.length_le, p.trans (pre_app _ _), p.length_le, .inl ⟨rfl, S3.length + 1, by simp, getL_some.mpr (by simp), by have := p.length_le; omega⟩⟩
    have f1 := mk_Fits (env := [some (setD s), some (.ref n), some (.ref S.length)]) (a := mCons (mCall c_course_of (mCons (mVar 0) (mCons (mVar 1) mNil))) mNil) (S := S2) (by simp [e3]) g3 l1
    simp [hc] at n2
    simp [r_judged, fnOf_eq, m_judged, e_check_readings h hr hl, e1, e2, n2, f1]
  | cons q t =>
    have p := p1.trans p2
    refine ⟨S2.length, S2 ++ [.ins k_Clash (fClash q.1 q.2)], gcF_ins (c := k_Clash) (fs := fClash q.1 q.2) ?_ (by simp) p.length_le, p.trans (pre_app _ _), p.length_le, .inr ⟨q, t, rfl, by simp⟩⟩
    have g3 := getL_pre g1 p2
    rw [hc] at g3
    have f1 := mk_Clash (a := q.1) (b := q.2) (env := [some (setD s), some (.ref n), some (.ref S.length)]) (m := mCons (mBin vIx (mBin vIx (mVar 2) (mC (.int 0))) (mC (.int 0))) (mCons (mBin vIx (mBin vIx (mVar 2) (mC (.int 0))) (mC (.int 1))) mNil)) (S := S2) (S1 := S2) (by simp [g3, prD])
    simp [hc] at n2
    simp [r_judged, fnOf_eq, m_judged, e_check_readings h hr hl, e1, e2, n2, f1]
end L04
/-! PF: the law's own helpers: numbers, settings, readings. -/
namespace L04
open PySem L2 Fx Pm
theorem e_number {c a w : Int} (h1 : 0 ≤ a) (h2 : a ≤ 1000) (hc : Big c) (S : Sto) : c__law_number [.int c, .int a, .int w] S = .ok (.int (numN c a w)) S := by
  refine gcF_pure ?_ (.int _)
  have p1 : vPow (.int 10) (.int 18) S = .ok (.int 1000000000000000000) S := rfl
  by_cases h : 1000000000000000000 ≤ c
  · simp [r__law_number, fnOf_eq, m__law_number, p1, h, numN]
  · have m1 : mulOk 977 a = true := mul_left (by decide) (by decide)
    have m2 : mulOk (c + 977 * a) 48271 = true := mul_right (by decide) (by decide)
    have x0 := mix_0 c a w
    have m3 : mulOk 31 a = true := mul_left (by decide) (by decide)
    have m4 : mulOk (mixN c a w) (mixN c a w + 31 * a + 7) = true := mul_left (by omega) (by omega)
    have x1 := mix_mul (c := c) (w := w) h1 h2
    have m5 : mulOk (mixN c a w * (mixN c a w + 31 * a + 7)) (mixN c a w + c + 5) = true := mul_left (by omega) x1.2
    have m6 := more_ok (w := w) h1 h2 hc
    have e1 : ((c + 977 * a) * 48271 + w) % 2147483647 = mixN c a w := rfl
    have e2 : mixN c a w * (mixN c a w + 31 * a + 7) * (mixN c a w + c + 5) = moreN c a w := rfl
    simp [r__law_number, fnOf_eq, m__law_number, p1, h, numN, m1, m2, m3, e1, m4, m5, e2, m6]
theorem e_says (b : D) (p q : Bool) (S : Sto) : c__law_says [.bl p, .bl q] S = .ok (.bl (p == q)) S := by
  refine gcF_pure ?_ (.bl _)
  simp [r__law_says, fnOf_eq, m__law_says]
theorem e_settings (z : Int) (S : Sto) : c__law_settings [.int z] S = .ok (setD (setN z)) S := by
  refine gcF_pure ?_ (bel_set _ _)
  have b := Int.emod_lt_of_pos z (show (0 : Int) < 10 by decide)
  have h1 : z % 10 < 10 := b
  have c := Int.emod_nonneg (z / 900) (show (4 : Int) ≠ 0 by decide)
  have d := Int.emod_lt_of_pos (z / 900) (show (0 : Int) < 4 by decide)
  have h5 : z / 900 % 4 = 0 ∨ z / 900 % 4 = 1 ∨ z / 900 % 4 = 2 ∨ z / 900 % 4 = 3 := by omega
  rcases h5 with h | h | h | h <;> simp [r__law_settings, fnOf_eq, m__law_settings, h1, h, setD, setN]
/-- two more -/
theorem okR_snoc {rs : List Rd2} {r : Rd2} {m : Nat} (hl : rs.length + 1 ≤ 8) (ha : ∀ q ∈ rs, OkR1 q ∧ q.1 < r.1) (hp : rs.Pairwise fun a b => a.1 < b.1) (hr : OkR1 r) : OkR (rs ++ [r]) where
  len := by simpa using hl
  all := fun q hq => by
    rcases List.mem_append.mp hq with h | h
    · exact (ha q h).1
    · rw [List.mem_singleton.mp h]; exact hr
  up := List.pairwise_append.mpr ⟨hp, List.pairwise_singleton _ _, fun a h b hb => by rw [List.mem_singleton.mp hb]; exact (ha a h).2⟩
theorem seq_nx {s t : MS} {env e1 : En} {S S1 : Sto} {r : RS} (h1 : s env S = .nx e1 S1) (h2 : t e1 S1 = r) : mSeq s t env S = r := by simp [h1, h2]
theorem fn_rt {n N : Nat} {m : MS} {ds : List D} {S S' : Sto} {d : D} (h : m (ds.map some ++ List.replicate (N - n) none) S = .rt d S') : fnOf n N m ds S = .ok d S' := by rw [fnOf_eq, h]
theorem d4_ok (x : Int) : ∃ d : Int, 1 ≤ d ∧ atI [D.int 6, .int 1, .int 7, .int 53] (x % 4) = some (.int d) := by
  have c := Int.emod_nonneg x (show (4 : Int) ≠ 0 by decide)
  have d := Int.emod_lt_of_pos x (show (0 : Int) < 4 by decide)
  have h5 : x % 4 = 0 ∨ x % 4 = 1 ∨ x % 4 = 2 ∨ x % 4 = 3 := by omega
  rcases h5 with h | h | h | h <;> rw [h]
  · exact ⟨6, by decide, by simp⟩
  · exact ⟨1, by decide, by simp⟩
  · exact ⟨7, by decide, by simp⟩
  · exact ⟨53, by decide, by simp⟩
theorem d3_ok (x : Int) : ∃ d : Int, 1 ≤ d ∧ atI [D.int 601, .int 700, .int 60] (x % 3) = some (.int d) := by
  have c := Int.emod_nonneg x (show (3 : Int) ≠ 0 by decide)
  have d := Int.emod_lt_of_pos x (show (0 : Int) < 3 by decide)
  have h5 : x % 3 = 0 ∨ x % 3 = 1 ∨ x % 3 = 2 := by omega
  rcases h5 with h | h | h <;> rw [h]
  · exact ⟨601, by decide, by simp⟩
  · exact ⟨700, by decide, by simp⟩
  · exact ⟨60, by decide, by simp⟩
theorem mnx (x : Int) : 0 ≤ (if (if 0 < x then x else 0) < 600 then (if 0 < x then x else 0) else 600) ∧ (if (if 0 < x then x else 0) < 600 then (if 0 < x then x else 0) else 600) ≤ 600 := by
  split <;> split <;> omega
theorem t_readings {s : Set3} (h : OkS s) {cs : List Int} (hc : Cells cs) {St : Sto} {kc kf i b : Nat} {rs : List Rd2} {tick value whole kind : Int} {many : Int} (hcs : getL St kc = some (cs.map D.int)) (hrs : getL St kf = some (rs.map rdD)) (hi : (i : Int) < many) (hm : many ≤ 8) (hb : b ≤ 100) (ht : -1 ≤ tick) (ht2 : tick + many - i ≤ 60) (hrl : rs.length = i) (x0 : Option D) (a13 a14 a15 a16 a17 : Option D) :
    ∃ (t v n15 n16 n17 : Int) (r : Rd2) (n14 : Int), turn (gN 13) fb__law_readings_0 (.int (i : Nat)) [x0, some (.int (b : Nat)), some (setD s), some (.ref kc), some (.int whole), some (.ref kf), some (.int tick), some (.int value), some (.int many), some (.int kind), some (.int s.l), some (.int s.h), some (.int s.s), a13, a14, a15, a16, a17] St
      = .nx [x0, some (.int (b : Nat)), some (setD s), some (.ref kc), some (.int whole), some (.ref kf), some (.int t), some (.int v), some (.int many), some (.int kind), some (.int s.l), some (.int s.h), some (.int s.s), some (.int (i : Nat)), some (.int n14), some (.int n15), some (.int n16), some (.int n17)] (St.set kf (.lst ((rs ++ [r]).map rdD))) ∧ tick < t ∧ t + many - (i + 1) ≤ 60 ∧ r.1 = t ∧ 0 ≤ r.2 ∧ r.2 ≤ 600 := by
  obtain ⟨s1, s2, s3, s4, s5⟩ := h
  have hj : (i + b) % cs.length < cs.length := Nat.mod_lt _ hc.pos
  have e1 : ((i : Int) + (b : Int)) % ((cs.map D.int).length : Int) = (((i + b) % cs.length : Nat) : Int) := by rw [List.length_map]; push_cast; rfl
  have cj : cs[(i + b) % cs.length]? = some cs[(i + b) % cs.length] := by simp [hj]
  have e2 : atI (cs.map D.int) (((i + b) % cs.length : Nat) : Int) = some (.int cs[(i + b) % cs.length]) := atI_nat (by rw [List.getElem?_map, cj]; rfl)
  have hbig := cell_big hc cj (show (0 : Int) ≤ (i : Int) by omega) (by omega)
  generalize cs[(i + b) % cs.length] = c at e2 hbig
  have lc : (0 : Int) < ((cs.map D.int).length : Int) := by rw [List.length_map]; have := hc.pos; omega
  have num := e_number (w := whole) (show (0 : Int) ≤ (i : Int) + (b : Int) by omega) (by omega) hbig
  obtain ⟨z, hz⟩ : ∃ z, numN (c + i) (i + b) whole / 3 = z := ⟨_, rfl⟩
  obtain ⟨d, d1, d2⟩ := d4_ok (z / 53)
  obtain ⟨f, f1, f2⟩ := d3_ok kind
  have z0 := Int.emod_nonneg z (show d ≠ 0 by omega)
  have zz : 0 < d := by omega
  have ff : 0 < f := by omega
  obtain ⟨tt, tt1, tt2, tt3⟩ : ∃ tt : Int, 1 ≤ tt ∧ tick + tt + many - i ≤ 61 ∧ tt = if 61 < tick + (1 + z % d) + many - i then 1 else 1 + z % d := by
    by_cases q : 61 < tick + (1 + z % d) + many - i
    · exact ⟨1, by omega, by omega, by simp [q]⟩
    · exact ⟨1 + z % d, by omega, by omega, by simp [q]⟩
  have m1 : mulOk s.l tt = true := mul_left (by omega) (by omega)
  have m2 : mulOk (s.h - s.l) tt = true := mul_left (by omega) (by omega)
  have m3 : mulOk 2 s.s = true := mul_left (by decide) (by decide)
  have w1 : 0 < (s.h - s.l) * tt + 1 := by
    have := Int.mul_nonneg (show 0 ≤ s.h - s.l by omega) (show 0 ≤ tt by omega)
    omega
  have w2 : 0 < 2 * s.s + 1 := by omega
  have bl := b_lenL St hcs
  obtain ⟨v, hv⟩ : ∃ v : Int, v = if 0 < (i : Int) then value + s.l * tt + z / 212 % ((s.h - s.l) * tt + 1) else z / 212 % 60 := ⟨_, rfl⟩
  obtain ⟨sh, hsh⟩ : ∃ sh : Int, sh = if kind = 0 ∨ (1 < kind ∧ z / 212 / 6600 % 4 = 0) then z / 212 / 26400 % f else v + z / 212 / 600 % (2 * s.s + 1) - s.s := ⟨_, rfl⟩
  obtain ⟨u, hu⟩ : ∃ u : Int, u = (if (if 0 < sh then sh else 0) < 600 then (if 0 < sh then sh else 0) else 600) := ⟨_, rfl⟩
  have mx := mnx sh
  rw [← hu] at mx
  have ha := mt_app (y := rdD (tick + tt, u)) hrs (lim_lt (by rw [List.length_map]; omega))
  have he : rs.map rdD ++ [rdD (tick + tt, u)] = (rs ++ [(tick + tt, u)]).map rdD := by simp
  rw [he] at ha
  simp only [rdD] at ha
  refine ⟨tick + tt, v, tt, z / 212, sh, (tick + tt, u), z, ?_, by omega, by omega, rfl, mx.1, mx.2⟩
  have il := isL_of hrs
  rw [List.length_map] at e1 lc bl
  rw [← e1] at e2
  have main : fb__law_readings_0 [x0, some (.int (b : Nat)), some (setD s), some (.ref kc), some (.int whole), some (.ref kf), some (.int tick), some (.int value), some (.int many), some (.int kind), some (.int s.l), some (.int s.h), some (.int s.s), some (.int (i : Nat)), a14, a15, a16, a17] St = .nx [x0, some (.int (b : Nat)), some (setD s), some (.ref kc), some (.int whole), some (.ref kf), some (.int (tick + tt)), some (.int v), some (.int many), some (.int kind), some (.int s.l), some (.int s.h), some (.int s.s), some (.int (i : Nat)), some (.int (z)), some (.int (tt)), some (.int (z / 212)), some (.int (sh))] (St.set kf (.lst ((rs ++ [(tick + tt, u)]).map rdD))) := by
    unfold fb__law_readings_0
    refine seq_nx (e1 := [x0, some (.int (b : Nat)), some (setD s), some (.ref kc), some (.int whole), some (.ref kf), some (.int tick), some (.int value), some (.int many), some (.int kind), some (.int s.l), some (.int s.h), some (.int s.s), some (.int (i : Nat)), some (.int (z)), a15, a16, a17]) (S1 := St) (by simp [bl, hc.pos, hcs, e2, num, hz]) ?_
    refine seq_nx (e1 := [x0, some (.int (b : Nat)), some (setD s), some (.ref kc), some (.int whole), some (.ref kf), some (.int tick), some (.int value), some (.int many), some (.int kind), some (.int s.l), some (.int s.h), some (.int s.s), some (.int (i : Nat)), some (.int (z)), some (.int (1 + z % d)), a16, a17]) (S1 := St) (by simp [d2, zz]) ?_
    refine seq_nx (e1 := [x0, some (.int (b : Nat)), some (setD s), some (.ref kc), some (.int whole), some (.ref kf), some (.int tick), some (.int value), some (.int many), some (.int kind), some (.int s.l), some (.int s.h), some (.int s.s), some (.int (i : Nat)), some (.int (z)), some (.int (tt)), a16, a17]) (S1 := St) (by rw [tt3]; by_cases q1 : 61 < tick + (1 + z % d) + many - i <;> simp [q1]) ?_
    refine seq_nx (e1 := [x0, some (.int (b : Nat)), some (setD s), some (.ref kc), some (.int whole), some (.ref kf), some (.int (tick + tt)), some (.int value), some (.int many), some (.int kind), some (.int s.l), some (.int s.h), some (.int s.s), some (.int (i : Nat)), some (.int (z)), some (.int (tt)), some (.int (z / 212)), a17]) (S1 := St) (by simp) ?_
    refine seq_nx (e1 := [x0, some (.int (b : Nat)), some (setD s), some (.ref kc), some (.int whole), some (.ref kf), some (.int (tick + tt)), some (.int v), some (.int many), some (.int kind), some (.int s.l), some (.int s.h), some (.int s.s), some (.int (i : Nat)), some (.int (z)), some (.int (tt)), some (.int (z / 212)), a17]) (S1 := St) (by rw [hv]; by_cases q2 : 0 < i <;> simp [q2, m1, m2, w1]) ?_
    refine seq_nx (e1 := [x0, some (.int (b : Nat)), some (setD s), some (.ref kc), some (.int whole), some (.ref kf), some (.int (tick + tt)), some (.int v), some (.int many), some (.int kind), some (.int s.l), some (.int s.h), some (.int s.s), some (.int (i : Nat)), some (.int (z)), some (.int (tt)), some (.int (z / 212)), some (.int (v + z / 212 / 600 % (2 * s.s + 1) - s.s))]) (S1 := St) (by simp [m3, w2]) ?_
    refine seq_nx (e1 := [x0, some (.int (b : Nat)), some (setD s), some (.ref kc), some (.int whole), some (.ref kf), some (.int (tick + tt)), some (.int v), some (.int many), some (.int kind), some (.int s.l), some (.int s.h), some (.int s.s), some (.int (i : Nat)), some (.int (z)), some (.int (tt)), some (.int (z / 212)), some (.int (sh))]) (S1 := St) (by rw [hsh]; by_cases q3 : kind = 0 ∨ (1 < kind ∧ z / 212 / 6600 % 4 = 0) <;> simp only [q3, if_true, if_false] <;> simp [f2, ff, q3]) ?_
    simp [il, ← hu, ha]
  simp [turn, main]
theorem l_readings {s : Set3} (h : OkS s) {cs : List Int} (hc : Cells cs) {S : Sto} {kc b : Nat} {whole kind many : Int} (hcs : getL S kc = some (cs.map D.int)) (h0 : 0 ≤ many) (hm : many ≤ 8) (hb : b ≤ 100) (x0 : Option D) : ∃ (e : En) (S2 : Sto) (rs : List Rd2), OkR rs ∧ fo__law_readings_0 [x0, some (.int (b : Nat)), some (setD s), some (.ref kc), some (.int whole), some (.ref S.length), some (.int (-1)), some (.int 0), some (.int many), some (.int kind), some (.int s.l), some (.int s.h), some (.int s.s), none, none, none, none, none] (S ++ [.lst []]) = .nx e S2 ∧ S <+: S2 ∧ getL S2 S.length = some (rs.map rdD) ∧ e[5]? = some (some (.ref S.length)) := by
  obtain ⟨e', S', h1, tick, v, a13, a14, a15, a16, a17, rs, rfl, p, q, r1, r2, r3, r4, r5⟩ := for_inv (src := srcR 0 1 many.toNat) (g := gN 13) (b := fb__law_readings_0) (rngD 0 1 many.toNat)
    (fun i e St => ∃ (tick v : Int) (a13 a14 a15 a16 a17 : Option D) (rs : List Rd2), e = [x0, some (.int (b : Nat)), some (setD s), some (.ref kc), some (.int whole), some (.ref S.length), some (.int tick), some (.int v), some (.int many), some (.int kind), some (.int s.l), some (.int s.h), some (.int s.s), a13, a14, a15, a16, a17] ∧ S <+: St ∧ getL St S.length = some (rs.map rdD) ∧ rs.length = i ∧ -1 ≤ tick ∧ tick + many - i ≤ 60 ∧ (∀ r ∈ rs, OkR1 r ∧ r.1 ≤ tick) ∧ rs.Pairwise fun a b => a.1 < b.1)
    (fun i e St _ => src_rng _ _ _ _ _)
    (fun i x e St hx ⟨tick, v, a13, a14, a15, a16, a17, rs, he, p, q, r1, r2, r3, r4, r5⟩ => by
      subst he
      obtain ⟨hi, rfl⟩ := rngD_get hx
      rw [show (0 : Int) + (i : Nat) * 1 = (i : Nat) by omega]
      obtain ⟨t, v', n15, n16, n17, r, n14, t1, t2, t3, t4, t5, t6⟩ := t_readings h hc (value := v) (whole := whole) (kind := kind) (getL_pre hcs p) q (by omega) hm hb r2 r3 r1 x0 a13 a14 a15 a16 a17
      refine ⟨_, _, t1, t, v', _, _, _, _, _, rs ++ [r], rfl, pre_set _ p (Nat.le_refl _), getL_set _ (getL_lt q), by simp [r1], by omega, by omega, ?_, ?_⟩
      · intro y hy
        rcases List.mem_append.mp hy with hy | hy
        · exact ⟨(r4 y hy).1, by have := (r4 y hy).2; omega⟩
        · rw [List.mem_singleton.mp hy]
          exact ⟨⟨by omega, by omega, t5, t6⟩, by omega⟩
      · exact List.pairwise_append.mpr ⟨r5, List.pairwise_singleton _ _, fun y hy z hz => by rw [List.mem_singleton.mp hz]; have := (r4 y hy).2; omega⟩)
    (fuel := many.toNat + 1) (by simp) (e := [x0, some (.int (b : Nat)), some (setD s), some (.ref kc), some (.int whole), some (.ref S.length), some (.int (-1)), some (.int 0), some (.int many), some (.int kind), some (.int s.l), some (.int s.h), some (.int s.s), none, none, none, none, none]) (S := S ++ [.lst []]) ⟨-1, 0, none, none, none, none, none, [], rfl, pre_app _ _, getL_new S [] _, rfl, by omega, by omega, (fun r hr => nomatch hr), List.Pairwise.nil⟩
  rw [rngD_len] at r1
  refine ⟨[x0, some (.int (b : Nat)), some (setD s), some (.ref kc), some (.int whole), some (.ref S.length), some (.int tick), some (.int v), some (.int many), some (.int kind), some (.int s.l), some (.int s.h), some (.int s.s), a13, a14, a15, a16, a17], S', rs, ⟨by omega, fun r hr => (r4 r hr).1, r5⟩, ?_, p, q, rfl⟩
  rw [fo__law_readings_0, m_for (i_rng1 (j := many) (S1 := S ++ [.lst []]) (by simp) (by omega) (by omega))]
  exact h1
theorem e_readings {s : Set3} (h : OkS s) {ns : List Int} (h1 : ns.length ≤ 63) (h2 : ∀ z ∈ ns, Builtin.Int.intBits z ≤ 1048576) {b : Nat} (hb : b ≤ 100) (S : Sto) : ∃ rs, OkR rs ∧ c__law_readings [.rl (ns.map D.int), .int (b : Nat), setD s] S = .ok (.ref S.length) (S ++ [.lst (rs.map rdD)]) := by
  have hc := cells_ok h1 h2
  obtain ⟨kc, S1, a1, p1, g1, l1⟩ := e_cells h1 [some (.int (b : Nat)), some (setD s), none, none, none, none, none, none, none, none, none, none, none, none, none, none, none] S
  have hw := whole_big hc (a := (b : Nat)) (by omega) (by omega)
  have n1 := e_number (w := 3) (a := (b : Int) + 1) (by omega) (by omega) hw
  have n2 := e_number (w := 3) (a := (b : Int) + 2) (by omega) (by omega) hw
  obtain ⟨z1, hz1⟩ : ∃ z, numN ((cellsOf ns).sum + (b : Int)) ((b : Int) + 1) 3 / 43200 = z := ⟨_, rfl⟩
  obtain ⟨z2, hz2⟩ : ∃ z, numN ((cellsOf ns).sum + (b : Int)) ((b : Int) + 2) 3 / 10800 % 4 = z := ⟨_, rfl⟩
  have m0 := Int.emod_nonneg z1 (show (9 : Int) ≠ 0 by decide)
  have m1 := Int.emod_lt_of_pos z1 (show (0 : Int) < 9 by decide)
  obtain ⟨e, S2, rs, hr, f1, p2, g2, f2⟩ := l_readings h hc (whole := (cellsOf ns).sum + (b : Int)) (kind := z2) (many := z1 % 9) g1 m0 (by omega) hb (some (.rl (ns.map D.int)))
  refine ⟨rs, hr, gcF_preL (k := S1.length) (S' := S2) ?_ (p1.trans p2) g2 p1.length_le (bel_rds _ _)⟩
  have f3 : mVar 5 e S2 = .ok (.ref S1.length) S2 := by simp [mVar, f2]
  refine fn_rt ?_
  unfold m__law_readings
  refine seq_nx (e1 := [some (.rl (ns.map D.int)), some (.int (b : Nat)), some (setD s), some (.ref kc), none, none, none, none, none, none, none, none, none, none, none, none, none, none]) (S1 := S1) ?_ ?_
  · have : mIfE (mTest (mBin vNe (mVar 0) (mLst mNil))) (mSl (mVar 0) oN (oS (mC (.int 63)))) (mLst (mCons (mC (.int 5)) mNil)) (([.rl (ns.map D.int), .int (b : Nat), setD s] : List D).map some ++ List.replicate (18 - 3) none) S = .ok (.ref kc) S1 := a1
    rw [es_asg, this]
    simp
  · simp only [setD] at f1 ⊢
    simp [b_sum g1, newL_ok (show ([] : List D).length ≤ LIM by decide), n1, n2, hz1, hz2, f1, f3]
end L04
/-! PG: the law's own clash and fits. -/
namespace L04
open PySem L2 Fx Pm
theorem e_lclash {s : Set3} (h : OkS s) {a b : Rd2} (ha : OkR1 a) (hab : a.1 ≤ b.1) (S : Sto) : c__law_clash [setD s, rdD a, rdD b] S = .ok (.bl (clashB s a b)) S := by
  refine gcF_pure ?_ (.bl _)
  have lh := lh_mul h hab
  have m1 := ms h (b.1 - a.1)
  obtain ⟨s1, s2, s3, s4, s5⟩ := h
  have v0 := ha.v0
  have v1 := ha.v1
  have key := for_ret (src := srcR (a.2 - s.s) 1 (2 * s.s + 1).toNat) (g := gN 7) (b := fb__law_clash_0) (rngD (a.2 - s.s) 1 (2 * s.s + 1).toNat)
    (fun i e St => St = S ∧ ∃ x, e = [some (setD s), some (rdD a), some (rdD b), some (.int s.l), some (.int s.h), some (.int s.s), some (.int (b.1 - a.1)), x] ∧ ∀ j : Nat, j < i → ¬ (a.2 - s.s + j + s.l * (b.1 - a.1) ≤ b.2 + s.s ∧ b.2 - s.s ≤ a.2 - s.s + j + s.h * (b.1 - a.1)))
    (fun d St => d = .bl false ∧ St = S ∧ clashB s a b = false)
    (fun i e St _ => src_rng _ _ _ _ _)
    (fun i x e2 St hx ⟨hS, y, he, hj⟩ => by
      subst he hS
      obtain ⟨hi, rfl⟩ := rngD_get hx
      rw [show a.2 - s.s + (i : Nat) * 1 = a.2 - s.s + (i : Int) by omega]
      by_cases hc : a.2 - s.s + i + s.l * (b.1 - a.1) ≤ b.2 + s.s ∧ b.2 - s.s ≤ a.2 - s.s + i + s.h * (b.1 - a.1)
      · refine .inr ⟨.bl false, St, by simp [turn, fb__law_clash_0, rdD, m1.1, m1.2, hc.1, hc.2], rfl, rfl, ?_⟩
        simp only [clashB, Bool.or_eq_false_iff, decide_eq_false_iff_not]
        omega
      · refine .inl ⟨[some (setD s), some (rdD a), some (rdD b), some (.int s.l), some (.int s.h), some (.int s.s), some (.int (b.1 - a.1)), some (.int (a.2 - s.s + i))], St, ?_, rfl, _, rfl, fun j hji => ?_⟩
        · simp [turn, fb__law_clash_0, rdD, m1.1, m1.2]
          rw [if_neg hc]
        · rcases Nat.lt_or_eq_of_le (Nat.le_of_lt_succ hji) with h1 | h1
          · exact hj j h1
          · subst h1; exact hc)
    (fuel := (2 * s.s + 1).toNat + 1) (by simp) (e := [some (setD s), some (rdD a), some (rdD b), some (.int s.l), some (.int s.h), some (.int s.s), some (.int (b.1 - a.1)), none]) (S := S) ⟨rfl, none, rfl, fun j hj => absurd hj (Nat.not_lt_zero j)⟩
  have hf : fo__law_clash_0 [some (setD s), some (rdD a), some (rdD b), some (.int s.l), some (.int s.h), some (.int s.s), some (.int (b.1 - a.1)), none] S = Fx.forM (srcR (a.2 - s.s) 1 (2 * s.s + 1).toNat) (gN 7) fb__law_clash_0 ((2 * s.s + 1).toNat + 1) 0 [some (setD s), some (rdD a), some (rdD b), some (.int s.l), some (.int s.h), some (.int s.s), some (.int (b.1 - a.1)), none] S := by
    rw [fo__law_clash_0, m_for (i_rng2 (i := a.2 - s.s) (j := a.2 + s.s + 1) (S1 := S) (by simp [rdD]) (by omega) (by omega) (by omega) (by omega)), show (a.2 + s.s + 1 - (a.2 - s.s)) = 2 * s.s + 1 by omega]
  rw [← hf] at key
  simp only [setD, rdD] at key
  rcases key with ⟨e', S', h1, rfl, x, rfl, hj⟩ | ⟨d, S', h1, rfl, rfl, hF⟩
  · have hT : clashB s a b = true := by
      cases hb : clashB s a b with
      | true => rfl
      | false =>
        exfalso
        simp only [clashB, Bool.or_eq_false_iff, decide_eq_false_iff_not] at hb
        rw [rngD_len] at hj
        by_cases q : b.2 - s.s - s.h * (b.1 - a.1) ≤ a.2 - s.s
        · exact hj 0 (by omega) (by constructor <;> simp <;> omega)
        · refine hj (b.2 - s.s - s.h * (b.1 - a.1) - (a.2 - s.s)).toNat (by omega) ?_
          rw [Int.toNat_of_nonneg (by omega)]
          constructor <;> omega
    simp [r__law_clash, fnOf_eq, m__law_clash, setD, rdD, h1, hT]
  · simp [r__law_clash, fnOf_eq, m__law_clash, setD, rdD, h1, hF]
theorem e_lfits {s : Set3} (h : OkS s) {rs : List Rd2} {cs : List Int} {n k : Nat} {S : Sto} (hl : getL S n = some (rs.map rdD)) (hk : getL S k = some (cs.map D.int)) (hlen : cs.length ≤ 1000) : c__law_fits [setD s, .ref n, .ref k] S = .ok (.bl (fitsB s rs cs)) S := by
  refine gcF_pure ?_ (.bl _)
  by_cases e : cs.length = rs.length
  · have key := for_ret (src := srcE n) (g := gTp 2 (gCn (gN 6) (gCn (gTp 2 (gCn (gN 7) (gCn (gN 8) gNl))) gNl))) (b := fb__law_fits_0) (enumD (rs.map rdD))
      (fun i e St => St = S ∧ ∃ x6 x7 x8 x9 x10, e = [some (setD s), some (.ref n), some (.ref k), some (.int s.l), some (.int s.h), some (.int s.s), x6, x7, x8, x9, x10] ∧ (∀ (j : Nat) (c : Int) (r : Rd2), j < i → cs[j]? = some c → rs[j]? = some r → r.2 - s.s ≤ c ∧ c ≤ r.2 + s.s) ∧ ∀ (j : Nat) (c c' : Int) (r r' : Rd2), j + 1 < i → cs[j]? = some c → cs[j + 1]? = some c' → rs[j]? = some r → rs[j + 1]? = some r' → s.l * (r'.1 - r.1) ≤ c' - c ∧ c' - c ≤ s.h * (r'.1 - r.1))
      (fun d St => d = .bl false ∧ St = S ∧ ¬ FitsP s rs cs)
      (fun i e St ⟨hS, _⟩ => by subst hS; exact src_enum hl i)
      (fun i x e2 St hx ⟨hS, x6, x7, x8, x9, x10, he, hj, hj2⟩ => by
        subst he hS
        obtain ⟨d, hd, rfl⟩ := enumD_get hx
        obtain ⟨r, hri, rfl⟩ := rds_get hd
        have hi := (List.getElem?_eq_some_iff.mp hri).1
        have c1 : cs[i]? = some cs[i] := by simp
        have a1 : atI (cs.map D.int) ((i : Nat) : Int) = some (.int cs[i]) := atI_nat (by rw [List.getElem?_map, c1]; rfl)
        generalize cs[i] = c at c1 a1
        by_cases q1 : r.2 - s.s ≤ c ∧ c ≤ r.2 + s.s
        · have near : ∀ (j : Nat) (c : Int) (r : Rd2), j < i + 1 → cs[j]? = some c → rs[j]? = some r → r.2 - s.s ≤ c ∧ c ≤ r.2 + s.s := fun j c' r' hji g1 g2 => by
            rcases Nat.lt_or_eq_of_le (Nat.le_of_lt_succ hji) with h1 | h1
            · exact hj j c' r' h1 g1 g2
            · subst h1
              rw [c1] at g1; rw [hri] at g2
              cases g1; cases g2
              exact q1
          cases i with
          | zero =>
            refine .inl ⟨[some (setD s), some (.ref n), some (.ref k), some (.int s.l), some (.int s.h), some (.int s.s), some (.int 0), some (.int r.1), some (.int r.2), x9, x10], St, ?_, rfl, _, _, _, _, _, rfl, near, fun j c c' r r' hji => absurd hji (by omega)⟩
            simp at a1
            simp [turn, fb__law_fits_0, rdD, hk, a1, q1.1, q1.2]
          | succ i =>
            have c2 : cs[i]? = some cs[i] := by simp
            have a2 : atI (cs.map D.int) ((i : Nat) : Int) = some (.int cs[i]) := atI_nat (by rw [List.getElem?_map, c2]; rfl)
            generalize cs[i] = c2' at c2 a2
            have r2 : rs[i]? = some (rd rs i) := rd_some (by omega)
            have a3 : atI (rs.map rdD) ((i : Nat) : Int) = some (rdD (rd rs i)) := atI_nat (by rw [List.getElem?_map, r2]; rfl)
            have m1 := ms h (r.1 - (rd rs i).1)
            have e1 : (((i + 1 : Nat) : Int) - 1) = (i : Nat) := by omega
            have p1 : (0 : Int) < ((i + 1 : Nat) : Int) := by omega
            by_cases q2 : s.l * (r.1 - (rd rs i).1) ≤ c - c2' ∧ c - c2' ≤ s.h * (r.1 - (rd rs i).1)
            · refine .inl ⟨[some (setD s), some (.ref n), some (.ref k), some (.int s.l), some (.int s.h), some (.int s.s), some (.int ((i + 1 : Nat) : Int)), some (.int r.1), some (.int r.2), some (.int (r.1 - (rd rs i).1)), some (.int (c - c2'))], St, ?_, rfl, _, _, _, _, _, rfl, near, fun j d d' r3 r4 hji g1 g2 g3 g4 => ?_⟩
              · simp only [turn, fb__law_fits_0, rdD, eg_tp, List.length_cons, List.length_nil, if_true, eg_cn, eg_n, R.bind, eg_nl, List.set, es_seq, es_if, ev_not, ev_test, ev_ch2, ev_bin, ev_varS, ev_var0, v_sub, v_ixL, hk, a1, v_le, q1.1, q1.2, decide_true, ev_isB, v_add, Bool.not_true, Bool.false_eq_true, if_false, es_skip, ev_c, v_gt, p1, es_asg, toS_ok, hl, e1, a3, v_ixT, atI_0, a2, v_mul, m1.1, m1.2, q2.1, q2.2]
              · rcases Nat.lt_or_eq_of_le (Nat.le_of_lt_succ hji) with h1 | h1
                · exact hj2 j d d' r3 r4 h1 g1 g2 g3 g4
                · have : j = i := by omega
                  subst this
                  rw [c2] at g1; rw [c1] at g2; rw [r2] at g3; rw [hri] at g4
                  cases g1; cases g2; cases g3; cases g4
                  exact q2
            · refine .inr ⟨.bl false, St, ?_, rfl, rfl, fun hF => q2 (hF.step i _ _ _ _ c2 c1 r2 hri)⟩
              simp only [turn, fb__law_fits_0, rdD, eg_tp, List.length_cons, List.length_nil, if_true, eg_cn, eg_n, R.bind, eg_nl, List.set, es_seq, es_if, ev_not, ev_test, ev_ch2, ev_bin, ev_varS, ev_var0, v_sub, v_ixL, hk, a1, v_le, q1.1, q1.2, decide_true, ev_isB, v_add, Bool.not_true, Bool.false_eq_true, if_false, es_skip, ev_c, v_gt, p1, es_asg, toS_ok, hl, e1, a3, v_ixT, atI_0, a2, v_mul, m1.1, m1.2]
              by_cases hc1 : s.l * (r.1 - (rd rs i).1) ≤ c - c2'
              · have hc2 : ¬ c - c2' ≤ s.h * (r.1 - (rd rs i).1) := fun h2 => q2 ⟨hc1, h2⟩
                simp [hc1, hc2]
              · simp [hc1]
        · refine .inr ⟨.bl false, St, ?_, rfl, rfl, fun hF => q1 (hF.near i _ _ c1 hri)⟩
          simp only [turn, fb__law_fits_0, rdD, eg_tp, List.length_cons, List.length_nil, if_true, eg_cn, eg_n, R.bind, eg_nl, List.set, es_seq, es_if, ev_not, ev_test, ev_ch2, ev_bin, ev_varS, ev_var0, v_sub, v_ixL, hk, a1, v_le, ev_isB, v_add]
          by_cases hc1 : r.2 - s.s ≤ c
          · have hc2 : ¬ c ≤ r.2 + s.s := fun h2 => q1 ⟨hc1, h2⟩
            simp [hc1, hc2]
          · simp [hc1])
      (fuel := rs.length + 1) (by simp) (e := [some (setD s), some (.ref n), some (.ref k), some (.int s.l), some (.int s.h), some (.int s.s), none, none, none, none, none]) (S := S) ⟨rfl, none, none, none, none, none, rfl, fun j c r hj => absurd hj (Nat.not_lt_zero j), fun j c c' r r' hj => absurd hj (Nat.not_lt_zero _)⟩
    have hf : fo__law_fits_0 [some (setD s), some (.ref n), some (.ref k), some (.int s.l), some (.int s.h), some (.int s.s), none, none, none, none, none] S = Fx.forM (srcE n) (gTp 2 (gCn (gN 6) (gCn (gTp 2 (gCn (gN 7) (gCn (gN 8) gNl))) gNl))) fb__law_fits_0 (rs.length + 1) 0 [some (setD s), some (.ref n), some (.ref k), some (.int s.l), some (.int s.h), some (.int s.s), none, none, none, none, none] S := by
      rw [fo__law_fits_0, m_for (i_enum (n := n) (S1 := S) (by simp) hl), List.length_map]
    rw [← hf] at key
    simp only [setD] at key
    rcases key with ⟨e', S', h1, rfl, x6, x7, x8, x9, x10, rfl, hj, hj2⟩ | ⟨d, S', h1, rfl, rfl, hF⟩
    · rw [enumD_len, List.length_map] at hj hj2
      have hF : FitsP s rs cs := ⟨e, fun i c r g1 g2 => hj i c r (List.getElem?_eq_some_iff.mp g2).1 g1 g2, fun i c c' r r' g1 g2 g3 g4 => hj2 i c c' r r' (List.getElem?_eq_some_iff.mp g4).1 g1 g2 g3 g4⟩
      simp [r__law_fits, fnOf_eq, m__law_fits, setD, b_lenL S' hl, b_lenL S' hk, e, h1, fitsB_true hF]
    · simp [r__law_fits, fnOf_eq, m__law_fits, setD, b_lenL S' hl, b_lenL S' hk, e, h1, fitsB_false hF]
  · have hF : ¬ FitsP s rs cs := fun hF => e hF.len
    have e2 : ¬ (cs.length : Int) = rs.length := by omega
    simp [r__law_fits, fnOf_eq, m__law_fits, setD, b_lenL S hl, b_lenL S hk, e2, fitsB_false hF]
end L04
/-! PM: shows, called on an answer. -/
namespace L04
open PySem L2 Fx Pm
theorem meth_Fits {s : Set3} (h : OkS s) {rs : List Rd2} {cs : List Int} {S S1 S2 : Sto} {q r m : Nat} {o : ME} {a : MA} {env : En} (ho : o env S = .ok (.ref q) S1) (ha : a env S1 = .ok [setD s, .ref r] S2) (hq : S1[q]? = some (.ins k_Fits (fFits m))) (hq2 : S2[q]? = some (.ins k_Fits (fFits m))) (hm : getL S2 m = some (cs.map D.int)) (hr : getL S2 r = some (rs.map rdD)) (hlen : cs.length ≤ 1000) : mMeth [(k_Fits, c_Fits_shows), (k_Clash, c_Clash_shows)] "shows" o a env S = .ok (.bl (fitsB s rs cs)) S2 := by
  simp [mMeth, ho, insAt, hq, ha, List.lookup, e_Fits_shows h hq2 hm hr hlen]
theorem meth_Clash {s : Set3} (h : OkS s) {rs : List Rd2} {x y : Int} {S S1 S2 : Sto} {q r : Nat} {o : ME} {a : MA} {env : En} (ho : o env S = .ok (.ref q) S1) (ha : a env S1 = .ok [setD s, .ref r] S2) (hq : S1[q]? = some (.ins k_Clash (fClash x y))) (hq2 : S2[q]? = some (.ins k_Clash (fClash x y))) (hr : getL S2 r = some (rs.map rdD)) : mMeth [(k_Fits, c_Fits_shows), (k_Clash, c_Clash_shows)] "shows" o a env S = .ok (.bl (clashAt s rs x y)) S2 := by
  have kk : (k_Clash == k_Fits) = false := rfl
  simp [mMeth, ho, insAt, hq, ha, List.lookup, kk, e_Clash_shows h hq2 hr]
theorem get_at (S T : Sto) (j : Nat) : (S ++ T)[S.length + j]? = T[j]? := by
  rw [List.getElem?_append_right (Nat.le_add_right _ _), Nat.add_sub_cancel_left]
theorem set_at (S T : Sto) (j : Nat) (o : O) : (S ++ T).set (S.length + j) o = S ++ T.set j o := by
  rw [List.set_append_right _ _ (Nat.le_add_right _ _), Nat.add_sub_cancel_left]
end L04
/-! PI04: what the law reaches; what is due. -/
namespace L04
open PySem L2 Fx Pm
theorem base_rng (s : Set3) (rs : List Rd2) (i : Nat) : rngL (vl rs i - s.s) (vl rs i + s.s + 1) = (baseL s rs i).map D.int := by
  unfold rngL baseL
  rw [List.map_map]
  rfl
theorem ints_get {is : List Int} {i : Nat} {x : D} (h : (is.map D.int)[i]? = some x) : ∃ z, is[i]? = some z ∧ x = .int z := by
  rw [List.getElem?_map, Option.map_eq_some_iff] at h
  obtain ⟨r, h1, h2⟩ := h
  exact ⟨r, h1, h2.symm⟩
def onI (f : Int → D) (d : D) : D := match d with | .int z => f z | _ => .non
def onIO (f : Int → Option D) (d : D) : Option D := match d with | .int z => f z | _ => none
theorem lc_re0 {s : Set3} (h : OkS s) {ys : List Int} (hy : ys.length ≤ 100) {m : Nat} {t x : Int} {S : Sto} (hm : getL S m = some (ys.map D.int)) (x0 x1 x4 x5 x6 x7 x8 x9 x13 : Option D) : ∃ k S2, lc__law_reached_0 [x0, x1, some (.int s.l), some (.int s.h), x4, x5, x6, x7, x8, x9, some (.int t), some (.ref m), some (.int x), x13] S = .ok (.ref k) S2 ∧ S <+: S2 ∧ bAny [.ref k] S2 = .ok (.bl (ys.any fun y => stepB s t x y)) S2 := by
  have m1 := ms h t
  obtain ⟨S2, h1, h2, h3, h4⟩ := lc_laterM (vs := [13]) (it := iSeq (mVar 11)) (g := gN 13) (t := mYes) (e := mCh2 vLe vLe (mBin vMul (mVar 2) (mVar 10)) (mBin vSub (mVar 12) (mVar 13)) (mBin vMul (mVar 3) (mVar 10)))
    (env := [x0, x1, some (.int s.l), some (.int s.h), x4, x5, x6, x7, x8, x9, some (.int t), some (.ref m), some (.int x), x13]) (ys.map D.int) (onI fun y => .bl (stepB s t x y))
    (i_seq (S := S) (by simp) hm) List.prefix_rfl (by simp) (lim_lt (by rw [List.length_map]; omega)) (fun S2 p i => src_list (getL_pre hm p) i) fun i d hd S2 p => by
      obtain ⟨y, hy, rfl⟩ := ints_get hd
      simp [lcStep, wipeE, m1.1, m1.2, onI, stepB]
  refine ⟨_, S2, h1, h2, ?_⟩
  rw [b_any (bs := ys.map fun y => stepB s t x y) (by rw [h3, List.map_map, List.map_map]; rfl), List.any_map]
  rfl
theorem lc_re1 {s : Set3} (h : OkS s) {xs ys : List Int} (hx : xs.length ≤ 100) (hy : ys.length ≤ 100) {a m : Nat} {t : Int} {S : Sto} (ha : getL S a = some (xs.map D.int)) (hm : getL S m = some (ys.map D.int)) (x0 x1 x4 x5 x6 x7 x8 x12 x13 : Option D) : ∃ k S2, lc__law_reached_1 [x0, x1, some (.int s.l), some (.int s.h), x4, x5, x6, x7, x8, some (.ref a), some (.int t), some (.ref m), x12, x13] S = .ok (.ref k) S2 ∧ S <+: S2 ∧ getL S2 k = some ((xs.filter fun x => ys.any fun y => stepB s t x y).map D.int) ∧ S.length ≤ k := by
  obtain ⟨S2, h1, h2, h3, h4⟩ := lc_grow (vs := [12]) (it := iSeq (mVar 9)) (g := gN 12) (t := mTest (mCall bAny (mCons lc__law_reached_0 mNil))) (e := mVar 12)
    (env := [x0, x1, some (.int s.l), some (.int s.h), x4, x5, x6, x7, x8, some (.ref a), some (.int t), some (.ref m), x12, x13]) (xs.map D.int) (onIO fun x => if (ys.any fun y => stepB s t x y) = true then some (.int x) else none)
    (i_seq (S := S) (by simp) ha) List.prefix_rfl (by simp) (lim_lt (by rw [List.length_map]; omega)) (fun S2 p i => src_list (getL_pre ha p) i) fun i d hd S2 p => by
      obtain ⟨x, hx, rfl⟩ := ints_get hd
      obtain ⟨k, S3, q1, q2, q3⟩ := lc_re0 h hy (t := t) (x := x) (getL_pre hm p) x0 x1 x4 x5 x6 x7 x8 (some (.ref a)) x13
      refine ⟨S3, ?_, q2⟩
      by_cases hc : (ys.any fun y => stepB s t x y) = true
      · simp only [lcStep, wipeE, eg_n, List.set, ev_test, ev_call, ev_cons, ev_nil, q1, R.bind, q3, ev_isB, hc, if_true, ev_varS, ev_var0, onIO]
      · simp only [lcStep, wipeE, eg_n, List.set, ev_test, ev_call, ev_cons, ev_nil, q1, R.bind, q3, ev_isB, hc, Bool.false_eq_true, if_false, onIO]
  refine ⟨_, S2, h1, h2, ?_, h4⟩
  rw [h3, List.filterMap_map]
  clear h1 h3 ha hx
  induction xs with
  | nil => rfl
  | cons x xs ih =>
    by_cases hc : (ys.any fun y => stepB s t x y) = true
    · rw [List.filterMap_cons_some (b := .int x) (by simp only [Function.comp, onIO, hc, if_true]), List.filter_cons, if_pos hc, List.map_cons]
      simpa using ih
    · rw [List.filterMap_cons_none (by simp only [Function.comp, onIO, hc, Bool.false_eq_true, if_false]), List.filter_cons, if_neg hc]
      simpa using ih
theorem vl_bd {rs : List Rd2} (hr : OkR rs) {i : Nat} (hi : i < rs.length) : 0 ≤ vl rs i ∧ vl rs i ≤ 600 := by
  have := hr.all _ (List.mem_of_getElem? (rd_some hi))
  exact ⟨this.v0, this.v1⟩
theorem t_reached {s : Set3} (h : OkS s) {rs : List Rd2} (hr : OkR rs) {n F : Nat} {St : Sto} {ms : List Nat} {i : Nat} (hi : i < rs.length) (hl : getL St n = some (rs.map rdD)) (hF : getL St F = some (ms.map D.ref)) (hml : ms.length = i) (hm : ∀ j m, ms[j]? = some m → getL St m = some ((reachL s rs j).map D.int) ∧ F < m) (a b c d e f g k : Option D) :
    ∃ d' e' f' a' b' c' m S2, turn (gTp 2 (gCn (gN 6) (gCn (gTp 2 (gCn (gN 7) (gCn (gN 8) gNl))) gNl))) fb__law_reached_0 (.tup [.int (i : Nat), rdD (rd rs i)]) [some (setD s), some (.ref n), some (.int s.l), some (.int s.h), some (.int s.s), some (.ref F), a, b, c, d, e, f, g, k] St
      = .nx [some (setD s), some (.ref n), some (.int s.l), some (.int s.h), some (.int s.s), some (.ref F), a', b', c', d', e', f', g, k] (S2.set F (.lst ((ms ++ [m]).map D.ref))) ∧ St <+: S2 ∧ getL S2 m = some ((reachL s rs i).map D.int) ∧ St.length ≤ m := by
  have h8 := hr.len
  have vb := vl_bd hr hi
  obtain ⟨s1, s2, s3, s4, s5⟩ := id h
  have bl := base_len h rs i
  have sm : small (vl rs i - s.s) = true ∧ small (vl rs i + s.s + 1) = true ∧ (vl rs i + s.s + 1 - (vl rs i - s.s)).toNat ≤ 1000 := ⟨small_of (by omega) (by omega), small_of (by omega) (by omega), by omega⟩
  have e1 : vLrg (.int ((rd rs i).2 - s.s)) (.int ((rd rs i).2 + s.s + 1)) St = .ok (.ref St.length) (St ++ [.lst ((baseL s rs i).map D.int)]) := by
    change vLrg (.int (vl rs i - s.s)) (.int (vl rs i + s.s + 1)) St = _
    simp only [vLrg]
    rw [if_pos sm, base_rng, newL_ok (lim_le (by rw [List.length_map]; omega))]
  obtain ⟨S1, hS1, p1, g1⟩ : ∃ S1, vLrg (.int ((rd rs i).2 - s.s)) (.int ((rd rs i).2 + s.s + 1)) St = .ok (.ref St.length) S1 ∧ St <+: S1 ∧ getL S1 St.length = some ((baseL s rs i).map D.int) := ⟨_, e1, pre_app _ _, getL_new St [] _⟩
  cases i with
  | zero =>
    have ap := mt_app (y := .ref St.length) (getL_pre hF p1) (lim_lt (by rw [List.length_map]; omega))
    rw [show ms.map D.ref ++ [.ref St.length] = (ms ++ [St.length]).map D.ref by simp] at ap
    refine ⟨some (.ref St.length), e, f, some (.int 0), some (.int (rd rs 0).1), some (.int (rd rs 0).2), St.length, S1, ?_, p1, g1, Nat.le_refl _⟩
    simp [turn, fb__law_reached_0, rdD, hS1, isL_pre hF p1, ap]
  | succ i =>
    have hmi : ms[i]? = some ms[i] := by simp
    obtain ⟨q1, q2⟩ := hm i _ hmi
    have la : atI (ms.map D.ref) (-1) = some (.ref ms[i]) := by
      have e3 : ms = ms.take i ++ [ms[i]] := by rw [← take_snoc hmi, List.take_of_length_le (by omega)]
      have e2 : ms.map D.ref = (ms.take i).map D.ref ++ [.ref ms[i]] := (congrArg (List.map D.ref) e3).trans (by rw [List.map_append]; rfl)
      rw [e2]
      exact atI_last _ _
    have a3 : atI (rs.map rdD) ((i : Nat) : Int) = some (rdD (rd rs i)) := atI_nat (by rw [List.getElem?_map, rd_some (by omega)]; rfl)
    generalize ms[i] = mi at *
    obtain ⟨k2, S2, r1, r2, r3, r4⟩ := lc_re1 h (t := (rd rs (i + 1)).1 - (rd rs i).1) (Nat.le_trans bl (by decide)) (Nat.le_trans (reach_len h rs i) (by decide)) g1 (getL_pre q1 p1) (some (setD s)) (some (.ref n)) (some (.int s.s)) (some (.ref F)) (some (.int ((i + 1 : Nat) : Int))) (some (.int (rd rs (i + 1)).1)) (some (.int (rd rs (i + 1)).2)) g k
    have ap := mt_app (y := .ref k2) (getL_pre hF (p1.trans r2)) (lim_lt (by rw [List.length_map]; omega))
    rw [show ms.map D.ref ++ [.ref k2] = (ms ++ [k2]).map D.ref by simp] at ap
    have ee : (((i + 1 : Nat) : Int) - 1) = (i : Nat) := by omega
    have p0 : (0 : Int) < ((i + 1 : Nat) : Int) := by omega
    refine ⟨some (.ref k2), some (.int ((rd rs (i + 1)).1 - (rd rs i).1)), some (.ref mi), some (.int ((i + 1 : Nat) : Int)), some (.int (rd rs (i + 1)).1), some (.int (rd rs (i + 1)).2), k2, S2, ?_, p1.trans r2, r3, Nat.le_trans p1.length_le r4⟩
    simp only [turn, fb__law_reached_0, rdD, eg_tp, List.length_cons, List.length_nil, if_true, eg_cn, eg_n, R.bind, eg_nl, List.set, es_seq, es_asg, ev_bin, ev_varS, ev_var0, v_sub, v_add, ev_c, hS1, toS_ok, es_if, ev_test, v_gt, p0, decide_true, ev_isB, ev_tup, ev_cons, ev_nil, v_ixL, getL_pre hl p1, ee, a3, v_ixT, atI_0, getL_pre hF p1, ev_un, v_neg, la, r1, es_exp, ev_mtL, isL_pre hF (p1.trans r2), ap, Nat.reduceAdd, Nat.reduceLeDiff, Nat.zero_add]
theorem e_reached {s : Set3} (h : OkS s) {rs : List Rd2} (hr : OkR rs) {n : Nat} {S : Sto} (hl : getL S n = some (rs.map rdD)) : ∃ k S', ∃ ms : List Nat, c__law_reached [setD s, .ref n] S = .ok (.ref k) S' ∧ S <+: S' ∧ getL S' k = some (ms.map D.ref) ∧ ms.length = rs.length ∧ ∀ i m, ms[i]? = some m → getL S' m = some ((reachL s rs i).map D.int) := by
  have h8 := hr.len
  obtain ⟨e', S', h1, a, b, c, d, e, f, g, k, ms, rfl, p, q, ql, qm⟩ := for_inv (src := srcE n) (g := gTp 2 (gCn (gN 6) (gCn (gTp 2 (gCn (gN 7) (gCn (gN 8) gNl))) gNl))) (b := fb__law_reached_0) (enumD (rs.map rdD))
    (fun i en St => ∃ a b c d e f g k, ∃ ms : List Nat, en = [some (setD s), some (.ref n), some (.int s.l), some (.int s.h), some (.int s.s), some (.ref S.length), a, b, c, d, e, f, g, k] ∧ S <+: St ∧ getL St S.length = some (ms.map D.ref) ∧ ms.length = i ∧ ∀ j m, ms[j]? = some m → getL St m = some ((reachL s rs j).map D.int) ∧ S.length < m)
    (fun i e St ⟨_, _, _, _, _, _, _, _, _, _, p, _⟩ => src_enum (getL_pre hl p) i)
    (fun i x en St hx ⟨a, b, c, d, e, f, g, k, ms, he, p, q, ql, qm⟩ => by
      subst he
      obtain ⟨dd, hd, rfl⟩ := enumD_get hx
      obtain ⟨r, hri, rfl⟩ := rds_get hd
      have hi := (List.getElem?_eq_some_iff.mp hri).1
      obtain ⟨d', e', f', a', b', c', m, S2, t1, t2, t3, t4⟩ := t_reached h hr hi (getL_pre hl p) q ql qm a b c d e f g k
      rw [rd_eq hri] at t1
      have hlt := getL_lt q
      refine ⟨_, _, t1, a', b', c', d', e', f', g, k, ms ++ [m], rfl, pre_set _ (p.trans t2) (Nat.le_refl _), getL_set _ (lt_pre t2 hlt), by simp [ql], fun j m' hj => ?_⟩
      by_cases hjl : j < ms.length
      · rw [List.getElem?_append_left hjl] at hj
        obtain ⟨u1, u2⟩ := qm j m' hj
        exact ⟨getL_set_ne (by omega) (getL_pre u1 t2), u2⟩
      · rw [List.getElem?_append_right (by omega)] at hj
        have : j = ms.length := by
          by_cases hz : j - ms.length = 0
          · omega
          · rw [List.getElem?_eq_none (by simp; omega)] at hj; cases hj
        subst this
        simp at hj
        subst hj
        rw [ql]
        exact ⟨getL_set_ne (by omega) t3, by omega⟩)
    (fuel := rs.length + 1) (by simp) (e := [some (setD s), some (.ref n), some (.int s.l), some (.int s.h), some (.int s.s), some (.ref S.length), none, none, none, none, none, none, none, none]) (S := S ++ [.lst []]) ⟨none, none, none, none, none, none, none, none, [], rfl, pre_app _ _, getL_new S [] _, rfl, fun j m hj => by simp at hj⟩
  have h2 : fo__law_reached_0 [some (setD s), some (.ref n), some (.int s.l), some (.int s.h), some (.int s.s), some (.ref S.length), none, none, none, none, none, none, none, none] (S ++ [.lst []]) = .nx [some (setD s), some (.ref n), some (.int s.l), some (.int s.h), some (.int s.s), some (.ref S.length), a, b, c, d, e, f, g, k] S' := by
    rw [fo__law_reached_0, m_for (i_enum (n := n) (S1 := S ++ [.lst []]) (by simp) (getL_app hl)), List.length_map]
    exact h1
  rw [enumD_len, List.length_map] at ql
  have hrr : r__law_reached [setD s, .ref n] S = .ok (.ref S.length) S' := by
    simp only [setD] at h2
    simp [r__law_reached, fnOf_eq, m__law_reached, setD, newL_ok (show ([] : List D).length ≤ LIM by decide), h2]
  rcases gcF_some hrr p q (Nat.le_refl _) with g1 | ⟨g1, g2⟩
  · exact ⟨S.length, S', ms, g1, p, q, ql, fun i m hm => (qm i m hm).1⟩
  · refine ⟨S.length, _, ms, g2, pre_app _ _, getL_new S [] _, ql, fun i m hm => ?_⟩
    exfalso
    have := g1.mem (.ref m) (List.mem_map.mpr ⟨m, List.mem_of_getElem? hm, rfl⟩)
    have u := (qm i m hm).2
    cases this with
    | ref h => omega
end L04
/-! PJ04: what is due of an answer; right. -/
namespace L04
open PySem L2 Fx Pm
theorem e_whole (z : Int) (S : Sto) : c__law_whole [.int z] S = .ok (.bl true) S := by
  refine gcF_pure ?_ (.bl _)
  simp [r__law_whole, fnOf_eq, m__law_whole]
theorem ty_ins {S : Sto} {k c : Nat} {fs : List (Str × D)} (h : S[k]? = some (.ins c fs)) : tyD (.ref k) S = some (.c c) := by simp [tyD, h]
theorem e_dueF {s : Set3} (h : OkS s) {rs : List Rd2} {cs : List Int} {S : Sto} {n k m : Nat} (hk : S[k]? = some (.ins k_Fits (fFits m))) (hm : getL S m = some (cs.map D.int)) (hn : getL S n = some (rs.map rdD)) (hl : cs.length ≤ 1000) : c__law_due [setD s, .ref n, .ref k] S = .ok (.bl (fitsB s rs cs)) S := by
  refine gcF_pure ?_ (.bl _)
  simp [r__law_due, fnOf_eq, m__law_due, ty_ins hk, is_Fits, mFld, insAt, hk, e_lfits h hn hm hl]
theorem e_dueC {s : Set3} (h : OkS s) {rs : List Rd2} (hr : OkR rs) {a b : Int} {S : Sto} {n k : Nat} (hk : S[k]? = some (.ins k_Clash (fClash a b))) (hn : getL S n = some (rs.map rdD)) : c__law_due [setD s, .ref n, .ref k] S = .ok (.bl (clashAt s rs a b)) S := by
  refine gcF_pure ?_ (.bl _)
  by_cases hc : 0 ≤ a ∧ a < b ∧ b < rs.length
  · obtain ⟨i, rfl⟩ := Int.eq_ofNat_of_zero_le hc.1
    obtain ⟨j, rfl⟩ := Int.eq_ofNat_of_zero_le (show 0 ≤ b by omega)
    have a1 : atI (rs.map rdD) ((i : Nat) : Int) = some (rdD (rd rs i)) := atI_nat (by rw [List.getElem?_map, rd_some (by omega)]; rfl)
    have a2 : atI (rs.map rdD) ((j : Nat) : Int) = some (rdD (rd rs j)) := atI_nat (by rw [List.getElem?_map, rd_some (by omega)]; rfl)
    have hij : i < j := by omega
    have hj : j < rs.length := by omega
    have t := tk_le hr (Nat.le_of_lt hij) hj
    have ok : OkR1 (rd rs i) := hr.all _ (List.mem_of_getElem? (rd_some (by omega)))
    simp [r__law_due, fnOf_eq, m__law_due, ty_ins hk, is_Fits, mFld, insAt, hk, b_lenL S hn, hn, a1, a2, e_lclash h ok t, clashAt, hij, hj]
  · have e : clashAt s rs a b = false := by simp [clashAt, hc]
    rw [e]
    simp [r__law_due, fnOf_eq, m__law_due, ty_ins hk, is_Fits, mFld, insAt, hk, b_lenL S hn]
    rw [if_pos (by omega)]
/-- other settings and readings -/
def Oth (S : Sto) (d : D) : Prop := ∃ (s : Set3) (rs : List Rd2) (m : Nat), d = .tup [setD s, .ref m] ∧ OkS s ∧ OkR rs ∧ getL S m = some (rs.map rdD)
theorem Oth.pre {S S2 : Sto} {d : D} (h : Oth S d) (p : S <+: S2) : Oth S2 d := by
  obtain ⟨s, rs, m, h1, h2, h3, h4⟩ := h
  exact ⟨s, rs, m, h1, h2, h3, getL_pre h4 p⟩
theorem v_ne_bl2 {S : Sto} {n m : Nat} {a b c d : Bool} (h1 : getL S n = some [.bl a, .bl b]) (h2 : getL S m = some [.bl c, .bl d]) : vNe (.ref n) (.ref m) S = .ok (.bl (!(a == c && b == d))) S := by
  rw [v_ne_of (toP_lst (ps := [.bool a, .bool b]) h1 rfl) (toP_lst (ps := [.bool c, .bool d]) h2 rfl)]
  simp [PyData.eqv, PyData.eqvAll]
theorem l_othF {S : Sto} {o k : Nat} {os : List D} (ho : getL S o = some os) (hos : ∀ d ∈ os, Oth S d) {cs : List Int} {m : Nat} (hk : S[k]? = some (.ins k_Fits (fFits m))) (hm : getL S m = some (cs.map D.int)) (hl : cs.length ≤ 1000) (x0 x1 x3 x4 x5 x6 x8 x9 x10 : Option D) : ∃ y8 y9, fo__law_right_0 [x0, x1, some (.ref o), x3, x4, x5, x6, some (.ref k), x8, x9, x10] S = .nx [x0, x1, some (.ref o), x3, x4, x5, x6, some (.ref k), y8, y9, x10] S := by
  obtain ⟨e', S', g1, y8, y9, rfl, rfl⟩ := for_inv (src := srcL o) (g := gTp 2 (gCn (gN 8) (gCn (gN 9) gNl))) (b := fb__law_right_0) os
    (fun i e St => ∃ y8 y9, e = [x0, x1, some (.ref o), x3, x4, x5, x6, some (.ref k), y8, y9, x10] ∧ St = S)
    (fun i e St ⟨_, _, _, hS⟩ => by subst hS; exact src_list ho i)
    (fun i x e St hx ⟨y8, y9, he, hS⟩ => by
      subst he hS
      obtain ⟨s', rs', m', rfl, h1, h2, h3⟩ := hos x (List.mem_of_getElem? hx)
      have me := meth_Fits h1 (S := St) (S1 := St) (S2 := St) (o := mVar 7) (a := mCons (mVar 8) (mCons (mVar 9) mNil)) (env := [x0, x1, some (.ref o), x3, x4, x5, x6, some (.ref k), some (setD s'), some (.ref m'), x10]) (by simp) (by simp) hk hk hm h3 hl
      have du := e_dueF h1 hk hm h3 hl
      exact ⟨[x0, x1, some (.ref o), x3, x4, x5, x6, some (.ref k), some (setD s'), some (.ref m'), x10], St, by simp [turn, fb__law_right_0, me, du, e_says .non], _, _, rfl, rfl⟩)
    (fuel := os.length + 1) (by simp) (e := [x0, x1, some (.ref o), x3, x4, x5, x6, some (.ref k), x8, x9, x10]) (S := S) ⟨_, _, rfl, rfl⟩
  refine ⟨y8, y9, ?_⟩
  rw [fo__law_right_0, m_for (i_seq (n := o) (S1 := S') (by simp) ho)]
  exact g1
theorem l_othC {S : Sto} {o k : Nat} {os : List D} (ho : getL S o = some os) (hos : ∀ d ∈ os, Oth S d) {a b : Int} (hk : S[k]? = some (.ins k_Clash (fClash a b))) (x0 x1 x3 x4 x5 x6 x8 x9 x10 : Option D) : ∃ y8 y9, fo__law_right_0 [x0, x1, some (.ref o), x3, x4, x5, x6, some (.ref k), x8, x9, x10] S = .nx [x0, x1, some (.ref o), x3, x4, x5, x6, some (.ref k), y8, y9, x10] S := by
  obtain ⟨e', S', g1, y8, y9, rfl, rfl⟩ := for_inv (src := srcL o) (g := gTp 2 (gCn (gN 8) (gCn (gN 9) gNl))) (b := fb__law_right_0) os
    (fun i e St => ∃ y8 y9, e = [x0, x1, some (.ref o), x3, x4, x5, x6, some (.ref k), y8, y9, x10] ∧ St = S)
    (fun i e St ⟨_, _, _, hS⟩ => by subst hS; exact src_list ho i)
    (fun i x e St hx ⟨y8, y9, he, hS⟩ => by
      subst he hS
      obtain ⟨s', rs', m', rfl, h1, h2, h3⟩ := hos x (List.mem_of_getElem? hx)
      have me := meth_Clash h1 (S := St) (S1 := St) (S2 := St) (o := mVar 7) (a := mCons (mVar 8) (mCons (mVar 9) mNil)) (env := [x0, x1, some (.ref o), x3, x4, x5, x6, some (.ref k), some (setD s'), some (.ref m'), x10]) (by simp) (by simp) hk hk h3
      have du := e_dueC h1 h2 hk h3
      exact ⟨[x0, x1, some (.ref o), x3, x4, x5, x6, some (.ref k), some (setD s'), some (.ref m'), x10], St, by simp [turn, fb__law_right_0, me, du, e_says .non], _, _, rfl, rfl⟩)
    (fuel := os.length + 1) (by simp) (e := [x0, x1, some (.ref o), x3, x4, x5, x6, some (.ref k), x8, x9, x10]) (S := S) ⟨_, _, rfl, rfl⟩
  refine ⟨y8, y9, ?_⟩
  rw [fo__law_right_0, m_for (i_seq (n := o) (S1 := S') (by simp) ho)]
  exact g1
theorem lc_whole {cs : List Int} (hl : cs.length ≤ 100) {S : Sto} {k m : Nat} (hk : S[k]? = some (.ins k_Fits (fFits m))) (hm : getL S m = some (cs.map D.int)) (x0 x1 x2 x3 x4 x5 x6 x8 x9 x10 : Option D) : ∃ q S2, lc__law_right_0 [x0, x1, x2, x3, x4, x5, x6, some (.ref k), x8, x9, x10] S = .ok (.ref q) S2 ∧ S <+: S2 ∧ bAll [.ref q] S2 = .ok (.bl true) S2 := by
  obtain ⟨S2, h1, h2, h3, h4⟩ := lc_laterM (vs := [10]) (it := iSeq (mFld cs_course "course" (mVar 7))) (g := gN 10) (t := mYes) (e := mCall c__law_whole (mCons (mVar 10) mNil)) (env := [x0, x1, x2, x3, x4, x5, x6, some (.ref k), x8, x9, x10]) (cs.map D.int) (fun _ => .bl true)
    (i_seq (S := S) (n := m) (by simp [mFld, insAt, hk]) hm) List.prefix_rfl (by simp) (lim_lt (by rw [List.length_map]; omega)) (fun S2 p i => src_list (getL_pre hm p) i) fun i x hx S2 p => by
      obtain ⟨z, hz, rfl⟩ := ints_get hx
      simp [lcStep, wipeE, e_whole]
  refine ⟨_, S2, h1, h2, ?_⟩
  rw [b_all (bs := List.replicate cs.length true) (by rw [h3, List.map_const']; simp)]
  simp
theorem t_right {s : Set3} (h : OkS s) {rs : List Rd2} (hr : OkR rs) {n o hd : Nat} {S : Sto} {os : List D} (hn : getL S n = some (rs.map rdD)) (hh : getL S hd = some (rs.map rdD)) (ho : getL S o = some os) (hos : ∀ d ∈ os, Oth S d) (x4 x6 x7 x8 x9 x10 : Option D) : ∃ y7 y8 y9 S2, fb__law_right_1 [some (setD s), some (.ref n), some (.ref o), some (.ref hd), x4, some (.bl (decide (clL s rs = []))), x6, x7, x8, x9, x10] S = .nx [some (setD s), some (.ref n), some (.ref o), some (.ref hd), x4, some (.bl (decide (clL s rs = []))), x6, y7, y8, y9, x10] S2 ∧ S <+: S2 := by
  have h8 := hr.len
  obtain ⟨k, S1, e1, p1, k1, hj⟩ := e_judged h hr hh
  have hn1 := getL_pre hn p1
  have hh1 := getL_pre hh p1
  have ho1 := getL_pre ho p1
  have ne1 := fun S2 (p : S1 <+: S2) => v_ne_prs (S := S2) (ps := rs) (qs := rs) (getL_pre hh1 p) (getL_pre hn1 p)
  simp only [decide_true, Bool.not_true] at ne1
  rcases hj with ⟨hc, m, i1, i2, i3⟩ | ⟨q, t, hc, i1⟩
  · have hF := fitsB_true (crs_fits h hr fun i j => no_cl hc)
    have cl : (crsL s rs).length = rs.length := by simp [crsL]
    have gd : decide (clL s rs = []) = true := by simp [hc]
    rw [gd]
    obtain ⟨S2, e2, p2, g2⟩ := newL_ex (xs := [.bl true, .bl false]) (by decide) S1
    obtain ⟨S3, e3, p3, g3⟩ := newL_ex (xs := [.bl true, .bl false]) (by decide) S2
    have ne2 := v_ne_bl2 (getL_pre g2 p3) g3
    have p := p2.trans p3
    have ik := get_pre i1 p
    have im := getL_pre i2 p
    have hn3 := getL_pre hn1 p
    have me := meth_Fits h (S := S3) (S1 := S3) (S2 := S3) (o := mVar 7) (a := mCons (mVar 0) (mCons (mVar 1) mNil)) (env := [some (setD s), some (.ref n), some (.ref o), some (.ref hd), x4, some (.bl true), x6, some (.ref k), x8, x9, x10]) (by simp) (by simp) ik ik im hn3 (by omega)
    have du := e_dueF h ik im hn3 (by omega)
    rw [hF] at me du
    obtain ⟨y8, y9, lo⟩ := l_othF (k := k) (getL_pre ho1 p) (fun d hd => ((hos d hd).pre p1).pre p) ik im (by omega) (some (setD s)) (some (.ref n)) (some (.ref hd)) (x4) (some (.bl true)) (x6) (x8) (x9) (x10)
    obtain ⟨w, S4, e4, p4, b4⟩ := lc_whole (by omega) ik im (some (setD s)) (some (.ref n)) (some (.ref o)) (some (.ref hd)) (x4) (some (.bl true)) (x6) (y8) (y9) (x10)
    have ik4 := get_pre ik p4
    have im4 := getL_pre im p4
    have ap := mt_app (y := .int 0) im4 (lim_lt (by rw [List.length_map]; omega))
    have km : m ≠ k := fun e => by
      subst e
      rw [getL_some.mp i2] at i1
      cases i1
    have nm : m ≠ n := by have := getL_lt hn; have := p1.length_le; have := getL_lt hn; omega
    have me2 := meth_Fits h (rs := rs) (cs := crsL s rs ++ [0]) (S := S4.set m (.lst ((crsL s rs).map D.int ++ [.int 0]))) (S1 := S4.set m (.lst ((crsL s rs).map D.int ++ [.int 0]))) (S2 := S4.set m (.lst ((crsL s rs).map D.int ++ [.int 0]))) (o := mVar 7) (a := mCons (mVar 0) (mCons (mVar 1) mNil)) (env := [some (setD s), some (.ref n), some (.ref o), some (.ref hd), x4, some (.bl true), x6, some (.ref k), y8, y9, x10]) (by simp) (by simp) (get_set_ne km ik4) (get_set_ne km ik4) (by rw [getL_set _ (getL_lt im4)]; simp) (getL_set_ne nm (getL_pre hn3 p4)) (by simp; omega)
    have hG : fitsB s rs (crsL s rs ++ [0]) = false := fitsB_false fun hf => by have := hf.len; simp [cl] at this
    rw [hG] at me2
    refine ⟨some (.ref k), y8, y9, S4.set m (.lst ((crsL s rs).map D.int ++ [.int 0])), ?_, pre_set _ ((p1.trans p).trans p4) i3⟩
    unfold fb__law_right_1
    refine seq_nx (e1 := [some (setD s), some (.ref n), some (.ref o), some (.ref hd), x4, some (.bl true), x6, some (.ref k), x8, x9, x10]) (S1 := S1) (by simp [e1]) ?_
    refine seq_nx (e1 := [some (setD s), some (.ref n), some (.ref o), some (.ref hd), x4, some (.bl true), x6, some (.ref k), x8, x9, x10]) (S1 := S3) (by simp [ty_ins i1, is_Answer, is_Fits, is_Clash, e2, e3, ne2]) ?_
    refine seq_nx (e1 := [some (setD s), some (.ref n), some (.ref o), some (.ref hd), x4, some (.bl true), x6, some (.ref k), x8, x9, x10]) (S1 := S3) (by simp [ty_ins ik, is_Kept, ne1 S3 p, du]) ?_
    refine seq_nx (e1 := [some (setD s), some (.ref n), some (.ref o), some (.ref hd), x4, some (.bl true), x6, some (.ref k), x8, x9, x10]) (S1 := S3) (by simp [me]) ?_
    refine seq_nx (e1 := [some (setD s), some (.ref n), some (.ref o), some (.ref hd), x4, some (.bl true), x6, some (.ref k), y8, y9, x10]) (S1 := S3) lo ?_
    have fc : mFld cs_course "course" (mVar 7) [some (setD s), some (.ref n), some (.ref o), some (.ref hd), x4, some (.bl true), x6, some (.ref k), y8, y9, x10] S3 = .ok (.ref m) S3 := by simp [mFld, insAt, ik]
    have fc4 : mFld cs_course "course" (mVar 7) [some (setD s), some (.ref n), some (.ref o), some (.ref hd), x4, some (.bl true), x6, some (.ref k), y8, y9, x10] S4 = .ok (.ref m) S4 := by simp [mFld, insAt, ik4]
    simp [fc, fc4, ty_lst S3 im, e4, b4, isL_of im4, ap, me2]
  · have hm : q ∈ clL s rs := by rw [hc]; exact List.mem_cons_self
    have hF : clashAt s rs q.1 q.2 = true := by
      obtain ⟨i, j, h1, h2, h3, rfl⟩ := mem_clL.mp hm
      simp [clashAt, h1, h2, h3]
    have gd : decide (clL s rs = []) = false := by simp [hc]
    rw [gd]
    obtain ⟨S2, e2, p2, g2⟩ := newL_ex (xs := [.bl false, .bl true]) (by decide) S1
    obtain ⟨S3, e3, p3, g3⟩ := newL_ex (xs := [.bl false, .bl true]) (by decide) S2
    have ne2 := v_ne_bl2 (getL_pre g2 p3) g3
    have p := p2.trans p3
    have ik := get_pre i1 p
    have hn3 := getL_pre hn1 p
    have me := meth_Clash h (S := S3) (S1 := S3) (S2 := S3) (o := mVar 7) (a := mCons (mVar 0) (mCons (mVar 1) mNil)) (env := [some (setD s), some (.ref n), some (.ref o), some (.ref hd), x4, some (.bl false), x6, some (.ref k), x8, x9, x10]) (by simp) (by simp) ik ik hn3
    have du := e_dueC h hr ik hn3
    rw [hF] at me du
    obtain ⟨y8, y9, lo⟩ := l_othC (k := k) (getL_pre ho1 p) (fun d hd => ((hos d hd).pre p1).pre p) ik (some (setD s)) (some (.ref n)) (some (.ref hd)) (x4) (some (.bl false)) (x6) (x8) (x9) (x10)
    refine ⟨some (.ref k), y8, y9, S3, ?_, p1.trans p⟩
    unfold fb__law_right_1
    refine seq_nx (e1 := [some (setD s), some (.ref n), some (.ref o), some (.ref hd), x4, some (.bl false), x6, some (.ref k), x8, x9, x10]) (S1 := S1) (by simp [e1]) ?_
    refine seq_nx (e1 := [some (setD s), some (.ref n), some (.ref o), some (.ref hd), x4, some (.bl false), x6, some (.ref k), x8, x9, x10]) (S1 := S3) (by simp [ty_ins i1, is_Answer, is_Fits, is_Clash, e2, e3, ne2]) ?_
    refine seq_nx (e1 := [some (setD s), some (.ref n), some (.ref o), some (.ref hd), x4, some (.bl false), x6, some (.ref k), x8, x9, x10]) (S1 := S3) (by simp [ty_ins ik, is_Kept, ne1 S3 p, du]) ?_
    refine seq_nx (e1 := [some (setD s), some (.ref n), some (.ref o), some (.ref hd), x4, some (.bl false), x6, some (.ref k), x8, x9, x10]) (S1 := S3) (by simp [me]) ?_
    refine seq_nx (e1 := [some (setD s), some (.ref n), some (.ref o), some (.ref hd), x4, some (.bl false), x6, some (.ref k), y8, y9, x10]) (S1 := S3) lo ?_
    simp [mFld, insAt, ik, e_whole]
theorem e_right {s : Set3} (h : OkS s) {rs : List Rd2} (hr : OkR rs) {n o : Nat} {S : Sto} {os : List D} (hn : getL S n = some (rs.map rdD)) (ho : getL S o = some os) (hos : ∀ d ∈ os, Oth S d) : c__law_right [setD s, .ref n, .ref o] S = .ok (.bl true) S := by
  have h8 := hr.len
  obtain ⟨S1, e1, p1, g1⟩ : ∃ S1, bList [.ref n] S = .ok (.ref S.length) S1 ∧ S <+: S1 ∧ getL S1 S.length = some (rs.map rdD) := ⟨_, b_list hn (lim_le (by rw [List.length_map]; omega)), pre_app _ _, getL_new S [] _⟩
  obtain ⟨q, S2, ms, e2, p2, g2, l2, m2⟩ := e_reached h hr (getL_pre hn p1)
  obtain ⟨S3, e3, p3, g3⟩ := newL_ex (xs := []) (by decide) S2
  have hn3 := getL_pre hn ((p1.trans p2).trans p3)
  have v3 := v_eq_prs (ps := rs) (qs := []) hn3 g3
  obtain ⟨S4, e4, p4⟩ : ∃ S4, mOrV (mBin vEq (mVar 1) (mLst mNil)) (mBin vNe (mBin vIx (mVar 4) (mUn vNeg (mC (.int 1)))) (mLst mNil)) [some (setD s), some (.ref n), some (.ref o), some (.ref S.length), some (.ref q), none, none, none, none, none, none] S2 = .ok (.bl (decide (clL s rs = []))) S4 ∧ S3 <+: S4 := by
    cases hrs : rs with
    | nil =>
      have hc : clL s ([] : List Rd2) = [] := by
        cases hz : clL s ([] : List Rd2) with
        | nil => rfl
        | cons p t =>
          have hm : p ∈ clL s ([] : List Rd2) := by rw [hz]; exact List.mem_cons_self
          obtain ⟨i, j, _, h2, _⟩ := mem_clL.mp hm
          simp at h2
      subst hrs
      simp at v3
      exact ⟨S3, by simp [e3, v3, hc], List.prefix_rfl⟩
    | cons r t =>
      rw [← hrs]
      have hne : rs ≠ [] := by rw [hrs]; simp
      have hl1 : rs.length - 1 + 1 = rs.length := by rw [hrs]; simp
      have mi : ms[rs.length - 1]? = some ms[rs.length - 1] := by simp
      have u := m2 _ _ mi
      have la : atI (ms.map D.ref) (-1) = some (.ref ms[rs.length - 1]) := by
        have e3 : ms = ms.take (rs.length - 1) ++ [ms[rs.length - 1]] := by rw [← take_snoc mi, List.take_of_length_le (by omega)]
        have e2 : ms.map D.ref = (ms.take (rs.length - 1)).map D.ref ++ [.ref ms[rs.length - 1]] := (congrArg (List.map D.ref) e3).trans (by rw [List.map_append]; rfl)
        rw [e2]
        exact atI_last _ _
      generalize ms[rs.length - 1] = mm at *
      obtain ⟨S4, e4, p4, g4⟩ := newL_ex (xs := []) (by decide) S3
      have v4 := v_ne_ints (is := reachL s rs (rs.length - 1)) (js := []) (getL_pre u (p3.trans p4)) g4
      have gi := good_iff h hr hl1
      have ee : (!decide (reachL s rs (rs.length - 1) = [])) = decide (clL s rs = []) := by
        by_cases z : clL s rs = []
        · have := gi.mpr z; simp [z, this]
        · have : reachL s rs (rs.length - 1) = [] := Classical.byContradiction fun c => z (gi.mp c)
          simp [z, this]
      rw [ee] at v4
      simp [hne] at v3
      refine ⟨S4, ?_, p4⟩
      simp only [ev_orV, ev_bin, ev_varS, ev_var0, R.bind, ev_lst, ev_nil, e3, v3, ev_isB, Bool.false_eq_true, if_false, ev_un, ev_c, v_neg, v_ixL, getL_pre g2 p3, la, e4, v4]
  have pa := ((p1.trans p2).trans p3).trans p4
  obtain ⟨e', S', f1, y6, y7, y8, y9, rfl, pf⟩ := for_inv (src := srcR 0 1 2) (g := gN 6) (b := fb__law_right_1) (rngD 0 1 2)
    (fun i e St => ∃ y6 y7 y8 y9, e = [some (setD s), some (.ref n), some (.ref o), some (.ref S.length), some (.ref q), some (.bl (decide (clL s rs = []))), y6, y7, y8, y9, none] ∧ S4 <+: St)
    (fun i e St _ => src_rng _ _ _ _ _)
    (fun i x e St hx ⟨y6, y7, y8, y9, he, pp⟩ => by
      subst he
      obtain ⟨hi, rfl⟩ := rngD_get hx
      obtain ⟨z7, z8, z9, S5, t1, t2⟩ := t_right h hr (getL_pre hn (pa.trans pp)) (getL_pre g1 (((p2.trans p3).trans p4).trans pp)) (getL_pre ho (pa.trans pp)) (fun d hd => (hos d hd).pre (pa.trans pp)) (some (.ref q)) (some (.int (0 + (i : Nat) * 1))) y7 y8 y9 none
      exact ⟨[some (setD s), some (.ref n), some (.ref o), some (.ref S.length), some (.ref q), some (.bl (decide (clL s rs = []))), some (.int (0 + (i : Nat) * 1)), z7, z8, z9, none], S5, by simp only [turn, eg_n, List.set, t1], _, _, _, _, rfl, pp.trans t2⟩)
    (fuel := 3) (by simp) (e := [some (setD s), some (.ref n), some (.ref o), some (.ref S.length), some (.ref q), some (.bl (decide (clL s rs = []))), none, none, none, none, none]) (S := S4) ⟨_, _, _, _, rfl, List.prefix_rfl⟩
  have hf : fo__law_right_1 [some (setD s), some (.ref n), some (.ref o), some (.ref S.length), some (.ref q), some (.bl (decide (clL s rs = []))), none, none, none, none, none] S4 = .nx [some (setD s), some (.ref n), some (.ref o), some (.ref S.length), some (.ref q), some (.bl (decide (clL s rs = []))), y6, y7, y8, y9, none] S' := by
    rw [fo__law_right_1, m_for (i_rng1 (j := 2) (S1 := S4) (by simp) (by omega) (by omega))]
    exact f1
  refine gcF_pre (S' := S') (fn_rt ?_) (pa.trans pf) (.bl _)
  unfold m__law_right
  refine seq_nx (e1 := [some (setD s), some (.ref n), some (.ref o), some (.ref S.length), some (.ref q), none, none, none, none, none, none]) (S1 := S2) (by simp [e1, e2]) ?_
  refine seq_nx (e1 := [some (setD s), some (.ref n), some (.ref o), some (.ref S.length), some (.ref q), some (.bl (decide (clL s rs = []))), none, none, none, none, none]) (S1 := S4) (by rw [es_asg, e4]; simp) ?_
  refine seq_nx hf ?_
  simp
end L04
/-! Z04: the law. -/
namespace L04
open PySem L2 Fx Pm
theorem t_law {ns : List Int} (h1 : ns.length ≤ 63) (h2 : ∀ z ∈ ns, Builtin.Int.intBits z ≤ 1048576) {w0 : Int} (hw : Big w0) {b : Nat} (hb : b ≤ 10) (St : Sto) (x1 x4 x5 x6 x7 x8 x9 x10 x11 : Option D) : ∃ z4 z5 z6 z7 S2, fb_law_0 [some (.rl (ns.map D.int)), x1, some (.int w0), some (.int (b : Nat)), x4, x5, x6, x7, x8, x9, x10, x11] St = .nx [some (.rl (ns.map D.int)), x1, some (.int w0), some (.int (b : Nat)), z4, z5, z6, z7, x8, x9, x10, x11] S2 := by
  have num := e_number (c := w0) (a := (b : Int) + 4) (w := (b : Int)) (by omega) (by omega) hw
  have num2 := e_number (c := w0) (a := (b : Int) + 7) (w := (b : Int)) (by omega) (by omega) hw
  obtain ⟨s, hs, ok⟩ : ∃ s, setN (numN w0 ((b : Int) + 4) (b : Int) / 3) = s ∧ OkS s := ⟨_, rfl, setN_ok _⟩
  have se := e_settings (numN w0 ((b : Int) + 4) (b : Int) / 3)
  rw [hs] at se
  obtain ⟨s', hs', ok'⟩ : ∃ s', setN (numN w0 ((b : Int) + 7) (b : Int) / 5) = s' ∧ OkS s' := ⟨_, rfl, setN_ok _⟩
  have se' := e_settings (numN w0 ((b : Int) + 7) (b : Int) / 5)
  rw [hs'] at se'
  obtain ⟨rs, hr, re⟩ := e_readings ok h1 h2 (b := b) (by omega) St
  obtain ⟨S1, n, hn, re2⟩ : ∃ S1 n, getL S1 n = some (rs.map rdD) ∧ c__law_readings [.rl (ns.map D.int), .int (b : Nat), setD s] St = .ok (.ref n) S1 := ⟨_, _, getL_new St [] _, re⟩
  have h8 := hr.len
  obtain ⟨S2, e2, p2, g2⟩ : ∃ S2, vSl (.ref n) (some 1) none S1 = .ok (.ref S1.length) S2 ∧ S1 <+: S2 ∧ getL S2 S1.length = some (rs.tail.map rdD) := ⟨_, v_slL hn (lim_le (by rw [List.length_map]; omega)), pre_app _ _, by rw [cut_1, List.map_tail]; exact getL_new S1 [] _⟩
  obtain ⟨rs3, hr3, re3⟩ := e_readings ok h1 h2 (b := b + 3) (by omega) S2
  obtain ⟨S3, e3, p3, g3⟩ : ∃ S3, c__law_readings [.rl (ns.map D.int), .int ((b : Int) + 3), setD s] S2 = .ok (.ref S2.length) S3 ∧ S2 <+: S3 ∧ getL S3 S2.length = some (rs3.map rdD) := ⟨_, re3, pre_app _ _, getL_new S2 [] _⟩
  obtain ⟨S4, e4, p4, g4⟩ := newL_ex (xs := [.tup [setD s', .ref n], .tup [setD s, .ref S1.length], .tup [setD s, .ref S2.length]]) (lim_le (by simp)) S3
  obtain ⟨o, ho⟩ : ∃ o, o = S3.length := ⟨_, rfl⟩
  rw [← ho] at e4 g4
  have ri := e_right ok hr (getL_pre hn ((p2.trans p3).trans p4)) g4 fun d hd => by
    simp at hd
    rcases hd with rfl | rfl | rfl
    · exact ⟨s', rs, n, rfl, ok', hr, getL_pre hn ((p2.trans p3).trans p4)⟩
    · exact ⟨s, rs.tail, S1.length, rfl, ok, okR_tail hr, getL_pre g2 (p3.trans p4)⟩
    · exact ⟨s, rs3, S2.length, rfl, ok, hr3, getL_pre g3 p4⟩
  refine ⟨some (setD s), some (.ref n), some (setD s'), some (.ref o), S4, ?_⟩
  unfold fb_law_0
  refine seq_nx (e1 := [some (.rl (ns.map D.int)), x1, some (.int w0), some (.int (b : Nat)), some (setD s), x5, x6, x7, x8, x9, x10, x11]) (S1 := St) (by simp [num, se]) ?_
  refine seq_nx (e1 := [some (.rl (ns.map D.int)), x1, some (.int w0), some (.int (b : Nat)), some (setD s), some (.ref n), x6, x7, x8, x9, x10, x11]) (S1 := S1) (by simp [re2]) ?_
  refine seq_nx (e1 := [some (.rl (ns.map D.int)), x1, some (.int w0), some (.int (b : Nat)), some (setD s), some (.ref n), some (setD s'), x7, x8, x9, x10, x11]) (S1 := S1) (by simp [num2, se']) ?_
  refine seq_nx (e1 := [some (.rl (ns.map D.int)), x1, some (.int w0), some (.int (b : Nat)), some (setD s), some (.ref n), some (setD s'), some (.ref o), x8, x9, x10, x11]) (S1 := S4) (by simp [e2, e3, e4]) ?_
  simp [ri]
theorem l_law {ns : List Int} (h1 : ns.length ≤ 63) (h2 : ∀ z ∈ ns, Builtin.Int.intBits z ≤ 1048576) {w0 : Int} (hw : Big w0) (S : Sto) (x1 x3 x4 x5 x6 x7 x8 x9 x10 x11 : Option D) : ∃ z3 z4 z5 z6 z7 S2, fo_law_0 [some (.rl (ns.map D.int)), x1, some (.int w0), x3, x4, x5, x6, x7, x8, x9, x10, x11] S = .nx [some (.rl (ns.map D.int)), x1, some (.int w0), z3, z4, z5, z6, z7, x8, x9, x10, x11] S2 := by
  obtain ⟨e', S', h3, z3, z4, z5, z6, z7, rfl⟩ := for_inv (src := srcR 0 1 3) (g := gN 3) (b := fb_law_0) (rngD 0 1 3)
    (fun j e St => ∃ z3 z4 z5 z6 z7, e = [some (.rl (ns.map D.int)), x1, some (.int w0), z3, z4, z5, z6, z7, x8, x9, x10, x11])
    (fun j e St _ => src_rng _ _ _ _ _)
    (fun j x e St hx ⟨z3, z4, z5, z6, z7, he⟩ => by
      subst he
      obtain ⟨hj, rfl⟩ := rngD_get hx
      rw [show (0 : Int) + (j : Nat) * 1 = (j : Nat) by omega]
      obtain ⟨y4, y5, y6, y7, S2, t⟩ := t_law h1 h2 hw (b := j) (by omega) St x1 z4 z5 z6 z7 x8 x9 x10 x11
      exact ⟨[some (.rl (ns.map D.int)), x1, some (.int w0), some (.int (j : Nat)), y4, y5, y6, y7, x8, x9, x10, x11], S2, by simp only [turn, eg_n, List.set, t], _, _, _, _, _, rfl⟩)
    (fuel := 4) (by simp) (e := [some (.rl (ns.map D.int)), x1, some (.int w0), x3, x4, x5, x6, x7, x8, x9, x10, x11]) (S := S) ⟨_, _, _, _, _, rfl⟩
  refine ⟨z3, z4, z5, z6, z7, S', ?_⟩
  rw [fo_law_0, m_for (i_rng1 (j := 3) (S1 := S) (by simp) (by omega) (by omega))]
  exact h3
/-- judged at given readings: two clash -/
theorem j_clash {s : Set3} (h : OkS s) {rs : List Rd2} (hr : OkR rs) {n : Nat} {S : Sto} (hl : getL S n = some (rs.map rdD)) {i j : Nat} (hij : i < j) (hj : j < rs.length) (hc : clashB s (rd rs i) (rd rs j) = true) : ∃ k S', ∃ a b : Nat, c_judged [setD s, .ref n] S = .ok (.ref k) S' ∧ S <+: S' ∧ S'[k]? = some (.ins k_Clash (fClash a b)) ∧ a < b ∧ b < rs.length ∧ clashB s (rd rs a) (rd rs b) = true := by
  obtain ⟨k, S', e, p, _, hj'⟩ := e_judged h hr hl
  have hm := mem_clL.mpr ⟨i, j, hij, hj, hc, rfl⟩
  rcases hj' with ⟨h0, _⟩ | ⟨q, t, h1, h2⟩
  · rw [h0] at hm; cases hm
  · have : q ∈ clL s rs := by rw [h1]; exact List.mem_cons_self
    obtain ⟨a, b, q1, q2, q3, rfl⟩ := mem_clL.mp this
    exact ⟨k, S', a, b, e, p, h2, q1, q2, q3⟩
theorem ok3 (a b c : Int) (h : 0 ≤ a ∧ a ≤ b ∧ b ≤ 9 ∧ 0 ≤ c ∧ c ≤ 5) : OkS ⟨a, b, c⟩ := ⟨h.1, h.2.1, h.2.2.1, h.2.2.2.1, h.2.2.2.2⟩
instance (r : Rd2) : Decidable (OkR1 r) := decidable_of_iff (0 ≤ r.1 ∧ r.1 ≤ 60 ∧ 0 ≤ r.2 ∧ r.2 ≤ 600) ⟨fun h => ⟨h.1, h.2.1, h.2.2.1, h.2.2.2⟩, fun h => ⟨h.t0, h.t1, h.v0, h.v1⟩⟩
theorem two3 {a b : Nat} (h1 : a < b) (h2 : b < 3) : (a = 0 ∧ b = 1) ∨ (a = 0 ∧ b = 2) ∨ (a = 1 ∧ b = 2) := by omega
theorem main : ∀ ns : List Int, ns.length ≤ 63 → (∀ z ∈ ns, Builtin.Int.intBits z ≤ 1048576) → ∃ S, r_law [.rl (ns.map D.int)] [] = .ok (.bl true) S := by
  intro ns h1 h2
  have hc := cells_ok h1 h2
  obtain ⟨kc, S1, a1, p1, g1, l1⟩ := e_cells h1 [none, none, none, none, none, none, none, none, none, none, none] []
  obtain ⟨z3, z4, z5, z6, z7, S2, e2⟩ := l_law h1 h2 (whole_big0 hc) S1 (some (.ref kc)) none none none none none none none none none
  obtain ⟨T1, t1, q1, u1⟩ := newL_ex (xs := ([(0, 0), (2, 4), (4, 5)] : List Rd2).map rdD) (by decide) S2
  obtain ⟨k1, R1, i1, j1, d1, r1, f1, n1, n2, n3⟩ := j_clash (s := ⟨1, 2, 0⟩) (ok3 1 2 0 (by decide)) (rs := [(0, 0), (2, 4), (4, 5)]) ⟨by decide, by decide, by decide⟩ u1 (i := 1) (j := 2) (by decide) (by decide) (by decide)
  have v1 : i1 = 1 ∧ j1 = 2 := by
    rcases two3 n1 n2 with ⟨rfl, rfl⟩ | ⟨rfl, rfl⟩ | ⟨rfl, rfl⟩
    · revert n3; decide
    · revert n3; decide
    · exact ⟨rfl, rfl⟩
  obtain ⟨rfl, rfl⟩ := v1
  obtain ⟨T2, t2, q2, u2⟩ := newL_ex (xs := ([(0, 9), (1, 9), (60, 8)] : List Rd2).map rdD) (by decide) R1
  obtain ⟨k2, R2, i2, j2, d2, r2, f2, n4, n5, n6⟩ := j_clash (s := ⟨0, 9, 0⟩) (ok3 0 9 0 (by decide)) (rs := [(0, 9), (1, 9), (60, 8)]) ⟨by decide, by decide, by decide⟩ u2 (i := 1) (j := 2) (by decide) (by decide) (by decide)
  have v2 : j2 = 2 := by
    rcases two3 n4 n5 with ⟨rfl, rfl⟩ | ⟨rfl, rfl⟩ | ⟨rfl, rfl⟩
    · revert n6; decide
    · rfl
    · rfl
  subst v2
  obtain ⟨T3, t3, q3, u3⟩ := newL_ex (xs := ([(0, 0), (1, 2), (2, 4)] : List Rd2).map rdD) (by decide) R2
  obtain ⟨k3, R3, i3, j3, d3, r3, f3, n7, n8, n9⟩ := j_clash (s := ⟨0, 0, 1⟩) (ok3 0 0 1 (by decide)) (rs := [(0, 0), (1, 2), (2, 4)]) ⟨by decide, by decide, by decide⟩ u3 (i := 0) (j := 2) (by decide) (by decide) (by decide)
  have v3 : i3 = 0 ∧ j3 = 2 := by
    rcases two3 n7 n8 with ⟨rfl, rfl⟩ | ⟨rfl, rfl⟩ | ⟨rfl, rfl⟩
    · revert n9; decide
    · exact ⟨rfl, rfl⟩
    · revert n9; decide
  obtain ⟨rfl, rfl⟩ := v3
  obtain ⟨T4, t4, q4, u4⟩ := newL_ex (xs := ([(0, 0), (60, 180)] : List Rd2).map rdD) (by decide) R3
  obtain ⟨k4, R4, d4, r4, _, hj⟩ := e_judged (s := ⟨3, 3, 0⟩) (ok3 3 3 0 (by decide)) (rs := [(0, 0), (60, 180)]) ⟨by decide, by decide, by decide⟩ u4
  obtain ⟨m4, f4, g4⟩ : ∃ m, R4[k4]? = some (.ins k_Fits (fFits m)) ∧ getL R4 m = some (([0, 180] : List Int).map D.int) := by
    rcases hj with ⟨_, m, x1, x2, _⟩ | ⟨q, t, x1, _⟩
    · have : crsL ⟨3, 3, 0⟩ [(0, 0), (60, 180)] = [0, 180] := by decide
      rw [this] at x2
      exact ⟨m, x1, x2⟩
    · have : q ∈ clL ⟨3, 3, 0⟩ [(0, 0), (60, 180)] := by rw [x1]; exact List.mem_cons_self
      obtain ⟨a, b, y1, y2, y3, _⟩ := mem_clL.mp this
      have ab : a = 0 ∧ b = 1 := by simp at y2; omega
      obtain ⟨rfl, rfl⟩ := ab
      exact absurd y3 (by decide)
  obtain ⟨T5, t5, q5, u5⟩ := newL_ex (xs := ([0, 180] : List Int).map D.int) (by decide) R4
  have eq5 := v_eq_ints (getL_pre g4 q5) u5
  have f1' := get_pre f1 (((q2.trans r2).trans (q3.trans r3)).trans (q4.trans r4))
  have f1b := get_pre f1 (q2.trans r2)
  have f3b := get_pre f3 (q4.trans r4)
  have ep1 := v_eq_pr (S := R4) (1, 2) (1, 2)
  have ep3 := v_ne_pr (S := R3) (0, 2) (0, 2)
  simp at eq5 ep1 ep3
  simp [rdD] at t1 t2 t3 t4 t5
  simp [setD] at d1 d2 d3 d4
  refine ⟨_, fn_rt (S' := T5) ?_⟩
  unfold m_law
  refine seq_nx (e1 := [some (.rl (ns.map D.int)), some (.ref kc), none, none, none, none, none, none, none, none, none, none]) (S1 := S1) ?_ ?_
  · have : mIfE (mTest (mBin vNe (mVar 0) (mLst mNil))) (mSl (mVar 0) oN (oS (mC (.int 63)))) (mLst (mCons (mC (.int 5)) mNil)) (([.rl (ns.map D.int)] : List D).map some ++ List.replicate (12 - 1) none) [] = .ok (.ref kc) S1 := a1
    rw [es_asg, this]
    simp
  refine seq_nx (e1 := [some (.rl (ns.map D.int)), some (.ref kc), some (.int (cellsOf ns).sum), none, none, none, none, none, none, none, none, none]) (S1 := S1) (by simp [b_sum g1]) ?_
  refine seq_nx (e1 := [some (.rl (ns.map D.int)), some (.ref kc), some (.int (cellsOf ns).sum), z3, z4, z5, z6, z7, none, none, none, none]) (S1 := S2) e2 ?_
  refine seq_nx (e1 := [some (.rl (ns.map D.int)), some (.ref kc), some (.int (cellsOf ns).sum), z3, z4, z5, z6, z7, some (.ref k1), none, none, none]) (S1 := R1) (by simp [t1, d1]) ?_
  refine seq_nx (e1 := [some (.rl (ns.map D.int)), some (.ref kc), some (.int (cellsOf ns).sum), z3, z4, z5, z6, z7, some (.ref k1), some (.ref k2), none, none]) (S1 := R2) (by simp [t2, d2]) ?_
  refine seq_nx (e1 := [some (.rl (ns.map D.int)), some (.ref kc), some (.int (cellsOf ns).sum), z3, z4, z5, z6, z7, some (.ref k1), some (.ref k2), none, none]) (S1 := R2) (by simp [ty_ins f1b, ty_ins f2, is_Clash, mFld, insAt, f2]) ?_
  refine seq_nx (e1 := [some (.rl (ns.map D.int)), some (.ref kc), some (.int (cellsOf ns).sum), z3, z4, z5, z6, z7, some (.ref k1), some (.ref k2), some (.ref k3), none]) (S1 := R3) (by simp [t3, d3]) ?_
  refine seq_nx (e1 := [some (.rl (ns.map D.int)), some (.ref kc), some (.int (cellsOf ns).sum), z3, z4, z5, z6, z7, some (.ref k1), some (.ref k2), some (.ref k3), none]) (S1 := R3) (by simp [ty_ins f3, is_Clash, mFld, insAt, f3, ep3]) ?_
  refine seq_nx (e1 := [some (.rl (ns.map D.int)), some (.ref kc), some (.int (cellsOf ns).sum), z3, z4, z5, z6, z7, some (.ref k1), some (.ref k2), some (.ref k3), some (.ref k4)]) (S1 := R4) (by simp [t4, d4]) ?_
  simp [mFld, insAt, f1', ep1, ty_ins f4, is_Fits, f4, t5, eq5]
end L04
namespace L04
open PySem L2 Fx
theorem all_mk {l : PySem.W.OpenLaw} {w : World} {K : PySem.W.Frag} {h : Heap} {mg : Str → Option Value} {fa : Addr} (X : K.In h) (G : h.Ns mainGlobals mg) (hfa : mg "law" = some (.ref fa))
    {C_Answer : Addr}
    {C_Fits : Addr}
    {C_Clash : Addr}
    {C_Kept : Addr}
    {f_clash : Addr} {od_clash an_clash : Option Addr} {sl_clash : Array (Option Value)} {oc_clash kV_clash dc_clash pm_clash cd_clash ct_clash : Value}
    {f_clashes_of : Addr} {od_clashes_of an_clashes_of : Option Addr} {sl_clashes_of : Array (Option Value)} {oc_clashes_of kV_clashes_of dc_clashes_of pm_clashes_of cd_clashes_of ct_clashes_of : Value}
    {f_course_of : Addr} {od_course_of an_course_of : Option Addr} {sl_course_of : Array (Option Value)} {oc_course_of kV_course_of dc_course_of pm_course_of cd_course_of ct_course_of : Value}
    {f_fits : Addr} {od_fits an_fits : Option Addr} {sl_fits : Array (Option Value)} {oc_fits kV_fits dc_fits pm_fits cd_fits ct_fits : Value}
    {f_Fits_init : Addr} {od_Fits_init an_Fits_init : Option Addr} {sl_Fits_init : Array (Option Value)} {oc_Fits_init kV_Fits_init dc_Fits_init pm_Fits_init cd_Fits_init ct_Fits_init : Value}
    {f_Fits_shows : Addr} {od_Fits_shows an_Fits_shows : Option Addr} {sl_Fits_shows : Array (Option Value)} {oc_Fits_shows kV_Fits_shows dc_Fits_shows pm_Fits_shows cd_Fits_shows ct_Fits_shows : Value}
    {f_Clash_init : Addr} {od_Clash_init an_Clash_init : Option Addr} {sl_Clash_init : Array (Option Value)} {oc_Clash_init kV_Clash_init dc_Clash_init pm_Clash_init cd_Clash_init ct_Clash_init : Value}
    {f_Clash_shows : Addr} {od_Clash_shows an_Clash_shows : Option Addr} {sl_Clash_shows : Array (Option Value)} {oc_Clash_shows kV_Clash_shows dc_Clash_shows pm_Clash_shows cd_Clash_shows ct_Clash_shows : Value}
    {f_is_whole : Addr} {od_is_whole an_is_whole : Option Addr} {sl_is_whole : Array (Option Value)} {oc_is_whole kV_is_whole dc_is_whole pm_is_whole cd_is_whole ct_is_whole : Value}
    {f_is_between : Addr} {od_is_between an_is_between : Option Addr} {sl_is_between : Array (Option Value)} {oc_is_between kV_is_between dc_is_between pm_is_between cd_is_between ct_is_between : Value}
    {f_check_settings : Addr} {od_check_settings an_check_settings : Option Addr} {sl_check_settings : Array (Option Value)} {oc_check_settings kV_check_settings dc_check_settings pm_check_settings cd_check_settings ct_check_settings : Value}
    {f_is_reading : Addr} {od_is_reading an_is_reading : Option Addr} {sl_is_reading : Array (Option Value)} {oc_is_reading kV_is_reading dc_is_reading pm_is_reading cd_is_reading ct_is_reading : Value}
    {f_check_readings : Addr} {od_check_readings an_check_readings : Option Addr} {sl_check_readings : Array (Option Value)} {oc_check_readings kV_check_readings dc_check_readings pm_check_readings cd_check_readings ct_check_readings : Value}
    {f_judged : Addr} {od_judged an_judged : Option Addr} {sl_judged : Array (Option Value)} {oc_judged kV_judged dc_judged pm_judged cd_judged ct_judged : Value}
    {f__law_number : Addr} {od__law_number an__law_number : Option Addr} {sl__law_number : Array (Option Value)} {oc__law_number kV__law_number dc__law_number pm__law_number cd__law_number ct__law_number : Value}
    {f__law_whole : Addr} {od__law_whole an__law_whole : Option Addr} {sl__law_whole : Array (Option Value)} {oc__law_whole kV__law_whole dc__law_whole pm__law_whole cd__law_whole ct__law_whole : Value}
    {f__law_says : Addr} {od__law_says an__law_says : Option Addr} {sl__law_says : Array (Option Value)} {oc__law_says kV__law_says dc__law_says pm__law_says cd__law_says ct__law_says : Value}
    {f__law_settings : Addr} {od__law_settings an__law_settings : Option Addr} {sl__law_settings : Array (Option Value)} {oc__law_settings kV__law_settings dc__law_settings pm__law_settings cd__law_settings ct__law_settings : Value}
    {f__law_readings : Addr} {od__law_readings an__law_readings : Option Addr} {sl__law_readings : Array (Option Value)} {oc__law_readings kV__law_readings dc__law_readings pm__law_readings cd__law_readings ct__law_readings : Value}
    {f__law_clash : Addr} {od__law_clash an__law_clash : Option Addr} {sl__law_clash : Array (Option Value)} {oc__law_clash kV__law_clash dc__law_clash pm__law_clash cd__law_clash ct__law_clash : Value}
    {f__law_fits : Addr} {od__law_fits an__law_fits : Option Addr} {sl__law_fits : Array (Option Value)} {oc__law_fits kV__law_fits dc__law_fits pm__law_fits cd__law_fits ct__law_fits : Value}
    {f__law_reached : Addr} {od__law_reached an__law_reached : Option Addr} {sl__law_reached : Array (Option Value)} {oc__law_reached kV__law_reached dc__law_reached pm__law_reached cd__law_reached ct__law_reached : Value}
    {f__law_due : Addr} {od__law_due an__law_due : Option Addr} {sl__law_due : Array (Option Value)} {oc__law_due kV__law_due dc__law_due pm__law_due cd__law_due ct__law_due : Value}
    {f__law_right : Addr} {od__law_right an__law_right : Option Addr} {sl__law_right : Array (Option Value)} {oc__law_right kV__law_right dc__law_right pm__law_right cd__law_right ct__law_right : Value}
    {f_law : Addr} {od_law an_law : Option Addr} {sl_law : Array (Option Value)} {oc_law kV_law dc_law pm_law cd_law ct_law : Value}
    {t_LATEST : Tok}
    {t_MOST_RATE : Tok}
    {t_MOST_READINGS : Tok}
    {t_MOST_SLACK : Tok}
    {t_MOST_VALUE : Tok}
    (aC_Answer : PySem.W.nsIn K mainGlobals "Answer" = some (some (.ref C_Answer)))
    (aC_Fits : PySem.W.nsIn K mainGlobals "Fits" = some (some (.ref C_Fits)))
    (aC_Clash : PySem.W.nsIn K mainGlobals "Clash" = some (some (.ref C_Clash)))
    (aC_Kept : PySem.W.nsIn K mainGlobals "Kept" = some (some (.ref C_Kept)))
    (a_clash : PySem.W.nsIn K mainGlobals "clash" = some (some (.ref f_clash)))
    (l_clash : K.lookup f_clash = some ⟨oc_clash, od_clash, .func (PySem.W.fnOf "clash" "clash" (defArgs s_clash) (defBody s_clash) (defScope s_clash) .none kV_clash dc_clash pm_clash an_clash cd_clash ct_clash), sl_clash⟩)
    (c_clash : PySem.W.codeIn K cd_clash "clash" = true)
    (k_clash : PySem.W.keepIn K (.ref f_clash) = true)
    (a_clashes_of : PySem.W.nsIn K mainGlobals "clashes_of" = some (some (.ref f_clashes_of)))
    (l_clashes_of : K.lookup f_clashes_of = some ⟨oc_clashes_of, od_clashes_of, .func (PySem.W.fnOf "clashes_of" "clashes_of" (defArgs s_clashes_of) (defBody s_clashes_of) (defScope s_clashes_of) .none kV_clashes_of dc_clashes_of pm_clashes_of an_clashes_of cd_clashes_of ct_clashes_of), sl_clashes_of⟩)
    (c_clashes_of : PySem.W.codeIn K cd_clashes_of "clashes_of" = true)
    (k_clashes_of : PySem.W.keepIn K (.ref f_clashes_of) = true)
    (a_course_of : PySem.W.nsIn K mainGlobals "course_of" = some (some (.ref f_course_of)))
    (l_course_of : K.lookup f_course_of = some ⟨oc_course_of, od_course_of, .func (PySem.W.fnOf "course_of" "course_of" (defArgs s_course_of) (defBody s_course_of) (defScope s_course_of) .none kV_course_of dc_course_of pm_course_of an_course_of cd_course_of ct_course_of), sl_course_of⟩)
    (c_course_of : PySem.W.codeIn K cd_course_of "course_of" = true)
    (k_course_of : PySem.W.keepIn K (.ref f_course_of) = true)
    (a_fits : PySem.W.nsIn K mainGlobals "fits" = some (some (.ref f_fits)))
    (l_fits : K.lookup f_fits = some ⟨oc_fits, od_fits, .func (PySem.W.fnOf "fits" "fits" (defArgs s_fits) (defBody s_fits) (defScope s_fits) .none kV_fits dc_fits pm_fits an_fits cd_fits ct_fits), sl_fits⟩)
    (c_fits : PySem.W.codeIn K cd_fits "fits" = true)
    (k_fits : PySem.W.keepIn K (.ref f_fits) = true)
    (a_Fits_init : PySem.W.findIn K (.ref C_Fits) "__init__" = some (some (.ref f_Fits_init)))
    (i_Fits_init : PySem.W.isFn K (.ref f_Fits_init) = true)
    (l_Fits_init : K.lookup f_Fits_init = some ⟨oc_Fits_init, od_Fits_init, .func (PySem.W.fnOf "__init__" "Fits.__init__" (defArgs s_Fits_init) (defBody s_Fits_init) (defScope s_Fits_init) .none kV_Fits_init dc_Fits_init pm_Fits_init an_Fits_init cd_Fits_init ct_Fits_init), sl_Fits_init⟩)
    (c_Fits_init : PySem.W.codeIn K cd_Fits_init "Fits.__init__" = true)
    (k_Fits_init : PySem.W.keepIn K (.ref f_Fits_init) = true)
    (a_Fits_shows : PySem.W.findIn K (.ref C_Fits) "shows" = some (some (.ref f_Fits_shows)))
    (i_Fits_shows : PySem.W.isFn K (.ref f_Fits_shows) = true)
    (l_Fits_shows : K.lookup f_Fits_shows = some ⟨oc_Fits_shows, od_Fits_shows, .func (PySem.W.fnOf "shows" "Fits.shows" (defArgs s_Fits_shows) (defBody s_Fits_shows) (defScope s_Fits_shows) .none kV_Fits_shows dc_Fits_shows pm_Fits_shows an_Fits_shows cd_Fits_shows ct_Fits_shows), sl_Fits_shows⟩)
    (c_Fits_shows : PySem.W.codeIn K cd_Fits_shows "Fits.shows" = true)
    (k_Fits_shows : PySem.W.keepIn K (.ref f_Fits_shows) = true)
    (a_Clash_init : PySem.W.findIn K (.ref C_Clash) "__init__" = some (some (.ref f_Clash_init)))
    (i_Clash_init : PySem.W.isFn K (.ref f_Clash_init) = true)
    (l_Clash_init : K.lookup f_Clash_init = some ⟨oc_Clash_init, od_Clash_init, .func (PySem.W.fnOf "__init__" "Clash.__init__" (defArgs s_Clash_init) (defBody s_Clash_init) (defScope s_Clash_init) .none kV_Clash_init dc_Clash_init pm_Clash_init an_Clash_init cd_Clash_init ct_Clash_init), sl_Clash_init⟩)
    (c_Clash_init : PySem.W.codeIn K cd_Clash_init "Clash.__init__" = true)
    (k_Clash_init : PySem.W.keepIn K (.ref f_Clash_init) = true)
    (a_Clash_shows : PySem.W.findIn K (.ref C_Clash) "shows" = some (some (.ref f_Clash_shows)))
    (i_Clash_shows : PySem.W.isFn K (.ref f_Clash_shows) = true)
    (l_Clash_shows : K.lookup f_Clash_shows = some ⟨oc_Clash_shows, od_Clash_shows, .func (PySem.W.fnOf "shows" "Clash.shows" (defArgs s_Clash_shows) (defBody s_Clash_shows) (defScope s_Clash_shows) .none kV_Clash_shows dc_Clash_shows pm_Clash_shows an_Clash_shows cd_Clash_shows ct_Clash_shows), sl_Clash_shows⟩)
    (c_Clash_shows : PySem.W.codeIn K cd_Clash_shows "Clash.shows" = true)
    (k_Clash_shows : PySem.W.keepIn K (.ref f_Clash_shows) = true)
    (a_is_whole : PySem.W.nsIn K mainGlobals "is_whole" = some (some (.ref f_is_whole)))
    (l_is_whole : K.lookup f_is_whole = some ⟨oc_is_whole, od_is_whole, .func (PySem.W.fnOf "is_whole" "is_whole" (defArgs s_is_whole) (defBody s_is_whole) (defScope s_is_whole) .none kV_is_whole dc_is_whole pm_is_whole an_is_whole cd_is_whole ct_is_whole), sl_is_whole⟩)
    (c_is_whole : PySem.W.codeIn K cd_is_whole "is_whole" = true)
    (k_is_whole : PySem.W.keepIn K (.ref f_is_whole) = true)
    (a_is_between : PySem.W.nsIn K mainGlobals "is_between" = some (some (.ref f_is_between)))
    (l_is_between : K.lookup f_is_between = some ⟨oc_is_between, od_is_between, .func (PySem.W.fnOf "is_between" "is_between" (defArgs s_is_between) (defBody s_is_between) (defScope s_is_between) .none kV_is_between dc_is_between pm_is_between an_is_between cd_is_between ct_is_between), sl_is_between⟩)
    (c_is_between : PySem.W.codeIn K cd_is_between "is_between" = true)
    (k_is_between : PySem.W.keepIn K (.ref f_is_between) = true)
    (a_check_settings : PySem.W.nsIn K mainGlobals "check_settings" = some (some (.ref f_check_settings)))
    (l_check_settings : K.lookup f_check_settings = some ⟨oc_check_settings, od_check_settings, .func (PySem.W.fnOf "check_settings" "check_settings" (defArgs s_check_settings) (defBody s_check_settings) (defScope s_check_settings) .none kV_check_settings dc_check_settings pm_check_settings an_check_settings cd_check_settings ct_check_settings), sl_check_settings⟩)
    (c_check_settings : PySem.W.codeIn K cd_check_settings "check_settings" = true)
    (k_check_settings : PySem.W.keepIn K (.ref f_check_settings) = true)
    (a_is_reading : PySem.W.nsIn K mainGlobals "is_reading" = some (some (.ref f_is_reading)))
    (l_is_reading : K.lookup f_is_reading = some ⟨oc_is_reading, od_is_reading, .func (PySem.W.fnOf "is_reading" "is_reading" (defArgs s_is_reading) (defBody s_is_reading) (defScope s_is_reading) .none kV_is_reading dc_is_reading pm_is_reading an_is_reading cd_is_reading ct_is_reading), sl_is_reading⟩)
    (c_is_reading : PySem.W.codeIn K cd_is_reading "is_reading" = true)
    (k_is_reading : PySem.W.keepIn K (.ref f_is_reading) = true)
    (a_check_readings : PySem.W.nsIn K mainGlobals "check_readings" = some (some (.ref f_check_readings)))
    (l_check_readings : K.lookup f_check_readings = some ⟨oc_check_readings, od_check_readings, .func (PySem.W.fnOf "check_readings" "check_readings" (defArgs s_check_readings) (defBody s_check_readings) (defScope s_check_readings) .none kV_check_readings dc_check_readings pm_check_readings an_check_readings cd_check_readings ct_check_readings), sl_check_readings⟩)
    (c_check_readings : PySem.W.codeIn K cd_check_readings "check_readings" = true)
    (k_check_readings : PySem.W.keepIn K (.ref f_check_readings) = true)
    (a_judged : PySem.W.nsIn K mainGlobals "judged" = some (some (.ref f_judged)))
    (l_judged : K.lookup f_judged = some ⟨oc_judged, od_judged, .func (PySem.W.fnOf "judged" "judged" (defArgs s_judged) (defBody s_judged) (defScope s_judged) .none kV_judged dc_judged pm_judged an_judged cd_judged ct_judged), sl_judged⟩)
    (c_judged : PySem.W.codeIn K cd_judged "judged" = true)
    (k_judged : PySem.W.keepIn K (.ref f_judged) = true)
    (a__law_number : PySem.W.nsIn K mainGlobals "_law_number" = some (some (.ref f__law_number)))
    (l__law_number : K.lookup f__law_number = some ⟨oc__law_number, od__law_number, .func (PySem.W.fnOf "_law_number" "_law_number" (defArgs s__law_number) (defBody s__law_number) (defScope s__law_number) .none kV__law_number dc__law_number pm__law_number an__law_number cd__law_number ct__law_number), sl__law_number⟩)
    (c__law_number : PySem.W.codeIn K cd__law_number "_law_number" = true)
    (k__law_number : PySem.W.keepIn K (.ref f__law_number) = true)
    (a__law_whole : PySem.W.nsIn K mainGlobals "_law_whole" = some (some (.ref f__law_whole)))
    (l__law_whole : K.lookup f__law_whole = some ⟨oc__law_whole, od__law_whole, .func (PySem.W.fnOf "_law_whole" "_law_whole" (defArgs s__law_whole) (defBody s__law_whole) (defScope s__law_whole) .none kV__law_whole dc__law_whole pm__law_whole an__law_whole cd__law_whole ct__law_whole), sl__law_whole⟩)
    (c__law_whole : PySem.W.codeIn K cd__law_whole "_law_whole" = true)
    (k__law_whole : PySem.W.keepIn K (.ref f__law_whole) = true)
    (a__law_says : PySem.W.nsIn K mainGlobals "_law_says" = some (some (.ref f__law_says)))
    (l__law_says : K.lookup f__law_says = some ⟨oc__law_says, od__law_says, .func (PySem.W.fnOf "_law_says" "_law_says" (defArgs s__law_says) (defBody s__law_says) (defScope s__law_says) .none kV__law_says dc__law_says pm__law_says an__law_says cd__law_says ct__law_says), sl__law_says⟩)
    (c__law_says : PySem.W.codeIn K cd__law_says "_law_says" = true)
    (k__law_says : PySem.W.keepIn K (.ref f__law_says) = true)
    (a__law_settings : PySem.W.nsIn K mainGlobals "_law_settings" = some (some (.ref f__law_settings)))
    (l__law_settings : K.lookup f__law_settings = some ⟨oc__law_settings, od__law_settings, .func (PySem.W.fnOf "_law_settings" "_law_settings" (defArgs s__law_settings) (defBody s__law_settings) (defScope s__law_settings) .none kV__law_settings dc__law_settings pm__law_settings an__law_settings cd__law_settings ct__law_settings), sl__law_settings⟩)
    (c__law_settings : PySem.W.codeIn K cd__law_settings "_law_settings" = true)
    (k__law_settings : PySem.W.keepIn K (.ref f__law_settings) = true)
    (a__law_readings : PySem.W.nsIn K mainGlobals "_law_readings" = some (some (.ref f__law_readings)))
    (l__law_readings : K.lookup f__law_readings = some ⟨oc__law_readings, od__law_readings, .func (PySem.W.fnOf "_law_readings" "_law_readings" (defArgs s__law_readings) (defBody s__law_readings) (defScope s__law_readings) .none kV__law_readings dc__law_readings pm__law_readings an__law_readings cd__law_readings ct__law_readings), sl__law_readings⟩)
    (c__law_readings : PySem.W.codeIn K cd__law_readings "_law_readings" = true)
    (k__law_readings : PySem.W.keepIn K (.ref f__law_readings) = true)
    (a__law_clash : PySem.W.nsIn K mainGlobals "_law_clash" = some (some (.ref f__law_clash)))
    (l__law_clash : K.lookup f__law_clash = some ⟨oc__law_clash, od__law_clash, .func (PySem.W.fnOf "_law_clash" "_law_clash" (defArgs s__law_clash) (defBody s__law_clash) (defScope s__law_clash) .none kV__law_clash dc__law_clash pm__law_clash an__law_clash cd__law_clash ct__law_clash), sl__law_clash⟩)
    (c__law_clash : PySem.W.codeIn K cd__law_clash "_law_clash" = true)
    (k__law_clash : PySem.W.keepIn K (.ref f__law_clash) = true)
    (a__law_fits : PySem.W.nsIn K mainGlobals "_law_fits" = some (some (.ref f__law_fits)))
    (l__law_fits : K.lookup f__law_fits = some ⟨oc__law_fits, od__law_fits, .func (PySem.W.fnOf "_law_fits" "_law_fits" (defArgs s__law_fits) (defBody s__law_fits) (defScope s__law_fits) .none kV__law_fits dc__law_fits pm__law_fits an__law_fits cd__law_fits ct__law_fits), sl__law_fits⟩)
    (c__law_fits : PySem.W.codeIn K cd__law_fits "_law_fits" = true)
    (k__law_fits : PySem.W.keepIn K (.ref f__law_fits) = true)
    (a__law_reached : PySem.W.nsIn K mainGlobals "_law_reached" = some (some (.ref f__law_reached)))
    (l__law_reached : K.lookup f__law_reached = some ⟨oc__law_reached, od__law_reached, .func (PySem.W.fnOf "_law_reached" "_law_reached" (defArgs s__law_reached) (defBody s__law_reached) (defScope s__law_reached) .none kV__law_reached dc__law_reached pm__law_reached an__law_reached cd__law_reached ct__law_reached), sl__law_reached⟩)
    (c__law_reached : PySem.W.codeIn K cd__law_reached "_law_reached" = true)
    (k__law_reached : PySem.W.keepIn K (.ref f__law_reached) = true)
    (a__law_due : PySem.W.nsIn K mainGlobals "_law_due" = some (some (.ref f__law_due)))
    (l__law_due : K.lookup f__law_due = some ⟨oc__law_due, od__law_due, .func (PySem.W.fnOf "_law_due" "_law_due" (defArgs s__law_due) (defBody s__law_due) (defScope s__law_due) .none kV__law_due dc__law_due pm__law_due an__law_due cd__law_due ct__law_due), sl__law_due⟩)
    (c__law_due : PySem.W.codeIn K cd__law_due "_law_due" = true)
    (k__law_due : PySem.W.keepIn K (.ref f__law_due) = true)
    (a__law_right : PySem.W.nsIn K mainGlobals "_law_right" = some (some (.ref f__law_right)))
    (l__law_right : K.lookup f__law_right = some ⟨oc__law_right, od__law_right, .func (PySem.W.fnOf "_law_right" "_law_right" (defArgs s__law_right) (defBody s__law_right) (defScope s__law_right) .none kV__law_right dc__law_right pm__law_right an__law_right cd__law_right ct__law_right), sl__law_right⟩)
    (c__law_right : PySem.W.codeIn K cd__law_right "_law_right" = true)
    (k__law_right : PySem.W.keepIn K (.ref f__law_right) = true)
    (a_law : PySem.W.nsIn K mainGlobals "law" = some (some (.ref f_law)))
    (l_law : K.lookup f_law = some ⟨oc_law, od_law, .func (PySem.W.fnOf "law" "law" (defArgs s_law) (defBody s_law) (defScope s_law) .none kV_law dc_law pm_law an_law cd_law ct_law), sl_law⟩)
    (c_law : PySem.W.codeIn K cd_law "law" = true)
    (k_law : PySem.W.keepIn K (.ref f_law) = true)
    (pg_Fits : PySem.W.plainGet K C_Fits Str.empty = true)
    (hd_Fits : PySem.W.hasDictIn K C_Fits = true)
    (po_Fits : PySem.W.plainOver K C_Fits = true)
    (sa_Fits : PySem.W.findIn K (.ref C_Fits) "__setattr__" = some (some (.builtin "object.__setattr__")))
    (mk_Fits : PySem.W.makesIn K C_Fits = true)
    (kc_Fits : PySem.W.keepIn K (.ref C_Fits) = true)
    (pg_Clash : PySem.W.plainGet K C_Clash Str.empty = true)
    (hd_Clash : PySem.W.hasDictIn K C_Clash = true)
    (po_Clash : PySem.W.plainOver K C_Clash = true)
    (sa_Clash : PySem.W.findIn K (.ref C_Clash) "__setattr__" = some (some (.builtin "object.__setattr__")))
    (mk_Clash : PySem.W.makesIn K C_Clash = true)
    (kc_Clash : PySem.W.keepIn K (.ref C_Clash) = true)
    (no_Fits_course : PySem.W.findIn K (.ref C_Fits) "course" = some none)
    (no_Clash_one : PySem.W.findIn K (.ref C_Clash) "one" = some none)
    (no_Clash_other : PySem.W.findIn K (.ref C_Clash) "other" = some none)
    (ih : PySem.W.specialIn K (.builtin "object.__class__") "__get__" = some (some (.builtin "getset_descriptor.__get__")))
    (it : PySem.W.takesIn K (.builtin "object.__class__") = some true)
    (ia_Fits : PySem.W.findIn K (.ref C_Fits) "__class__" = some (some (.builtin "object.__class__")))
    (im_Fits : PySem.W.mroIn K C_Fits (.type "object") = some true)
    (ia_Clash : PySem.W.findIn K (.ref C_Clash) "__class__" = some (some (.builtin "object.__class__")))
    (im_Clash : PySem.W.mroIn K C_Clash (.type "object") = some true)
    (ic_Answer : PySem.W.isClsIn K C_Answer = true)
    (ity_Answer : PySem.W.typeIn K (.ref C_Answer) = some (.type "type"))
    (ik_Fits_Answer : PySem.W.subIn K (.ref C_Fits) (.ref C_Answer) = some true)
    (ik_Clash_Answer : PySem.W.subIn K (.ref C_Clash) (.ref C_Answer) = some true)
    (ik_Answer_Answer : PySem.W.subIn K (.ref C_Answer) (.ref C_Answer) = some true)
    (ic_Clash : PySem.W.isClsIn K C_Clash = true)
    (ity_Clash : PySem.W.typeIn K (.ref C_Clash) = some (.type "type"))
    (ik_Fits_Clash : PySem.W.subIn K (.ref C_Fits) (.ref C_Clash) = some false)
    (ik_Clash_Clash : PySem.W.subIn K (.ref C_Clash) (.ref C_Clash) = some true)
    (ic_Fits : PySem.W.isClsIn K C_Fits = true)
    (ity_Fits : PySem.W.typeIn K (.ref C_Fits) = some (.type "type"))
    (ik_Fits_Fits : PySem.W.subIn K (.ref C_Fits) (.ref C_Fits) = some true)
    (ik_Clash_Fits : PySem.W.subIn K (.ref C_Clash) (.ref C_Fits) = some false)
    (ic_Kept : PySem.W.isClsIn K C_Kept = true)
    (ity_Kept : PySem.W.typeIn K (.ref C_Kept) = some (.type "type"))
    (ik_Fits_Kept : PySem.W.subIn K (.ref C_Fits) (.ref C_Kept) = some false)
    (ik_Clash_Kept : PySem.W.subIn K (.ref C_Clash) (.ref C_Kept) = some false)
    (ik_Kept_Kept : PySem.W.subIn K (.ref C_Kept) (.ref C_Kept) = some true)
    (b_abs : PySem.W.nsIn K mainGlobals "abs" = some none)
    (b_all : PySem.W.nsIn K mainGlobals "all" = some none)
    (b_any : PySem.W.nsIn K mainGlobals "any" = some none)
    (b_bool : PySem.W.nsIn K mainGlobals "bool" = some none)
    (b_enumerate : PySem.W.nsIn K mainGlobals "enumerate" = some none)
    (b_int : PySem.W.nsIn K mainGlobals "int" = some none)
    (b_isinstance : PySem.W.nsIn K mainGlobals "isinstance" = some none)
    (b_len : PySem.W.nsIn K mainGlobals "len" = some none)
    (b_list : PySem.W.nsIn K mainGlobals "list" = some none)
    (b_max : PySem.W.nsIn K mainGlobals "max" = some none)
    (b_min : PySem.W.nsIn K mainGlobals "min" = some none)
    (b_range : PySem.W.nsIn K mainGlobals "range" = some none)
    (b_sorted : PySem.W.nsIn K mainGlobals "sorted" = some none)
    (b_sum : PySem.W.nsIn K mainGlobals "sum" = some none)
    (b_tuple : PySem.W.nsIn K mainGlobals "tuple" = some none)
    (b_zip : PySem.W.nsIn K mainGlobals "zip" = some none)
    (g_LATEST : PySem.W.nsIn K mainGlobals "LATEST" = some (some (.int 60 t_LATEST)))
    (g_MOST_RATE : PySem.W.nsIn K mainGlobals "MOST_RATE" = some (some (.int 9 t_MOST_RATE)))
    (g_MOST_READINGS : PySem.W.nsIn K mainGlobals "MOST_READINGS" = some (some (.int 8 t_MOST_READINGS)))
    (g_MOST_SLACK : PySem.W.nsIn K mainGlobals "MOST_SLACK" = some (some (.int 5 t_MOST_SLACK)))
    (g_MOST_VALUE : PySem.W.nsIn K mainGlobals "MOST_VALUE" = some (some (.int 600 t_MOST_VALUE))) :
    ∃ fd : FuncData, (∀ (s : Shared) (v : Value), BindsTo s fd ⟨[v], []⟩ [("_law_script", v)]) ∧ ∀ base : Heap, K.In base → base.Ns mainGlobals mg → FnOk l.prog w K mg base (L2.CX l.prog w) 7 fa fd ["_law_script"] (spLaw K) := by
  have e := hfa.symm.trans (PySem.W.mg_of X G a_law)
  cases e
  let GG : Cc := ⟨K, fun k => ([C_Answer, C_Fits, C_Clash, C_Kept, 0, 0, 0] : List Addr).getD k 0⟩
  have cl_Fits : Cls K C_Fits := ⟨pg_Fits, hd_Fits, po_Fits, sa_Fits⟩
  have cl_Clash : Cls K C_Clash := ⟨pg_Clash, hd_Clash, po_Clash, sa_Clash⟩
  have io_Fits : InsOk K C_Fits := ⟨cl_Fits, ia_Fits, ih, it, im_Fits⟩
  have io_Clash : InsOk K C_Clash := ⟨cl_Clash, ia_Clash, ih, it, im_Clash⟩
  have T : Txt mg GG := {
    b_abs := PySem.W.mg_none_of X G b_abs,
    b_all := PySem.W.mg_none_of X G b_all,
    b_any := PySem.W.mg_none_of X G b_any,
    b_bool := PySem.W.mg_none_of X G b_bool,
    b_enumerate := PySem.W.mg_none_of X G b_enumerate,
    b_int := PySem.W.mg_none_of X G b_int,
    b_isinstance := PySem.W.mg_none_of X G b_isinstance,
    b_len := PySem.W.mg_none_of X G b_len,
    b_list := PySem.W.mg_none_of X G b_list,
    b_max := PySem.W.mg_none_of X G b_max,
    b_min := PySem.W.mg_none_of X G b_min,
    b_range := PySem.W.mg_none_of X G b_range,
    b_sorted := PySem.W.mg_none_of X G b_sorted,
    b_sum := PySem.W.mg_none_of X G b_sum,
    b_tuple := PySem.W.mg_none_of X G b_tuple,
    b_zip := PySem.W.mg_none_of X G b_zip,
    g_LATEST := ⟨_, PySem.W.mg_of X G g_LATEST⟩,
    g_MOST_RATE := ⟨_, PySem.W.mg_of X G g_MOST_RATE⟩,
    g_MOST_READINGS := ⟨_, PySem.W.mg_of X G g_MOST_READINGS⟩,
    g_MOST_SLACK := ⟨_, PySem.W.mg_of X G g_MOST_SLACK⟩,
    g_MOST_VALUE := ⟨_, PySem.W.mg_of X G g_MOST_VALUE⟩,
    fl_course := all1 ⟨cl_Fits, no_Fits_course⟩,
    fl_one := all1 ⟨cl_Clash, no_Clash_one⟩,
    fl_other := all1 ⟨cl_Clash, no_Clash_other⟩,
    m_Answer := PySem.W.mg_of X G aC_Answer,
    is_Answer := (isiOk_C (fun _ => rfl) fun j b hb => by
      unfold is_Answer at hb
      dsimp only at hb
      split at hb
      · cases hb; exact ⟨kit_own ic_Answer ity_Answer ik_Fits_Answer ik_Answer_Answer, io_Fits⟩
      · cases hb; exact ⟨kit_own ic_Answer ity_Answer ik_Clash_Answer ik_Answer_Answer, io_Clash⟩
      · cases hb),
    m_Clash := PySem.W.mg_of X G aC_Clash,
    is_Clash := (isiOk_C (fun _ => rfl) fun j b hb => by
      unfold is_Clash at hb
      dsimp only at hb
      split at hb
      · cases hb; exact ⟨kit_own ic_Clash ity_Clash ik_Fits_Clash ik_Clash_Clash, io_Fits⟩
      · cases hb; exact ⟨kit_own ic_Clash ity_Clash ik_Clash_Clash ik_Clash_Clash, io_Clash⟩
      · cases hb),
    m_Fits := PySem.W.mg_of X G aC_Fits,
    is_Fits := (isiOk_C (fun _ => rfl) fun j b hb => by
      unfold is_Fits at hb
      dsimp only at hb
      split at hb
      · cases hb; exact ⟨kit_own ic_Fits ity_Fits ik_Fits_Fits ik_Fits_Fits, io_Fits⟩
      · cases hb; exact ⟨kit_own ic_Fits ity_Fits ik_Clash_Fits ik_Fits_Fits, io_Clash⟩
      · cases hb),
    m_Kept := PySem.W.mg_of X G aC_Kept,
    is_Kept := (isiOk_C (fun _ => rfl) fun j b hb => by
      unfold is_Kept at hb
      dsimp only at hb
      split at hb
      · cases hb; exact ⟨kit_own ic_Kept ity_Kept ik_Fits_Kept ik_Kept_Kept, io_Fits⟩
      · cases hb; exact ⟨kit_own ic_Kept ity_Kept ik_Clash_Kept ik_Kept_Kept, io_Clash⟩
      · cases hb) }
  have F_clash := fun_mk (K := GG.K) (st := s_clash) l_clash c_clash k_clash
  have b_clash_ := F_clash.binds (ps := ["settings", "one", "other"]) fun _ _ _ _ _ _ us hl => match us, hl with | [_, _, _], _ => rfl
  have F_clashes_of := fun_mk (K := GG.K) (st := s_clashes_of) l_clashes_of c_clashes_of k_clashes_of
  have b_clashes_of_ := F_clashes_of.binds (ps := ["settings", "readings"]) fun _ _ _ _ _ _ us hl => match us, hl with | [_, _], _ => rfl
  have F_course_of := fun_mk (K := GG.K) (st := s_course_of) l_course_of c_course_of k_course_of
  have b_course_of_ := F_course_of.binds (ps := ["settings", "readings"]) fun _ _ _ _ _ _ us hl => match us, hl with | [_, _], _ => rfl
  have F_fits := fun_mk (K := GG.K) (st := s_fits) l_fits c_fits k_fits
  have b_fits_ := F_fits.binds (ps := ["settings", "readings", "course"]) fun _ _ _ _ _ _ us hl => match us, hl with | [_, _, _], _ => rfl
  have F_Fits_init := fun_mk (K := GG.K) (st := s_Fits_init) l_Fits_init c_Fits_init k_Fits_init
  have b_Fits_init_ := F_Fits_init.binds (ps := ["self", "course"]) fun _ _ _ _ _ _ us hl => match us, hl with | [_, _], _ => rfl
  have F_Fits_shows := fun_mk (K := GG.K) (st := s_Fits_shows) l_Fits_shows c_Fits_shows k_Fits_shows
  have b_Fits_shows_ := F_Fits_shows.binds (ps := ["self", "settings", "readings"]) fun _ _ _ _ _ _ us hl => match us, hl with | [_, _, _], _ => rfl
  have F_Clash_init := fun_mk (K := GG.K) (st := s_Clash_init) l_Clash_init c_Clash_init k_Clash_init
  have b_Clash_init_ := F_Clash_init.binds (ps := ["self", "one", "other"]) fun _ _ _ _ _ _ us hl => match us, hl with | [_, _, _], _ => rfl
  have F_Clash_shows := fun_mk (K := GG.K) (st := s_Clash_shows) l_Clash_shows c_Clash_shows k_Clash_shows
  have b_Clash_shows_ := F_Clash_shows.binds (ps := ["self", "settings", "readings"]) fun _ _ _ _ _ _ us hl => match us, hl with | [_, _, _], _ => rfl
  have F_is_whole := fun_mk (K := GG.K) (st := s_is_whole) l_is_whole c_is_whole k_is_whole
  have b_is_whole_ := F_is_whole.binds (ps := ["thing"]) fun _ _ _ _ _ _ us hl => match us, hl with | [_], _ => rfl
  have F_is_between := fun_mk (K := GG.K) (st := s_is_between) l_is_between c_is_between k_is_between
  have b_is_between_ := F_is_between.binds (ps := ["thing", "least", "most"]) fun _ _ _ _ _ _ us hl => match us, hl with | [_, _, _], _ => rfl
  have F_check_settings := fun_mk (K := GG.K) (st := s_check_settings) l_check_settings c_check_settings k_check_settings
  have b_check_settings_ := F_check_settings.binds (ps := ["settings"]) fun _ _ _ _ _ _ us hl => match us, hl with | [_], _ => rfl
  have F_is_reading := fun_mk (K := GG.K) (st := s_is_reading) l_is_reading c_is_reading k_is_reading
  have b_is_reading_ := F_is_reading.binds (ps := ["thing"]) fun _ _ _ _ _ _ us hl => match us, hl with | [_], _ => rfl
  have F_check_readings := fun_mk (K := GG.K) (st := s_check_readings) l_check_readings c_check_readings k_check_readings
  have b_check_readings_ := F_check_readings.binds (ps := ["settings", "readings"]) fun _ _ _ _ _ _ us hl => match us, hl with | [_, _], _ => rfl
  have F_judged := fun_mk (K := GG.K) (st := s_judged) l_judged c_judged k_judged
  have b_judged_ := F_judged.binds (ps := ["settings", "readings"]) fun _ _ _ _ _ _ us hl => match us, hl with | [_, _], _ => rfl
  have F__law_number := fun_mk (K := GG.K) (st := s__law_number) l__law_number c__law_number k__law_number
  have b__law_number_ := F__law_number.binds (ps := ["_law_cell", "_law_at", "_law_whole_here"]) fun _ _ _ _ _ _ us hl => match us, hl with | [_, _, _], _ => rfl
  have F__law_whole := fun_mk (K := GG.K) (st := s__law_whole) l__law_whole c__law_whole k__law_whole
  have b__law_whole_ := F__law_whole.binds (ps := ["_law_found"]) fun _ _ _ _ _ _ us hl => match us, hl with | [_], _ => rfl
  have F__law_says := fun_mk (K := GG.K) (st := s__law_says) l__law_says c__law_says k__law_says
  have b__law_says_ := F__law_says.binds (ps := ["_law_said", "_law_due_here"]) fun _ _ _ _ _ _ us hl => match us, hl with | [_, _], _ => rfl
  have F__law_settings := fun_mk (K := GG.K) (st := s__law_settings) l__law_settings c__law_settings k__law_settings
  have b__law_settings_ := F__law_settings.binds (ps := ["_law_number_here"]) fun _ _ _ _ _ _ us hl => match us, hl with | [_], _ => rfl
  have F__law_readings := fun_mk (K := GG.K) (st := s__law_readings) l__law_readings c__law_readings k__law_readings
  have b__law_readings_ := F__law_readings.binds (ps := ["_law_script", "_law_by", "_law_settings_here"]) fun _ _ _ _ _ _ us hl => match us, hl with | [_, _, _], _ => rfl
  have F__law_clash := fun_mk (K := GG.K) (st := s__law_clash) l__law_clash c__law_clash k__law_clash
  have b__law_clash_ := F__law_clash.binds (ps := ["_law_settings_here", "_law_one", "_law_other"]) fun _ _ _ _ _ _ us hl => match us, hl with | [_, _, _], _ => rfl
  have F__law_fits := fun_mk (K := GG.K) (st := s__law_fits) l__law_fits c__law_fits k__law_fits
  have b__law_fits_ := F__law_fits.binds (ps := ["_law_settings_here", "_law_readings_here", "_law_course"]) fun _ _ _ _ _ _ us hl => match us, hl with | [_, _, _], _ => rfl
  have F__law_reached := fun_mk (K := GG.K) (st := s__law_reached) l__law_reached c__law_reached k__law_reached
  have b__law_reached_ := F__law_reached.binds (ps := ["_law_settings_here", "_law_readings_here"]) fun _ _ _ _ _ _ us hl => match us, hl with | [_, _], _ => rfl
  have F__law_due := fun_mk (K := GG.K) (st := s__law_due) l__law_due c__law_due k__law_due
  have b__law_due_ := F__law_due.binds (ps := ["_law_settings_here", "_law_readings_here", "_law_found"]) fun _ _ _ _ _ _ us hl => match us, hl with | [_, _, _], _ => rfl
  have F__law_right := fun_mk (K := GG.K) (st := s__law_right) l__law_right c__law_right k__law_right
  have b__law_right_ := F__law_right.binds (ps := ["_law_settings_here", "_law_readings_here", "_law_others"]) fun _ _ _ _ _ _ us hl => match us, hl with | [_, _, _], _ => rfl
  have F_law := fun_mk (K := GG.K) (st := s_law) l_law c_law k_law
  refine ⟨PySem.W.fnOf "law" "law" (defArgs s_law) (defBody s_law) (defScope s_law) .none kV_law dc_law pm_law an_law cd_law ct_law, fun s v => .of_eq rfl, fun base _ _ => ?_⟩
  have B_clash := fnB_of (x := "clash") (w_clash (P := l.prog) (w := w) (base := base) F_clash T ) (PySem.W.mg_of X G a_clash) k_clash b_clash_
  have B_clashes_of := fnB_of (x := "clashes_of") (w_clashes_of (P := l.prog) (w := w) (base := base) F_clashes_of T B_clash) (PySem.W.mg_of X G a_clashes_of) k_clashes_of b_clashes_of_
  have B_course_of := fnB_of (x := "course_of") (w_course_of (P := l.prog) (w := w) (base := base) F_course_of T ) (PySem.W.mg_of X G a_course_of) k_course_of b_course_of_
  have B_fits := fnB_of (x := "fits") (w_fits (P := l.prog) (w := w) (base := base) F_fits T ) (PySem.W.mg_of X G a_fits) k_fits b_fits_
  have B_Fits_init := mkB_of (x := "Fits") (c := k_Fits) (w_Fits_init (P := l.prog) (w := w) (base := base) F_Fits_init T ) ⟨mk_Fits, a_Fits_init, i_Fits_init, kc_Fits⟩ (PySem.W.mg_of X G aC_Fits) b_Fits_init_
  have B_Fits_shows := mtB_of (x := "shows") (c := k_Fits) (w_Fits_shows (P := l.prog) (w := w) (base := base) F_Fits_shows T B_fits) cl_Fits ⟨a_Fits_shows, i_Fits_shows, k_Fits_shows⟩ b_Fits_shows_
  have B_Clash_init := mkB_of (x := "Clash") (c := k_Clash) (w_Clash_init (P := l.prog) (w := w) (base := base) F_Clash_init T ) ⟨mk_Clash, a_Clash_init, i_Clash_init, kc_Clash⟩ (PySem.W.mg_of X G aC_Clash) b_Clash_init_
  have B_Clash_shows := mtB_of (x := "shows") (c := k_Clash) (w_Clash_shows (P := l.prog) (w := w) (base := base) F_Clash_shows T B_clash) cl_Clash ⟨a_Clash_shows, i_Clash_shows, k_Clash_shows⟩ b_Clash_shows_
  have B_is_whole := fnB_of (x := "is_whole") (w_is_whole (P := l.prog) (w := w) (base := base) F_is_whole T ) (PySem.W.mg_of X G a_is_whole) k_is_whole b_is_whole_
  have B_is_between := fnB_of (x := "is_between") (w_is_between (P := l.prog) (w := w) (base := base) F_is_between T B_is_whole) (PySem.W.mg_of X G a_is_between) k_is_between b_is_between_
  have B_check_settings := fnB_of (x := "check_settings") (w_check_settings (P := l.prog) (w := w) (base := base) F_check_settings T B_is_between) (PySem.W.mg_of X G a_check_settings) k_check_settings b_check_settings_
  have B_is_reading := fnB_of (x := "is_reading") (w_is_reading (P := l.prog) (w := w) (base := base) F_is_reading T B_is_between) (PySem.W.mg_of X G a_is_reading) k_is_reading b_is_reading_
  have B_check_readings := fnB_of (x := "check_readings") (w_check_readings (P := l.prog) (w := w) (base := base) F_check_readings T B_check_settings B_is_reading) (PySem.W.mg_of X G a_check_readings) k_check_readings b_check_readings_
  have B_judged := fnB_of (x := "judged") (w_judged (P := l.prog) (w := w) (base := base) F_judged T B_Clash_init B_Fits_init B_check_readings B_clashes_of B_course_of) (PySem.W.mg_of X G a_judged) k_judged b_judged_
  have B__law_number := fnB_of (x := "_law_number") (w__law_number (P := l.prog) (w := w) (base := base) F__law_number T ) (PySem.W.mg_of X G a__law_number) k__law_number b__law_number_
  have B__law_whole := fnB_of (x := "_law_whole") (w__law_whole (P := l.prog) (w := w) (base := base) F__law_whole T ) (PySem.W.mg_of X G a__law_whole) k__law_whole b__law_whole_
  have B__law_says := fnB_of (x := "_law_says") (w__law_says (P := l.prog) (w := w) (base := base) F__law_says T ) (PySem.W.mg_of X G a__law_says) k__law_says b__law_says_
  have B__law_settings := fnB_of (x := "_law_settings") (w__law_settings (P := l.prog) (w := w) (base := base) F__law_settings T ) (PySem.W.mg_of X G a__law_settings) k__law_settings b__law_settings_
  have B__law_readings := fnB_of (x := "_law_readings") (w__law_readings (P := l.prog) (w := w) (base := base) F__law_readings T B__law_number) (PySem.W.mg_of X G a__law_readings) k__law_readings b__law_readings_
  have B__law_clash := fnB_of (x := "_law_clash") (w__law_clash (P := l.prog) (w := w) (base := base) F__law_clash T ) (PySem.W.mg_of X G a__law_clash) k__law_clash b__law_clash_
  have B__law_fits := fnB_of (x := "_law_fits") (w__law_fits (P := l.prog) (w := w) (base := base) F__law_fits T ) (PySem.W.mg_of X G a__law_fits) k__law_fits b__law_fits_
  have B__law_reached := fnB_of (x := "_law_reached") (w__law_reached (P := l.prog) (w := w) (base := base) F__law_reached T ) (PySem.W.mg_of X G a__law_reached) k__law_reached b__law_reached_
  have B__law_due := fnB_of (x := "_law_due") (w__law_due (P := l.prog) (w := w) (base := base) F__law_due T B__law_clash B__law_fits) (PySem.W.mg_of X G a__law_due) k__law_due b__law_due_
  have B__law_right := fnB_of (x := "_law_right") (w__law_right (P := l.prog) (w := w) (base := base) F__law_right T B_Clash_shows B_Fits_shows B__law_due B__law_reached B__law_says B__law_whole B_judged) (PySem.W.mg_of X G a__law_right) k__law_right b__law_right_
  exact law_imp (G := GG) (w_law (P := l.prog) (w := w) (base := base) F_law T B__law_number B__law_readings B__law_right B__law_settings B_judged) main
end L04
open PySem PySem.W PyProof.Rows
set_option maxRecDepth 100000 in
set_option maxHeartbeats 0 in
theorem PySem.Challenge.cw_tripgauge_k04_whole_judged_holds : PySem.Challenge.rw_tripgauge_k04_whole_judged.Holds := by
  w_on; o_law; k_head; (case hw => w_witness2)
  k_fill
  refine Fx.walk_law (l := PySem.Challenge.rw_tripgauge_k04_whole_judged) (k := 7) (x := "_law_script") rfl rfl ⟨rfl, by decide, by decide⟩ (fun w h Y => PySem.W.kIn_of Y) ?F
  case F =>
    intro w mg fa h KX G hmg
    refine' L04.all_mk KX G hmg ?aC_Answer ?aC_Fits ?aC_Clash ?aC_Kept ?a_clash ?l_clash ?c_clash ?k_clash ?a_clashes_of ?l_clashes_of ?c_clashes_of ?k_clashes_of ?a_course_of ?l_course_of ?c_course_of ?k_course_of ?a_fits ?l_fits ?c_fits ?k_fits ?a_Fits_init ?i_Fits_init ?l_Fits_init ?c_Fits_init ?k_Fits_init ?a_Fits_shows ?i_Fits_shows ?l_Fits_shows ?c_Fits_shows ?k_Fits_shows ?a_Clash_init ?i_Clash_init ?l_Clash_init ?c_Clash_init ?k_Clash_init ?a_Clash_shows ?i_Clash_shows ?l_Clash_shows ?c_Clash_shows ?k_Clash_shows ?a_is_whole ?l_is_whole ?c_is_whole ?k_is_whole ?a_is_between ?l_is_between ?c_is_between ?k_is_between ?a_check_settings ?l_check_settings ?c_check_settings ?k_check_settings ?a_is_reading ?l_is_reading ?c_is_reading ?k_is_reading ?a_check_readings ?l_check_readings ?c_check_readings ?k_check_readings ?a_judged ?l_judged ?c_judged ?k_judged ?a__law_number ?l__law_number ?c__law_number ?k__law_number ?a__law_whole ?l__law_whole ?c__law_whole ?k__law_whole ?a__law_says ?l__law_says ?c__law_says ?k__law_says ?a__law_settings ?l__law_settings ?c__law_settings ?k__law_settings ?a__law_readings ?l__law_readings ?c__law_readings ?k__law_readings ?a__law_clash ?l__law_clash ?c__law_clash ?k__law_clash ?a__law_fits ?l__law_fits ?c__law_fits ?k__law_fits ?a__law_reached ?l__law_reached ?c__law_reached ?k__law_reached ?a__law_due ?l__law_due ?c__law_due ?k__law_due ?a__law_right ?l__law_right ?c__law_right ?k__law_right ?a_law ?l_law ?c_law ?k_law ?pg_Fits ?hd_Fits ?po_Fits ?sa_Fits ?mk_Fits ?kc_Fits ?pg_Clash ?hd_Clash ?po_Clash ?sa_Clash ?mk_Clash ?kc_Clash ?no_Fits_course ?no_Clash_one ?no_Clash_other ?ih ?it ?ia_Fits ?im_Fits ?ia_Clash ?im_Clash ?ic_Answer ?ity_Answer ?ik_Fits_Answer ?ik_Clash_Answer ?ik_Answer_Answer ?ic_Clash ?ity_Clash ?ik_Fits_Clash ?ik_Clash_Clash ?ic_Fits ?ity_Fits ?ik_Fits_Fits ?ik_Clash_Fits ?ic_Kept ?ity_Kept ?ik_Fits_Kept ?ik_Clash_Kept ?ik_Kept_Kept ?b_abs ?b_all ?b_any ?b_bool ?b_enumerate ?b_int ?b_isinstance ?b_len ?b_list ?b_max ?b_min ?b_range ?b_sorted ?b_sum ?b_tuple ?b_zip ?g_LATEST ?g_MOST_RATE ?g_MOST_READINGS ?g_MOST_SLACK ?g_MOST_VALUE
    (case aC_Answer => k_is)
    (case aC_Fits => k_is)
    (case aC_Clash => k_is)
    (case aC_Kept => k_is)
    (case a_clash => k_is)
    (case l_clash => k_is)
    (case c_clash => k_is)
    (case k_clash => k_is)
    (case a_clashes_of => k_is)
    (case l_clashes_of => k_is)
    (case c_clashes_of => k_is)
    (case k_clashes_of => k_is)
    (case a_course_of => k_is)
    (case l_course_of => k_is)
    (case c_course_of => k_is)
    (case k_course_of => k_is)
    (case a_fits => k_is)
    (case l_fits => k_is)
    (case c_fits => k_is)
    (case k_fits => k_is)
    (case a_Fits_init => k_is)
    (case i_Fits_init => k_is)
    (case l_Fits_init => k_is)
    (case c_Fits_init => k_is)
    (case k_Fits_init => k_is)
    (case a_Fits_shows => k_is)
    (case i_Fits_shows => k_is)
    (case l_Fits_shows => k_is)
    (case c_Fits_shows => k_is)
    (case k_Fits_shows => k_is)
    (case a_Clash_init => k_is)
    (case i_Clash_init => k_is)
    (case l_Clash_init => k_is)
    (case c_Clash_init => k_is)
    (case k_Clash_init => k_is)
    (case a_Clash_shows => k_is)
    (case i_Clash_shows => k_is)
    (case l_Clash_shows => k_is)
    (case c_Clash_shows => k_is)
    (case k_Clash_shows => k_is)
    (case a_is_whole => k_is)
    (case l_is_whole => k_is)
    (case c_is_whole => k_is)
    (case k_is_whole => k_is)
    (case a_is_between => k_is)
    (case l_is_between => k_is)
    (case c_is_between => k_is)
    (case k_is_between => k_is)
    (case a_check_settings => k_is)
    (case l_check_settings => k_is)
    (case c_check_settings => k_is)
    (case k_check_settings => k_is)
    (case a_is_reading => k_is)
    (case l_is_reading => k_is)
    (case c_is_reading => k_is)
    (case k_is_reading => k_is)
    (case a_check_readings => k_is)
    (case l_check_readings => k_is)
    (case c_check_readings => k_is)
    (case k_check_readings => k_is)
    (case a_judged => k_is)
    (case l_judged => k_is)
    (case c_judged => k_is)
    (case k_judged => k_is)
    (case a__law_number => k_is)
    (case l__law_number => k_is)
    (case c__law_number => k_is)
    (case k__law_number => k_is)
    (case a__law_whole => k_is)
    (case l__law_whole => k_is)
    (case c__law_whole => k_is)
    (case k__law_whole => k_is)
    (case a__law_says => k_is)
    (case l__law_says => k_is)
    (case c__law_says => k_is)
    (case k__law_says => k_is)
    (case a__law_settings => k_is)
    (case l__law_settings => k_is)
    (case c__law_settings => k_is)
    (case k__law_settings => k_is)
    (case a__law_readings => k_is)
    (case l__law_readings => k_is)
    (case c__law_readings => k_is)
    (case k__law_readings => k_is)
    (case a__law_clash => k_is)
    (case l__law_clash => k_is)
    (case c__law_clash => k_is)
    (case k__law_clash => k_is)
    (case a__law_fits => k_is)
    (case l__law_fits => k_is)
    (case c__law_fits => k_is)
    (case k__law_fits => k_is)
    (case a__law_reached => k_is)
    (case l__law_reached => k_is)
    (case c__law_reached => k_is)
    (case k__law_reached => k_is)
    (case a__law_due => k_is)
    (case l__law_due => k_is)
    (case c__law_due => k_is)
    (case k__law_due => k_is)
    (case a__law_right => k_is)
    (case l__law_right => k_is)
    (case c__law_right => k_is)
    (case k__law_right => k_is)
    (case a_law => k_is)
    (case l_law => k_is)
    (case c_law => k_is)
    (case k_law => k_is)
    (case pg_Fits => k_is)
    (case hd_Fits => k_is)
    (case po_Fits => k_is)
    (case sa_Fits => k_is)
    (case mk_Fits => k_is)
    (case kc_Fits => k_is)
    (case pg_Clash => k_is)
    (case hd_Clash => k_is)
    (case po_Clash => k_is)
    (case sa_Clash => k_is)
    (case mk_Clash => k_is)
    (case kc_Clash => k_is)
    (case no_Fits_course => k_is)
    (case no_Clash_one => k_is)
    (case no_Clash_other => k_is)
    (case ih => k_is)
    (case it => k_is)
    (case ia_Fits => k_is)
    (case im_Fits => k_is)
    (case ia_Clash => k_is)
    (case im_Clash => k_is)
    (case ic_Answer => k_is)
    (case ity_Answer => k_is)
    (case ik_Fits_Answer => k_is)
    (case ik_Clash_Answer => k_is)
    (case ik_Answer_Answer => k_is)
    (case ic_Clash => k_is)
    (case ity_Clash => k_is)
    (case ik_Fits_Clash => k_is)
    (case ik_Clash_Clash => k_is)
    (case ic_Fits => k_is)
    (case ity_Fits => k_is)
    (case ik_Fits_Fits => k_is)
    (case ik_Clash_Fits => k_is)
    (case ic_Kept => k_is)
    (case ity_Kept => k_is)
    (case ik_Fits_Kept => k_is)
    (case ik_Clash_Kept => k_is)
    (case ik_Kept_Kept => k_is)
    (case b_abs => k_is)
    (case b_all => k_is)
    (case b_any => k_is)
    (case b_bool => k_is)
    (case b_enumerate => k_is)
    (case b_int => k_is)
    (case b_isinstance => k_is)
    (case b_len => k_is)
    (case b_list => k_is)
    (case b_max => k_is)
    (case b_min => k_is)
    (case b_range => k_is)
    (case b_sorted => k_is)
    (case b_sum => k_is)
    (case b_tuple => k_is)
    (case b_zip => k_is)
    (case g_LATEST => k_is)
    (case g_MOST_RATE => k_is)
    (case g_MOST_READINGS => k_is)
    (case g_MOST_SLACK => k_is)
    (case g_MOST_VALUE => k_is)
