import PyProof.Rows.All
import Wide.All
import OpenK.AllK
import Wide.FinOn
import HandS.ForMost
import HandS.ForExc
import HandS.CallSlots
import HandS.Wide
import HandS.WideBits
import HandS.TupAny
import HandS.TupMul
import HandS.Defaults
import HandS.Small
import HandS.TryOnly
import HandS.TryMany
import HandS.IsInst
import HandS.Conv
import HandS.Zip
import HandS.Rev
import HandS.Deep
import HandS.ExcOwn
import HandS.ExcIs
import HandS.HeadHook2
import HandS.Head0
import HandS.Head1
import HandS.Head2
import HandS.HeadEnd
import HandS.HeadHook1
import HandS.HeadWalk
import HandS.SetFor
import KE.GoesMore
import HandS.SortRule
import HandS.TupSets
import PySem.Challenge.RW_owncause_k62_whole_least_lots
set_option Elab.async false
set_option linter.all false
set_option maxRecDepth 100000
set_option maxHeartbeats 4000000
namespace DL
open PySem PySem.Spec L2
/-! pure data and what stands for it -/
inductive D where
  | non
  | bl (b : Bool)
  | int (i : Int)
  | str (x : Str)
  | adr (a : Addr)
  | scr (ns : List Int)
  | tup (ds : List D)
  | lst (o : Bool) (ds : List D)
  | dk (o : Bool) (ks : List Key) (ds : List D)
  | dt (o : Bool) (ks : List (List Key)) (ds : List D)
  | obj (o : Bool) (c : Str) (ns : List Str) (ds : List D)
structure RC where
  K : PySem.W.Frag
  mg : Str → Option Value
mutual
def Rep (K : RC) (F H : Hp) : D → V → List Addr → Prop
  | .non, v, A => v = .non ∧ A = []
  | .bl b, v, A => v = .bl b ∧ A = []
  | .int i, v, A => v = .int i ∧ A = []
  | .str x, v, A => v = .str x ∧ A = []
  | .adr a, v, A => v = .ref a ∧ A = []
  | .scr ns, v, A => A = [] ∧ ∃ a, v = .ref a ∧ SqL K.K F a (ns.map V.int)
  | .tup ds, v, A => A = [] ∧ ∃ a xs, v = .ref a ∧ F a = some (.tup xs) ∧ RepL K F H ds xs []
  | .lst false ds, v, A => A = [] ∧ ∃ a xs, v = .ref a ∧ F a = some (.lst xs) ∧ RepL K F H ds xs []
  | .lst true ds, v, A => ∃ a xs B, v = .ref a ∧ A = a :: B ∧ H a = some (.lst xs) ∧ RepL K F H ds xs B
  | .dk false ks ds, v, A => A = [] ∧ ∃ a kvs, v = .ref a ∧ F a = some (.dK kvs) ∧ kvs.map Prod.fst = ks ∧ RepL K F H ds (kvs.map Prod.snd) []
  | .dk true ks ds, v, A => ∃ a kvs B, v = .ref a ∧ A = a :: B ∧ H a = some (.dK kvs) ∧ kvs.map Prod.fst = ks ∧ RepL K F H ds (kvs.map Prod.snd) B
  | .dt false ks ds, v, A => A = [] ∧ ∃ a kvs, v = .ref a ∧ Rd F a (.dT kvs) ∧ kvs.map Prod.fst = ks ∧ RepL K F H ds (kvs.map Prod.snd) []
  | .dt true ks ds, v, A => ∃ a kvs B, v = .ref a ∧ A = a :: B ∧ H a = some (.dT kvs) ∧ kvs.map Prod.fst = ks ∧ RepL K F H ds (kvs.map Prod.snd) B
  | .obj false c ns ds, v, A => A = [] ∧ ∃ a C dx fs, v = .ref a ∧ K.mg c = some (.ref C) ∧ F a = some (.ins C dx fs) ∧ fs.map Prod.fst = ns ∧ RepL K F H ds (fs.map Prod.snd) []
  | .obj true c ns ds, v, A => ∃ a C dx fs B, v = .ref a ∧ A = a :: B ∧ K.mg c = some (.ref C) ∧ H a = some (.ins C dx fs) ∧ fs.map Prod.fst = ns ∧ RepL K F H ds (fs.map Prod.snd) B
def RepL (K : RC) (F H : Hp) : List D → List V → List Addr → Prop
  | [], vs, A => vs = [] ∧ A = []
  | d :: ds, vs, A => ∃ v ws B C, vs = v :: ws ∧ A = B ++ C ∧ Rep K F H d v B ∧ RepL K F H ds ws C
end
mutual
def frz : D → D
  | .lst _ ds => .lst false (frzL ds)
  | .dk _ ks ds => .dk false ks (frzL ds)
  | .dt _ ks ds => .dt false ks (frzL ds)
  | .obj _ c ns ds => .obj false c ns (frzL ds)
  | .tup ds => .tup ds
  | .non => .non
  | .bl b => .bl b
  | .int i => .int i
  | .str x => .str x
  | .adr a => .adr a
  | .scr ns => .scr ns
def frzL : List D → List D
  | [] => []
  | d :: ds => frz d :: frzL ds
end
variable {K : RC}
theorem Rd.mono {F F' : Hp} {a : Addr} {u : HO} (h : ∀ a o, F a = some o → F' a = some o) (r : Rd F a u) : Rd F' a u := by
  rcases r with r | ⟨o, r⟩
  · exact .inl (h _ _ r)
  · exact .inr ⟨o, h _ _ r⟩
theorem SqL.mono {K : PySem.W.Frag} {F F' : Hp} {a : Addr} {xs : List V} (h : ∀ a o, F a = some o → F' a = some o) (r : SqL K F a xs) : SqL K F' a xs := by
  rcases r with r | r
  · exact .inl (Rd.mono h r)
  · exact .inr r
theorem SqT.mono {K : PySem.W.Frag} {F F' : Hp} {a : Addr} {xs : List V} (h : ∀ a o, F a = some o → F' a = some o) (r : SqT K F a xs) : SqT K F' a xs := by
  rcases r with r | r
  · exact .inl (Rd.mono h r)
  · exact .inr r
mutual
theorem Rep.mono {F F' H H' : Hp} (h : ∀ a o, F a = some o → F' a = some o) : ∀ (d : D) (v : V) (A : List Addr), (∀ a ∈ A, ∀ o, H a = some o → H' a = some o) → Rep K F H d v A → Rep K F' H' d v A
  | .non, v, A, _, r => r
  | .bl b, v, A, _, r => r
  | .int i, v, A, _, r => r
  | .str x, v, A, _, r => r
  | .adr a, v, A, _, r => r
  | .scr ns, v, A, _, r => by
    obtain ⟨rfl, a, rfl, s⟩ := r
    exact ⟨rfl, a, rfl, SqL.mono h s⟩
  | .tup ds, v, A, k, r => by
    obtain ⟨rfl, a, xs, rfl, s, r⟩ := r
    exact ⟨rfl, a, xs, rfl, h _ _ s, RepL.mono h ds xs [] (fun _ z => nomatch z) r⟩
  | .lst false ds, v, A, k, r => by
    obtain ⟨rfl, a, xs, rfl, s, r⟩ := r
    exact ⟨rfl, a, xs, rfl, h _ _ s, RepL.mono h ds xs [] (fun _ z => nomatch z) r⟩
  | .lst true ds, v, A, k, r => by
    obtain ⟨a, xs, B, rfl, rfl, s, r⟩ := r
    exact ⟨a, xs, B, rfl, rfl, k a List.mem_cons_self _ s, RepL.mono h ds xs B (fun b z => k b (List.mem_cons_of_mem _ z)) r⟩
  | .dk false ks ds, v, A, k, r => by
    obtain ⟨rfl, a, kvs, rfl, s, e, r⟩ := r
    exact ⟨rfl, a, kvs, rfl, h _ _ s, e, RepL.mono h ds _ [] (fun _ z => nomatch z) r⟩
  | .dk true ks ds, v, A, k, r => by
    obtain ⟨a, kvs, B, rfl, rfl, s, e, r⟩ := r
    exact ⟨a, kvs, B, rfl, rfl, k a List.mem_cons_self _ s, e, RepL.mono h ds _ B (fun b z => k b (List.mem_cons_of_mem _ z)) r⟩
  | .dt false ks ds, v, A, k, r => by
    obtain ⟨rfl, a, kvs, rfl, s, e, r⟩ := r
    exact ⟨rfl, a, kvs, rfl, Rd.mono h s, e, RepL.mono h ds _ [] (fun _ z => nomatch z) r⟩
  | .dt true ks ds, v, A, k, r => by
    obtain ⟨a, kvs, B, rfl, rfl, s, e, r⟩ := r
    exact ⟨a, kvs, B, rfl, rfl, k a List.mem_cons_self _ s, e, RepL.mono h ds _ B (fun b z => k b (List.mem_cons_of_mem _ z)) r⟩
  | .obj false c ns ds, v, A, k, r => by
    obtain ⟨rfl, a, C, dx, fs, rfl, g, s, e, r⟩ := r
    exact ⟨rfl, a, C, dx, fs, rfl, g, h _ _ s, e, RepL.mono h ds _ [] (fun _ z => nomatch z) r⟩
  | .obj true c ns ds, v, A, k, r => by
    obtain ⟨a, C, dx, fs, B, rfl, rfl, g, s, e, r⟩ := r
    exact ⟨a, C, dx, fs, B, rfl, rfl, g, k a List.mem_cons_self _ s, e, RepL.mono h ds _ B (fun b z => k b (List.mem_cons_of_mem _ z)) r⟩
theorem RepL.mono {F F' H H' : Hp} (h : ∀ a o, F a = some o → F' a = some o) : ∀ (ds : List D) (vs : List V) (A : List Addr), (∀ a ∈ A, ∀ o, H a = some o → H' a = some o) → RepL K F H ds vs A → RepL K F' H' ds vs A
  | [], _, _, _, r => r
  | d :: ds, vs, A, k, r => by
    obtain ⟨v, ws, B, C, rfl, rfl, r1, r2⟩ := r
    exact ⟨v, ws, B, C, rfl, rfl, Rep.mono h d v B (fun a z => k a (List.mem_append_left _ z)) r1, RepL.mono h ds ws C (fun a z => k a (List.mem_append_right _ z)) r2⟩
end
end DL

set_option Elab.async false
set_option linter.all false
set_option maxRecDepth 100000
set_option maxHeartbeats 4000000
namespace DL
open PySem PySem.Spec L2
variable {K : RC}
abbrev Env := List (Option D)
/-- one slot -/
def Sx (K : RC) (F H : Hp) : Option D → Option V → List Addr → Prop
  | none, _, B => B = []
  | some d, s, B => ∃ v, s = some v ∧ Rep K F H d v B
def Sl (K : RC) (F H : Hp) : Env → St → List Addr → Prop
  | [], σ, A => σ = [] ∧ A = []
  | x :: ρ, σ, A => ∃ s τ B C, σ = s :: τ ∧ A = B ++ C ∧ Sx K F H x s B ∧ Sl K F H ρ τ C
def hid (A : List Addr) (H : Hp) : Hp := fun a => if a ∈ A then none else H a
theorem hid_some {A : List Addr} {H : Hp} {a : Addr} {o : HO} : hid A H a = some o ↔ a ∉ A ∧ H a = some o := by
  unfold hid
  by_cases h : a ∈ A
  · rw [if_pos h]; exact ⟨(fun z => by cases z), fun z => absurd h z.1⟩
  · rw [if_neg h]; exact ⟨fun z => ⟨h, z⟩, fun z => z.2⟩
/-- no tuple -/
def NT (o : HO) : Prop := ∀ xs, o ≠ .tup xs
structure Fr where
  G : Hp
  N : List Addr
structure SimA (K : RC) (fr : Fr) (ρ : Env) (σ : St) (H : Hp) (A : List Addr) : Prop where
  sl : Sl K (hid (A ++ fr.N) H) H ρ σ A
  nd : A.Nodup
  off : ∀ a ∈ A, a ∉ fr.N ∧ fr.G a = none
  keep : ∀ a o, fr.G a = some o → H a = some o
  tr : ∀ a ∈ fr.N, ∃ o, fr.G a = some o ∧ NT o
def Sim (K : RC) (fr : Fr) (ρ : Env) (σ : St) (H : Hp) : Prop := ∃ A, SimA K fr ρ σ H A

theorem Sx.mono {F F' H H' : Hp} {x : Option D} {s : Option V} {B : List Addr} (h : ∀ a o, F a = some o → F' a = some o) (k : ∀ a ∈ B, ∀ o, H a = some o → H' a = some o) (r : Sx K F H x s B) : Sx K F' H' x s B := by
  cases x with
  | none => exact r
  | some d =>
    obtain ⟨v, e, r⟩ := r
    exact ⟨v, e, Rep.mono h d v B k r⟩
theorem Sl.mono {F F' H H' : Hp} (h : ∀ a o, F a = some o → F' a = some o) : ∀ {ρ : Env} {σ : St} {A : List Addr}, (∀ a ∈ A, ∀ o, H a = some o → H' a = some o) → Sl K F H ρ σ A → Sl K F' H' ρ σ A
  | [], _, _, _, r => r
  | x :: ρ, σ, A, k, r => by
    obtain ⟨s, τ, B, C, rfl, rfl, r1, r2⟩ := r
    exact ⟨s, τ, B, C, rfl, rfl, r1.mono h (fun a z => k a (List.mem_append_left _ z)), Sl.mono h (fun a z => k a (List.mem_append_right _ z)) r2⟩
theorem Sl.len {F H : Hp} : ∀ {ρ : Env} {σ : St} {A : List Addr}, Sl K F H ρ σ A → σ.length = ρ.length
  | [], _, _, r => by rw [r.1]; rfl
  | x :: ρ, σ, A, r => by
    obtain ⟨s, τ, B, C, rfl, rfl, r1, r2⟩ := r
    rw [List.length_cons, List.length_cons, Sl.len r2]
theorem Sl.app {F H : Hp} : ∀ {ρ1 ρ2 : Env} {σ1 σ2 : St} {A1 A2 : List Addr}, Sl K F H ρ1 σ1 A1 → Sl K F H ρ2 σ2 A2 → Sl K F H (ρ1 ++ ρ2) (σ1 ++ σ2) (A1 ++ A2)
  | [], _, _, _, _, _, r, q => by
    obtain ⟨rfl, rfl⟩ := r
    exact q
  | x :: ρ, ρ2, σ, σ2, A, A2, r, q => by
    obtain ⟨s, τ, B, C, rfl, rfl, r1, r2⟩ := r
    exact ⟨s, τ ++ σ2, B, C ++ A2, rfl, by rw [List.append_assoc], r1, Sl.app r2 q⟩
theorem Sl.cut {F H : Hp} : ∀ {ρ1 ρ2 : Env} {σ1 σ2 : St} {A : List Addr}, σ1.length = ρ1.length → Sl K F H (ρ1 ++ ρ2) (σ1 ++ σ2) A → ∃ A1 A2, A = A1 ++ A2 ∧ Sl K F H ρ1 σ1 A1 ∧ Sl K F H ρ2 σ2 A2
  | [], ρ2, σ1, σ2, A, e, r => by
    have : σ1 = [] := List.length_eq_zero_iff.mp e
    subst this
    exact ⟨[], A, rfl, ⟨rfl, rfl⟩, r⟩
  | x :: ρ, ρ2, σ1, σ2, A, e, r => by
    cases σ1 with
    | nil => cases e
    | cons s1 τ1 =>
      obtain ⟨s, τ, B, C, e1, rfl, r1, r2⟩ := r
      injection e1 with e1 e2
      subst e1 e2
      obtain ⟨A1, A2, rfl, q1, q2⟩ := Sl.cut (by simpa using e) r2
      exact ⟨B ++ A1, A2, by rw [List.append_assoc], ⟨s1, τ1, B, A1, rfl, rfl, r1, q1⟩, q2⟩
/-- a slot, and another thing put there -/
theorem Sl.at {F H : Hp} : ∀ {ρ : Env} {σ : St} {A : List Addr} {i : Nat} {x : Option D}, Sl K F H ρ σ A → ρ[i]? = some x →
    ∃ s A1 B A2, σ[i]? = some s ∧ A = A1 ++ (B ++ A2) ∧ Sx K F H x s B ∧
      ∀ {F' H' : Hp} {x' : Option D} {s' : Option V} {B' : List Addr}, (∀ a o, F a = some o → F' a = some o) → (∀ a ∈ A1 ++ A2, ∀ o, H a = some o → H' a = some o) → Sx K F' H' x' s' B' → Sl K F' H' (ρ.set i x') (σ.set i s') (A1 ++ (B' ++ A2))
  | [], _, _, _, _, _, e => by simp at e
  | y :: ρ, σ, A, 0, x, r, e => by
    obtain ⟨s, τ, B, C, rfl, rfl, r1, r2⟩ := r
    have : y = x := by simpa using e
    subst this
    exact ⟨s, [], B, C, rfl, rfl, r1, fun {F' H' x' s' B'} h k q => ⟨s', τ, B', C, rfl, rfl, q, r2.mono h (fun a z => k a (by simpa using z))⟩⟩
  | y :: ρ, σ, A, i + 1, x, r, e => by
    obtain ⟨s, τ, B, C, rfl, rfl, r1, r2⟩ := r
    obtain ⟨s0, A1, B0, A2, e0, rfl, r3, f⟩ := Sl.at (i := i) r2 (by simpa using e)
    refine ⟨s0, B ++ A1, B0, A2, by simpa using e0, by rw [List.append_assoc], r3, fun {F' H' x' s' B'} h k q => ?_⟩
    refine ⟨s, τ.set i s', B, A1 ++ (B' ++ A2), rfl, by rw [List.append_assoc], r1.mono h (fun a z => k a (by simp [z])), f h (fun a z => k a ?_) q⟩
    rcases List.mem_append.mp z with z | z
    · simp [z]
    · simp [z]

section
variable {fr : Fr} {ρ ρ' : Env} {σ σ' : St} {H H' : Hp} {A A' : List Addr}
theorem SimA.fro (S : SimA K fr ρ σ H A) (sub : ∀ a ∈ A', a ∈ A ∨ H a = none) (kp : ∀ a o, a ∉ A → H a = some o → H' a = some o) : ∀ a o, hid (A ++ fr.N) H a = some o → hid (A' ++ fr.N) H' a = some o := fun a o e => by
  rw [hid_some] at e ⊢
  obtain ⟨n, e⟩ := e
  have nA : a ∉ A := fun z => n (List.mem_append_left _ z)
  refine ⟨fun z => ?_, kp a o nA e⟩
  rcases List.mem_append.mp z with z | z
  · rcases sub a z with z | z
    · exact nA z
    · rw [e] at z; cases z
  · exact n (List.mem_append_right _ z)
theorem SimA.next (S : SimA K fr ρ σ H A) (sub : ∀ a ∈ A', a ∈ A ∨ H a = none) (nd : A'.Nodup) (kp : ∀ a o, a ∉ A → H a = some o → H' a = some o) (sl : Sl K (hid (A' ++ fr.N) H') H' ρ' σ' A') : SimA K fr ρ' σ' H' A' := by
  refine ⟨sl, nd, fun a z => ?_, fun a o e => ?_, S.tr⟩
  · rcases sub a z with q | q
    · exact S.off a q
    · refine ⟨fun w => ?_, ?_⟩
      · obtain ⟨o, e, _⟩ := S.tr a w
        rw [S.keep a o e] at q; cases q
      · cases e : fr.G a with
        | none => rfl
        | some o => rw [S.keep a o e] at q; cases q
  · have nA : a ∉ A := fun z => by rw [(S.off a z).2] at e; cases e
    exact kp a o nA (S.keep a o e)
theorem Sim.len (S : Sim K fr ρ σ H) : σ.length = ρ.length := let ⟨_, S⟩ := S; S.sl.len
/-- the heap grew -/
theorem SimA.grow (S : SimA K fr ρ σ H A) (k : ∀ a o, H a = some o → H' a = some o) : SimA K fr ρ σ H' A :=
  S.next (fun a z => .inl z) S.nd (fun a o _ e => k a o e) (S.sl.mono (S.fro (fun a z => .inl z) fun a o _ e => k a o e) fun a _ o e => k a o e)
theorem Sim.grow (S : Sim K fr ρ σ H) (k : ∀ a o, H a = some o → H' a = some o) : Sim K fr ρ σ H' := let ⟨A, S⟩ := S; ⟨A, S.grow k⟩
theorem Sim.drop {x : Option D} {s : Option V} (S : Sim K fr (x :: ρ) (s :: σ) H) : Sim K fr ρ σ H := by
  obtain ⟨A, S⟩ := S
  obtain ⟨s', τ, B, C, e, rfl, r1, r2⟩ := S.sl
  injection e with e1 e2
  subst e1 e2
  have sub : ∀ a ∈ C, a ∈ B ++ C ∨ H a = none := fun a z => .inl (List.mem_append_right _ z)
  exact ⟨C, S.next sub (List.nodup_append.mp S.nd).2.1 (fun a o _ e => e) (r2.mono (S.fro sub fun a o _ e => e) fun a _ o e => e)⟩
theorem Sim.dropN {ρ1 : Env} {σ1 : St} (e : σ1.length = ρ1.length) (S : Sim K fr (ρ1 ++ ρ) (σ1 ++ σ) H) : Sim K fr ρ σ H := by
  induction ρ1 generalizing σ1 with
  | nil =>
    have : σ1 = [] := List.length_eq_zero_iff.mp e
    subst this
    exact S
  | cons x ρ1 ih =>
    cases σ1 with
    | nil => cases e
    | cons s σ1 => exact ih (by simpa using e) S.drop
theorem nodup_swap {A B : List Addr} (h : (A ++ B).Nodup) : (B ++ A).Nodup := by
  rw [List.nodup_append] at h ⊢
  exact ⟨h.2.1, h.1, fun a ha b hb e => h.2.2 b hb a ha e.symm⟩
/-- exchange -/
theorem Sim.swap {ρ1 ρ2 : Env} {σ1 σ2 : St} (e : σ1.length = ρ1.length) (S : Sim K fr (ρ1 ++ ρ2) (σ1 ++ σ2) H) : Sim K fr (ρ2 ++ ρ1) (σ2 ++ σ1) H := by
  obtain ⟨A, S⟩ := S
  obtain ⟨A1, A2, rfl, q1, q2⟩ := Sl.cut e S.sl
  have sub : ∀ a ∈ A2 ++ A1, a ∈ A1 ++ A2 ∨ H a = none := fun a z => .inl (List.mem_append.mpr (List.mem_append.mp z).symm)
  have f := S.fro sub (H' := H) fun a o _ e => e
  exact ⟨A2 ++ A1, S.next sub (nodup_swap S.nd) (fun a o _ e => e) (Sl.app (q2.mono f fun a _ o e => e) (q1.mono f fun a _ o e => e))⟩
/-- what the owned addresses are: tracked -/
theorem own_tr : True := trivial
end
mutual
theorem Rep.tr {F H : Hp} : ∀ (d : D) (v : V) (A : List Addr), Rep K F H d v A → ∀ a ∈ A, ∃ o, H a = some o
  | .non, v, A, r, a, z => by rw [r.2] at z; cases z
  | .bl b, v, A, r, a, z => by rw [r.2] at z; cases z
  | .int i, v, A, r, a, z => by rw [r.2] at z; cases z
  | .str x, v, A, r, a, z => by rw [r.2] at z; cases z
  | .adr _, v, A, r, a, z => by rw [r.2] at z; cases z
  | .scr ns, v, A, r, a, z => by rw [r.1] at z; cases z
  | .tup ds, v, A, r, a, z => by rw [r.1] at z; cases z
  | .obj false c ns ds, v, A, r, a, z => by rw [r.1] at z; cases z
  | .obj true c ns ds, v, A, r, a, z => by
    obtain ⟨p, C, dx, fs, B, rfl, rfl, g, s, e, r⟩ := r
    rcases List.mem_cons.mp z with z | z
    · subst z; exact ⟨_, s⟩
    · exact RepL.tr ds _ B r a z
  | .lst false ds, v, A, r, a, z => by rw [r.1] at z; cases z
  | .dk false ks ds, v, A, r, a, z => by rw [r.1] at z; cases z
  | .dt false ks ds, v, A, r, a, z => by rw [r.1] at z; cases z
  | .lst true ds, v, A, r, a, z => by
    obtain ⟨p, xs, B, rfl, rfl, s, r⟩ := r
    rcases List.mem_cons.mp z with z | z
    · subst z; exact ⟨_, s⟩
    · exact RepL.tr ds xs B r a z
  | .dk true ks ds, v, A, r, a, z => by
    obtain ⟨p, kvs, B, rfl, rfl, s, e, r⟩ := r
    rcases List.mem_cons.mp z with z | z
    · subst z; exact ⟨_, s⟩
    · exact RepL.tr ds _ B r a z
  | .dt true ks ds, v, A, r, a, z => by
    obtain ⟨p, kvs, B, rfl, rfl, s, e, r⟩ := r
    rcases List.mem_cons.mp z with z | z
    · subst z; exact ⟨_, s⟩
    · exact RepL.tr ds _ B r a z
theorem RepL.tr {F H : Hp} : ∀ (ds : List D) (vs : List V) (A : List Addr), RepL K F H ds vs A → ∀ a ∈ A, ∃ o, H a = some o
  | [], vs, A, r, a, z => by rw [r.2] at z; cases z
  | d :: ds, vs, A, r, a, z => by
    obtain ⟨v, ws, B, C, rfl, rfl, r1, r2⟩ := r
    rcases List.mem_append.mp z with z | z
    · exact Rep.tr d v B r1 a z
    · exact RepL.tr ds ws C r2 a z
end
theorem Sl.tr {F H : Hp} : ∀ {ρ : Env} {σ : St} {A : List Addr}, Sl K F H ρ σ A → ∀ a ∈ A, ∃ o, H a = some o
  | [], σ, A, r, a, z => by rw [r.2] at z; cases z
  | x :: ρ, σ, A, r, a, z => by
    obtain ⟨s, τ, B, C, rfl, rfl, r1, r2⟩ := r
    rcases List.mem_append.mp z with z | z
    · cases x with
      | none => rw [show B = [] from r1] at z; cases z
      | some d =>
        obtain ⟨v, _, r1⟩ := r1
        exact Rep.tr d v B r1 a z
    · exact r2.tr a z
mutual
theorem Rep.trN {F H : Hp} : ∀ (d : D) (v : V) (A : List Addr), Rep K F H d v A → ∀ a ∈ A, ∃ o, H a = some o ∧ NT o
  | .non, v, A, r, a, z => by rw [r.2] at z; cases z
  | .bl b, v, A, r, a, z => by rw [r.2] at z; cases z
  | .int i, v, A, r, a, z => by rw [r.2] at z; cases z
  | .str x, v, A, r, a, z => by rw [r.2] at z; cases z
  | .adr _, v, A, r, a, z => by rw [r.2] at z; cases z
  | .scr ns, v, A, r, a, z => by rw [r.1] at z; cases z
  | .tup ds, v, A, r, a, z => by rw [r.1] at z; cases z
  | .obj false c ns ds, v, A, r, a, z => by rw [r.1] at z; cases z
  | .obj true c ns ds, v, A, r, a, z => by
    obtain ⟨p, C, dx, fs, B, rfl, rfl, g, s, e, r⟩ := r
    rcases List.mem_cons.mp z with z | z
    · subst z; exact ⟨_, s, fun _ q => nomatch q⟩
    · exact RepL.trN ds _ B r a z
  | .lst false ds, v, A, r, a, z => by rw [r.1] at z; cases z
  | .dk false ks ds, v, A, r, a, z => by rw [r.1] at z; cases z
  | .dt false ks ds, v, A, r, a, z => by rw [r.1] at z; cases z
  | .lst true ds, v, A, r, a, z => by
    obtain ⟨p, xs, B, rfl, rfl, s, r⟩ := r
    rcases List.mem_cons.mp z with z | z
    · subst z; exact ⟨_, s, fun _ q => nomatch q⟩
    · exact RepL.trN ds xs B r a z
  | .dk true ks ds, v, A, r, a, z => by
    obtain ⟨p, kvs, B, rfl, rfl, s, e, r⟩ := r
    rcases List.mem_cons.mp z with z | z
    · subst z; exact ⟨_, s, fun _ q => nomatch q⟩
    · exact RepL.trN ds _ B r a z
  | .dt true ks ds, v, A, r, a, z => by
    obtain ⟨p, kvs, B, rfl, rfl, s, e, r⟩ := r
    rcases List.mem_cons.mp z with z | z
    · subst z; exact ⟨_, s, fun _ q => nomatch q⟩
    · exact RepL.trN ds _ B r a z
theorem RepL.trN {F H : Hp} : ∀ (ds : List D) (vs : List V) (A : List Addr), RepL K F H ds vs A → ∀ a ∈ A, ∃ o, H a = some o ∧ NT o
  | [], vs, A, r, a, z => by rw [r.2] at z; cases z
  | d :: ds, vs, A, r, a, z => by
    obtain ⟨v, ws, B, C, rfl, rfl, r1, r2⟩ := r
    rcases List.mem_append.mp z with z | z
    · exact Rep.trN d v B r1 a z
    · exact RepL.trN ds ws C r2 a z
end
theorem Sl.trN {F H : Hp} : ∀ {ρ : Env} {σ : St} {A : List Addr}, Sl K F H ρ σ A → ∀ a ∈ A, ∃ o, H a = some o ∧ NT o
  | [], σ, A, r, a, z => by rw [r.2] at z; cases z
  | x :: ρ, σ, A, r, a, z => by
    obtain ⟨s, τ, B, C, rfl, rfl, r1, r2⟩ := r
    rcases List.mem_append.mp z with z | z
    · cases x with
      | none => rw [show B = [] from r1] at z; cases z
      | some d =>
        obtain ⟨v, _, r1⟩ := r1
        exact Rep.trN d v B r1 a z
    · exact r2.trN a z
mutual
theorem Rep.frz {F F' H : Hp} (h : ∀ a o, F a = some o → F' a = some o) : ∀ (d : D) (v : V) (A : List Addr), (∀ a ∈ A, ∀ o, H a = some o → F' a = some o) → Rep K F H d v A → Rep K F' H (frz d) v []
  | .non, v, A, _, r => ⟨r.1, rfl⟩
  | .bl b, v, A, _, r => ⟨r.1, rfl⟩
  | .int i, v, A, _, r => ⟨r.1, rfl⟩
  | .str x, v, A, _, r => ⟨r.1, rfl⟩
  | .adr a, v, A, _, r => ⟨r.1, rfl⟩
  | .tup ds, v, A, k, r => by
    obtain ⟨rfl, a, xs, rfl, s, r⟩ := r
    exact ⟨rfl, a, xs, rfl, h _ _ s, RepL.mono h ds xs [] (fun _ z => nomatch z) r⟩
  | .lst false ds, v, A, k, r => by
    obtain ⟨rfl, a, xs, rfl, s, r⟩ := r
    exact ⟨rfl, a, xs, rfl, h _ _ s, RepL.frz h ds xs [] (fun _ z => nomatch z) r⟩
  | .lst true ds, v, A, k, r => by
    obtain ⟨a, xs, B, rfl, rfl, s, r⟩ := r
    exact ⟨rfl, a, xs, rfl, k a List.mem_cons_self _ s, RepL.frz h ds xs B (fun b z => k b (List.mem_cons_of_mem _ z)) r⟩
  | .dk false ks ds, v, A, k, r => by
    obtain ⟨rfl, a, kvs, rfl, s, e, r⟩ := r
    exact ⟨rfl, a, kvs, rfl, h _ _ s, e, RepL.frz h ds _ [] (fun _ z => nomatch z) r⟩
  | .dk true ks ds, v, A, k, r => by
    obtain ⟨a, kvs, B, rfl, rfl, s, e, r⟩ := r
    exact ⟨rfl, a, kvs, rfl, k a List.mem_cons_self _ s, e, RepL.frz h ds _ B (fun b z => k b (List.mem_cons_of_mem _ z)) r⟩
  | .dt false ks ds, v, A, k, r => by
    obtain ⟨rfl, a, kvs, rfl, s, e, r⟩ := r
    exact ⟨rfl, a, kvs, rfl, Rd.mono h s, e, RepL.frz h ds _ [] (fun _ z => nomatch z) r⟩
  | .dt true ks ds, v, A, k, r => by
    obtain ⟨a, kvs, B, rfl, rfl, s, e, r⟩ := r
    exact ⟨rfl, a, kvs, rfl, .inl (k a List.mem_cons_self _ s), e, RepL.frz h ds _ B (fun b z => k b (List.mem_cons_of_mem _ z)) r⟩
  | .scr ns, v, A, k, r => by
    obtain ⟨rfl, a, rfl, s⟩ := r
    exact ⟨rfl, a, rfl, SqL.mono h s⟩
  | .obj false c ns ds, v, A, k, r => by
    obtain ⟨rfl, a, C, dx, fs, rfl, g, s, e, r⟩ := r
    exact ⟨rfl, a, C, dx, fs, rfl, g, h _ _ s, e, RepL.frz h ds _ [] (fun _ z => nomatch z) r⟩
  | .obj true c ns ds, v, A, k, r => by
    obtain ⟨a, C, dx, fs, B, rfl, rfl, g, s, e, r⟩ := r
    exact ⟨rfl, a, C, dx, fs, rfl, g, k a List.mem_cons_self _ s, e, RepL.frz h ds _ B (fun b z => k b (List.mem_cons_of_mem _ z)) r⟩
theorem RepL.frz {F F' H : Hp} (h : ∀ a o, F a = some o → F' a = some o) : ∀ (ds : List D) (vs : List V) (A : List Addr), (∀ a ∈ A, ∀ o, H a = some o → F' a = some o) → RepL K F H ds vs A → RepL K F' H (frzL ds) vs []
  | [], vs, A, k, r => ⟨r.1, rfl⟩
  | d :: ds, vs, A, k, r => by
    obtain ⟨v, ws, B, C, rfl, rfl, r1, r2⟩ := r
    exact ⟨v, ws, [], [], rfl, rfl, Rep.frz h d v B (fun a z => k a (List.mem_append_left _ z)) r1, RepL.frz h ds ws C (fun a z => k a (List.mem_append_right _ z)) r2⟩
end
section
variable {fr : Fr} {ρ ρ' : Env} {σ σ' : St} {H H' : Hp} {A A' : List Addr} {d : D} {v : V}
/-- the frame: what stands behind is out of sight and comes back -/
theorem Sim.frame {ρ1 ρ2 : Env} {σ1 σ2 : St} (e : σ1.length = ρ1.length) (S : Sim K fr (ρ1 ++ ρ2) (σ1 ++ σ2) H) : ∃ fr', Sim K fr' ρ1 σ1 H ∧ ∀ ρ1' σ1' H', Sim K fr' ρ1' σ1' H' → Sim K fr (ρ1' ++ ρ2) (σ1' ++ σ2) H' := by
  obtain ⟨A, S⟩ := S
  obtain ⟨A1, A2, rfl, q1, q2⟩ := Sl.cut e S.sl
  have nd := List.nodup_append.mp S.nd
  refine ⟨⟨hid A1 H, A2 ++ fr.N⟩, ⟨A1, ?_, nd.1, fun a z => ⟨fun w => ?_, ?_⟩, fun a o e => (hid_some.mp e).2, fun a z => ?_⟩, ?_⟩
  · refine q1.mono (fun a o e => ?_) fun a _ o e => e
    rw [hid_some] at e ⊢
    exact ⟨fun z => e.1 (by simpa [or_assoc] using z), e.2⟩
  · rcases List.mem_append.mp w with w | w
    · exact nd.2.2 a z a w rfl
    · exact (S.off a (List.mem_append_left _ z)).1 w
  · show hid A1 H a = none
    unfold hid
    rw [if_pos z]
  · rcases List.mem_append.mp z with z | z
    · obtain ⟨o, e, nt⟩ := q2.trN a z
      exact ⟨o, hid_some.mpr ⟨fun w => nd.2.2 a w a z rfl, e⟩, nt⟩
    · obtain ⟨o, e, nt⟩ := S.tr a z
      exact ⟨o, hid_some.mpr ⟨fun w => (S.off a (List.mem_append_left _ w)).1 z, S.keep a o e⟩, nt⟩
  · rintro ρ1' σ1' H' ⟨A1', T⟩
    have k : ∀ a o, a ∉ A1 → H a = some o → H' a = some o := fun a o n e => T.keep a o (hid_some.mpr ⟨n, e⟩)
    have d12 : ∀ a ∈ A1', a ∉ A2 := fun a z w => (T.off a z).1 (List.mem_append_left _ w)
    refine ⟨A1' ++ A2, Sl.app (T.sl.mono (fun a o e => ?_) fun a _ o e => e) (q2.mono (fun a o e => ?_) fun a z o e => k a o (fun w => nd.2.2 a w a z rfl) e), List.nodup_append.mpr ⟨T.nd, nd.2.1, fun a z b w q => d12 a z (q ▸ w)⟩, fun a z => ?_, fun a o e => ?_, S.tr⟩
    · rw [hid_some] at e ⊢
      exact ⟨fun z => e.1 (by simpa [or_assoc] using z), e.2⟩
    · rw [hid_some] at e ⊢
      have n1 : a ∉ A1 := fun z => e.1 (by simp [z])
      refine ⟨fun z => ?_, k a o n1 e.2⟩
      rcases List.mem_append.mp z with z | z
      · rcases List.mem_append.mp z with z | z
        · have g : hid A1 H a = none := (T.off a z).2
          rw [show hid A1 H a = some o from hid_some.mpr ⟨n1, e.2⟩] at g
          cases g
        · exact e.1 (by simp [z])
      · exact e.1 (by simp [z])
    · rcases List.mem_append.mp z with z | z
      · refine ⟨fun w => (T.off a z).1 (List.mem_append_right _ w), ?_⟩
        cases g : fr.G a with
        | none => rfl
        | some o =>
          have n1 : a ∉ A1 := fun w => by rw [(S.off a (List.mem_append_left _ w)).2] at g; cases g
          have q : hid A1 H a = none := (T.off a z).2
          rw [show hid A1 H a = some o from hid_some.mpr ⟨n1, S.keep a o g⟩] at q
          cases q
      · exact S.off a (List.mem_append_right _ z)
    · have n1 : a ∉ A1 := fun w => by rw [(S.off a (List.mem_append_left _ w)).2] at e; cases e
      exact k a o n1 (S.keep a o e)
/-- a temp stands ahead: the rest goes on without it -/
theorem Sim.hold {x : Option D} {s : Option V} (S : Sim K fr (x :: ρ) (s :: σ) H) : ∃ fr', Sim K fr' ρ σ H ∧ ∀ ρ' σ' H', Sim K fr' ρ' σ' H' → Sim K fr (x :: ρ') (s :: σ') H' := by
  have T := Sim.swap (ρ1 := [x]) (σ1 := [s]) rfl S
  obtain ⟨fr', a, b⟩ := Sim.frame S.drop.len T
  refine ⟨fr', a, fun ρ' σ' H' h => ?_⟩
  have z := b ρ' σ' H' h
  exact Sim.swap (ρ1 := ρ') (ρ2 := [x]) h.len z
theorem Sim.holdN {ρ1 : Env} {σ1 : St} (e : σ1.length = ρ1.length) (S : Sim K fr (ρ1 ++ ρ) (σ1 ++ σ) H) : ∃ fr', Sim K fr' ρ σ H ∧ ∀ ρ' σ' H', Sim K fr' ρ' σ' H' → Sim K fr (ρ1 ++ ρ') (σ1 ++ σ') H' := by
  have T := Sim.swap e S
  obtain ⟨fr', a, b⟩ := Sim.frame (S.dropN e).len T
  exact ⟨fr', a, fun ρ' σ' H' h => Sim.swap h.len (b ρ' σ' H' h)⟩
/-- the first one frozen -/
theorem Sim.frz (S : Sim K fr (some d :: ρ) (some v :: σ) H) : Sim K fr (some (frz d) :: ρ) (some v :: σ) H := by
  obtain ⟨A, S⟩ := S
  obtain ⟨s', τ, B, C, e, rfl, ⟨v', e1, r1⟩, r2⟩ := S.sl
  injection e with e2 e3
  subst e2 e3
  cases e1
  have nd := List.nodup_append.mp S.nd
  have sub : ∀ a ∈ C, a ∈ B ++ C ∨ H a = none := fun a z => .inl (List.mem_append_right _ z)
  have f := S.fro sub (H' := H) fun a o _ e => e
  refine ⟨C, S.next sub nd.2.1 (fun a o _ e => e) ⟨some v, σ, [], C, rfl, rfl, ⟨v, rfl, Rep.frz f d v B (fun a z o e => hid_some.mpr ⟨fun w => ?_, e⟩) r1⟩, r2.mono f fun a _ o e => e⟩⟩
  rcases List.mem_append.mp w with w | w
  · exact nd.2.2 a z a w rfl
  · exact (S.off a (List.mem_append_left _ z)).1 w
/-- flat data -/
def flat : D → Option V
  | .non => some .non
  | .bl b => some (.bl b)
  | .int i => some (.int i)
  | .str x => some (.str x)
  | .adr a => some (.ref a)
  | _ => none
theorem flat_rep {F H : Hp} (h : flat d = some v) : Rep K F H d v [] := by
  cases d <;> simp [flat] at h <;> subst h <;> exact ⟨rfl, rfl⟩
theorem rep_flat {F H : Hp} {w : V} {B : List Addr} (h : flat d = some v) (r : Rep K F H d w B) : w = v ∧ B = [] := by
  cases d <;> simp [flat] at h <;> subst h <;> exact r
theorem Sim.pushF (S : Sim K fr ρ σ H) (h : flat d = some v) : Sim K fr (some d :: ρ) (some v :: σ) H := by
  obtain ⟨A, S⟩ := S
  exact ⟨A, S.next (fun a z => .inl z) S.nd (fun a o _ e => e) ⟨some v, σ, [], A, rfl, rfl, ⟨v, rfl, flat_rep h⟩, S.sl⟩⟩
theorem Sim.topF (S : Sim K fr (some d :: ρ) (some v :: σ) H) {w : V} (h : flat d = some w) : v = w := by
  obtain ⟨A, S⟩ := S
  obtain ⟨s', τ, B, C, e, rfl, ⟨v', e1, r1⟩, r2⟩ := S.sl
  injection e with e2 e3
  subst e2
  cases e1
  exact (rep_flat h r1).1
/-- frozen data -/
def fro : D → Bool
  | .lst o _ => !o
  | .dk o _ _ => !o
  | .dt o _ _ => !o
  | .obj o _ _ _ => !o
  | _ => true
theorem fro_rep {F H : Hp} {B : List Addr} (h : fro d = true) (r : Rep K F H d v B) : B = [] := by
  cases d with
  | lst o ds => cases o with
    | false => exact r.1
    | true => cases h
  | dk o ks ds => cases o with
    | false => exact r.1
    | true => cases h
  | dt o ks ds => cases o with
    | false => exact r.1
    | true => cases h
  | obj o c ns ds => cases o with
    | false => exact r.1
    | true => cases h
  | tup ds => exact r.1
  | scr ns => exact r.1
  | _ => exact r.2
theorem fro_frz : ∀ d : D, fro (DL.frz d) = true
  | .lst _ _ => rfl
  | .dk _ _ _ => rfl
  | .dt _ _ _ => rfl
  | .tup _ => rfl
  | .scr _ => rfl
  | .obj _ _ _ _ => rfl
  | .non => rfl
  | .bl _ => rfl
  | .int _ => rfl
  | .str _ => rfl
  | .adr _ => rfl
theorem Sim.dup {i : Nat} (S : Sim K fr ρ σ H) (e : ρ[i]? = some (some d)) (h : fro d = true) : ∃ v, σ[i]? = some (some v) ∧ Sim K fr (some d :: ρ) (some v :: σ) H := by
  obtain ⟨A, S⟩ := S
  obtain ⟨s, A1, B, A2, e1, rfl, ⟨v, rfl, r⟩, _⟩ := S.sl.at e
  have := fro_rep h r
  subst this
  exact ⟨v, e1, _, S.next (fun a z => .inl z) S.nd (fun a o _ e => e) ⟨some v, σ, [], _, rfl, rfl, ⟨v, rfl, r⟩, S.sl⟩⟩
theorem set_self {α : Type} : ∀ {l : List α} {i : Nat} {x : α}, l[i]? = some x → l.set i x = l
  | [], _, _, h => by simp at h
  | a :: l, 0, x, h => by
    have : a = x := by simpa using h
    subst this; rfl
  | a :: l, i + 1, x, h => by
    show a :: l.set i x = a :: l
    rw [set_self (by simpa using h)]
theorem perm_nodup {A B C : List Addr} (h : (A ++ (B ++ C)).Nodup) : (B ++ (A ++ C)).Nodup := by
  refine List.Perm.nodup (l := A ++ (B ++ C)) ?_ h
  exact (List.perm_append_comm_assoc A B C)
/-- moved out of its slot -/
theorem Sim.move {i : Nat} (S : Sim K fr ρ σ H) (e : ρ[i]? = some (some d)) : ∃ v, σ[i]? = some (some v) ∧ Sim K fr (some d :: ρ.set i none) (some v :: σ) H := by
  obtain ⟨A, S⟩ := S
  obtain ⟨s, A1, B, A2, e1, rfl, ⟨v, rfl, r⟩, f⟩ := S.sl.at e
  have sub : ∀ a ∈ B ++ (A1 ++ A2), a ∈ A1 ++ (B ++ A2) ∨ H a = none := fun a z => .inl (by
    simp only [List.mem_append] at z ⊢
    rcases z with z | z | z
    · exact .inr (.inl z)
    · exact .inl z
    · exact .inr (.inr z))
  have g := S.fro sub (H' := H) fun a o _ e => e
  have q := f (x' := none) (s' := some v) (B' := []) g (fun a _ o e => e) rfl
  rw [set_self e1] at q
  exact ⟨v, e1, _, S.next sub (perm_nodup S.nd) (fun a o _ e => e) ⟨some v, σ, B, A1 ++ A2, rfl, rfl, ⟨v, rfl, Rep.mono g d v B (fun a _ o e => e) r⟩, q⟩⟩
/-- stored in a slot -/
theorem Sim.store {i : Nat} (S : Sim K fr (some d :: ρ) (some v :: σ) H) (hi : i < ρ.length) : Sim K fr (ρ.set i (some d)) (σ.set i (some v)) H := by
  obtain ⟨A, S⟩ := S
  obtain ⟨s', τ, B, C, e, rfl, ⟨v', e1, r1⟩, r2⟩ := S.sl
  injection e with e2 e3
  subst e2 e3
  cases e1
  obtain ⟨s, A1, B0, A2, e1, rfl, r, f⟩ := r2.at (List.getElem?_eq_getElem hi)
  have sub : ∀ a ∈ A1 ++ (B ++ A2), a ∈ B ++ (A1 ++ (B0 ++ A2)) ∨ H a = none := fun a z => .inl (by
    simp only [List.mem_append] at z ⊢
    rcases z with z | z | z
    · exact .inr (.inl z)
    · exact .inl z
    · exact .inr (.inr (.inr z)))
  have g := S.fro sub (H' := H) fun a o _ e => e
  refine ⟨_, S.next sub ?_ (fun a o _ e => e) (f (x' := some d) (s' := some v) (B' := B) g (fun a _ o e => e) ⟨v, rfl, Rep.mono g d v B (fun a _ o e => e) r1⟩)⟩
  refine perm_nodup ?_
  refine List.Nodup.sublist ?_ S.nd
  exact (List.append_sublist_append_left B).mpr ((List.append_sublist_append_left A1).mpr (List.sublist_append_right B0 A2))
theorem Sim.back {i : Nat} (S : Sim K fr (some d :: ρ) (some v :: σ) H) (h : σ[i]? = some (some v)) : Sim K fr (ρ.set i (some d)) σ H := by
  have hi : i < ρ.length := by
    have := S.drop.len
    rw [← this]
    exact (List.getElem?_eq_some_iff.mp h).1
  have z := S.store hi
  rw [set_self h] at z
  exact z
theorem Sim.clear {i : Nat} (S : Sim K fr ρ σ H) (s : Option V) : Sim K fr (ρ.set i none) (σ.set i s) H := by
  by_cases hi : i < ρ.length
  · obtain ⟨A, S⟩ := S
    obtain ⟨s0, A1, B0, A2, e1, rfl, r, f⟩ := S.sl.at (List.getElem?_eq_getElem hi)
    have sub : ∀ a ∈ A1 ++ ([] ++ A2), a ∈ A1 ++ (B0 ++ A2) ∨ H a = none := fun a z => .inl (by
      simp only [List.mem_append] at z ⊢
      rcases z with z | z | z
      · exact .inl z
      · cases z
      · exact .inr (.inr z))
    have g := S.fro sub (H' := H) fun a o _ e => e
    refine ⟨_, S.next sub ?_ (fun a o _ e => e) (f (x' := none) (s' := s) (B' := []) g (fun a _ o e => e) rfl)⟩
    refine List.Nodup.sublist ?_ S.nd
    exact (List.append_sublist_append_left A1).mpr (List.sublist_append_right B0 A2)
  · have h1 : ρ.set i none = ρ := List.set_eq_of_length_le (by omega)
    have h2 : σ.set i s = σ := List.set_eq_of_length_le (by rw [S.len]; omega)
    rw [h1, h2]
    exact S
end
end DL

set_option Elab.async false
set_option linter.all false
set_option maxRecDepth 100000
set_option maxHeartbeats 4000000
namespace DL
open PySem PySem.Spec L2
abbrev rc (X : Cx) : RC := ⟨X.K, X.mg⟩
/-! what an expression comes to -/
inductive Res (α : Type) where
  | ok (a : α) (ρ : Env)
  | exc (c : Str) (fs : List (Str × D)) (ρ : Env)
  | stuck
abbrev M (α : Type) := Env → Res α
def mbind {α β : Type} (m : M α) (f : α → M β) : M β := fun ρ => match m ρ with
  | .ok a ρ' => f a ρ'
  | .exc c fs ρ' => .exc c fs ρ'
  | .stuck => .stuck
def mret {α : Type} (a : α) : M α := fun ρ => .ok a ρ
def mlift {α : Type} : Option α → M α
  | some a => fun ρ => .ok a ρ
  | none => fun _ => .stuck
def toV (d : D) : V := (flat d).getD .non
/-- an exception as it lies -/
def ExcR (mg : Str → Option Value) (c : Str) (fs : List (Str × D)) (cls : Value) (dd : Option Addr) (H : Hp) : Prop :=
  ∃ C, mg c = some (.ref C) ∧ cls = .ref C ∧ ((fs = [] ∧ dd = none) ∨ (fs ≠ [] ∧ ∃ a, dd = some a ∧ H a = some (.xd (fs.map fun p => (p.1, toV p.2)))))
def QX (K : RC) (W : WX) (fr : Fr) (σ : L2.St) (c : Str) (fs : List (Str × D)) (ρ : Env) : Prop :=
  ∀ cls dd H, ExcR K.mg c fs cls dd H → Sim K fr ρ σ H → W cls dd σ H
def QR {α : Type} (K : RC) (W : WX) (fr : Fr) (σ : L2.St) (r : Res α) (post : α → Env → Prop) : Prop := match r with
  | .ok a ρ => post a ρ
  | .exc c fs ρ => QX K W fr σ c fs ρ
  | .stuck => False
section
variable {K : RC} {W : WX} {fr fr' : Fr} {σ : L2.St} {H : Hp}
theorem QR.bind {α β : Type} {m : M α} {f : α → M β} {ρ : Env} {post : β → Env → Prop} (h : QR K W fr σ (mbind m f ρ) post) : QR K W fr σ (m ρ) fun a ρ' => QR K W fr σ (f a ρ') post := by
  unfold mbind at h
  cases e : m ρ with
  | ok a ρ' => rw [e] at h; exact h
  | exc c fs ρ' => rw [e] at h; exact h
  | stuck => rw [e] at h; exact h
theorem QR.mono {α : Type} {r : Res α} {p q : α → Env → Prop} (h : QR K W fr σ r p) (k : ∀ a ρ, p a ρ → q a ρ) : QR K W fr σ r q := by
  cases r with
  | ok a ρ => exact k a ρ h
  | exc c fs ρ => exact h
  | stuck => exact h
/-- under a longer frame -/
theorem QR.frame {α : Type} {r : Res α} {p : α → Env → Prop} (h : QR K W fr σ r p) (k : ∀ ρ H, Sim K fr' ρ σ H → Sim K fr ρ σ H) : QR K W fr' σ r p := by
  cases r with
  | ok a ρ => exact h
  | exc c fs ρ => exact fun cls dd H e s => h cls dd H e (k ρ H s)
  | stuck => exact h
theorem QR.lift {α : Type} {o : Option α} {ρ : Env} {p : α → Env → Prop} (h : QR K W fr σ (mlift o ρ) p) : ∃ a, o = some a ∧ p a ρ := by
  cases o with
  | none => exact h.elim
  | some a => exact ⟨a, rfl, h⟩
end
/-- an expression's value -/
def QE (K : RC) (W : WX) (fr : Fr) (σ : L2.St) (r : Res D) (Q : VK) : Prop := QR K W fr σ r fun d ρ => ∀ v H, Sim K fr (some d :: ρ) (some v :: σ) H → Q v H
structure ED {ι : Type} (X : ι → Cx) (K : RC) (W : WX) (e : Expr) (f : M D) : Prop where
  ex : ∃ t, (∀ i, PE (X i) e t) ∧ ∀ fr ρ σ H Q, Sim K fr ρ σ H → QE K W fr σ (f ρ) Q → t σ H Q
def QT (K : RC) (W : WX) (fr : Fr) (σ : L2.St) (r : Res Bool) (Q : Bool → Hp → Prop) : Prop := QR K W fr σ r fun b ρ => ∀ H, Sim K fr ρ σ H → Q b H
structure TD {ι : Type} (X : ι → Cx) (K : RC) (W : WX) (e : Expr) (f : M Bool) : Prop where
  ex : ∃ t, (∀ i, PT (X i) e t) ∧ ∀ fr ρ σ H Q, Sim K fr ρ σ H → QT K W fr σ (f ρ) Q → t σ H Q
/-- and, or as tests -/
structure WD {ι : Type} (X : ι → Cx) (K : RC) (W : WX) (e : Expr) (f : M Bool) : Prop where
  ex : ∃ t, (∀ i, PW (X i) e t) ∧ ∀ fr ρ σ H Q, Sim K fr ρ σ H → QT K W fr σ (f ρ) Q → t σ H Q
def revL (ds : List D) : Env := ds.reverse.map some
/-- arguments: the values lie as temps, the last one ahead -/
def QA (K : RC) (W : WX) (fr : Fr) (σ : L2.St) (r : Res (List D)) (Q : List V → Hp → Prop) : Prop :=
  QR K W fr σ r fun ds ρ => ∀ vs H, vs.length = ds.length → Sim K fr (ds.map some ++ ρ) (vs.map some ++ σ) H → Q vs H
structure AD {ι : Type} (X : ι → Cx) (K : RC) (W : WX) (es : List Expr) (f : M (List D)) : Prop where
  ex : ∃ t, (∀ i, PA (X i) es t) ∧ ∀ fr ρ σ H Q, Sim K fr ρ σ H → QA K W fr σ (f ρ) Q → t σ H Q
section
variable {ι : Type} {X : ι → Cx} {K : RC} {W : WX} {e a b c : Expr} {es : List Expr} {f fa fb fc : M D} {pos : Pos}
/-! ### two in a row, under the first one's hold -/
theorem two {fr : Fr} {ρ1 : Env} {σ : L2.St} {H1 : Hp} {dx : D} {vx : V} {tb : TE} {R : V → Hp → Prop} {post : D → Env → Prop} (S : Sim K fr (some dx :: ρ1) (some vx :: σ) H1)
    (hb : ∀ fr ρ σ H Q, Sim K fr ρ σ H → QE K W fr σ (fb ρ) Q → tb σ H Q) (h : QR K W fr σ (fb ρ1) post)
    (k : ∀ dy ρ2 vy H2, post dy ρ2 → Sim K fr (some dy :: some dx :: ρ2) (some vy :: some vx :: σ) H2 → R vy H2) : tb σ H1 R := by
  obtain ⟨fr', S', back⟩ := S.hold
  refine hb fr' ρ1 σ H1 R S' ?_
  refine (h.frame fun ρ H s => (back ρ σ H s).drop).mono fun dy ρ2 hp vy H2 s => ?_
  refine k dy ρ2 vy H2 hp ?_
  have z := back (some dy :: ρ2) (some vy :: σ) H2 s
  have z1 : Sim K fr ([some dx] ++ ([some dy] ++ ρ2)) ([some vx] ++ ([some vy] ++ σ)) H2 := z
  -- swap the first two
  obtain ⟨A, T⟩ := z
  obtain ⟨s1, τ1, B1, C1, e1, rfl, r1, r2⟩ := T.sl
  injection e1 with e1 e2
  subst e1 e2
  obtain ⟨s2, τ2, B2, C2, e3, rfl, r3, r4⟩ := r2
  injection e3 with e3 e4
  subst e3 e4
  have sub : ∀ q ∈ B2 ++ (B1 ++ C2), q ∈ B1 ++ (B2 ++ C2) ∨ H2 q = none := fun q z => .inl (by
    simp only [List.mem_append] at z ⊢
    rcases z with z | z | z
    · exact .inr (.inl z)
    · exact .inl z
    · exact .inr (.inr z))
  have g := T.fro sub (H' := H2) fun a o _ e => e
  exact ⟨_, T.next sub (perm_nodup T.nd) (fun a o _ e => e) ⟨some vy, some vx :: σ, B2, B1 ++ C2, rfl, rfl, r3.mono g fun a _ o e => e, some vx, σ, B1, C2, rfl, rfl, r1.mono g fun a _ o e => e, r4.mono g fun a _ o e => e⟩⟩
/-! ### names, constants -/
def eVar (i : Nat) : M D := fun ρ => match ρ[i]? with
  | some (some d) => if fro d = true then .ok d ρ else .stuck
  | _ => .stuck
theorem ed_var (i : Nat) {x : Str} {pos : Pos} (h : ∀ j, PE (X j) (.Name x pos) (tVar i)) : ED X K W (.Name x pos) (eVar i) := ⟨tVar i, h, fun fr ρ σ H Q S q => by
  unfold eVar at q
  cases e : ρ[i]? with
  | none => rw [e] at q; exact q.elim
  | some o => cases o with
    | none => rw [e] at q; exact q.elim
    | some d =>
      rw [e] at q
      by_cases hf : fro d = true
      · simp only [hf, if_true] at q
        obtain ⟨v, e1, S1⟩ := S.dup e hf
        exact ⟨v, e1, q v H S1⟩
      · simp only [hf] at q
        exact q.elim⟩
/-- the variable is handed over (and gone) -/
def eMove (i : Nat) : M D := fun ρ => match ρ[i]? with
  | some (some d) => .ok d (ρ.set i none)
  | _ => .stuck
theorem ed_move (i : Nat) {x : Str} {pos : Pos} (h : ∀ j, PE (X j) (.Name x pos) (tVar i)) : ED X K W (.Name x pos) (eMove i) := ⟨tVar i, h, fun fr ρ σ H Q S q => by
  unfold eMove at q
  cases e : ρ[i]? with
  | none => rw [e] at q; exact q.elim
  | some o => cases o with
    | none => rw [e] at q; exact q.elim
    | some d =>
      rw [e] at q
      obtain ⟨v, e1, S1⟩ := S.move e
      exact ⟨v, e1, q v H S1⟩⟩
def eC (d : D) : M D := fun ρ => .ok d ρ
theorem ed_const {d : D} {v : V} (hf : flat d = some v) (h : ∀ i, PE (X i) e (tC v)) : ED X K W e (eC d) := ⟨tC v, h, fun fr ρ σ H Q S q => q v H (S.pushF hf)⟩
theorem ed_int {i j pos} : ED X K W (.Constant (.int i) j pos) (eC (.int i)) := ed_const rfl fun _ => pe_int
theorem ed_bl {i j pos} : ED X K W (.Constant (.bool i) j pos) (eC (.bl i)) := ed_const rfl fun _ => pe_bl
theorem ed_str {i j pos} : ED X K W (.Constant (.str i) j pos) (eC (.str i)) := ed_const rfl fun _ => pe_str
theorem ed_non {j pos} : ED X K W (.Constant .none j pos) (eC .non) := ed_const rfl fun _ => pe_non
/-- what was made is frozen -/
def eFrz (f : M D) : M D := mbind f fun d => mret (frz d)
theorem ed_frz (h : ED X K W e f) : ED X K W e (eFrz f) := by
  obtain ⟨t, p, s⟩ := h.ex
  exact ⟨t, p, fun fr ρ σ H Q S q => s fr ρ σ H Q S (QR.mono (QR.bind q) fun d ρ' q' v H' S' => q' v H' S'.frz)⟩
/-! ### operators -/
def e1 (F : D → Option D) (fa : M D) : M D := mbind fa fun x => mlift (F x)
def e2 (F : D → D → Option D) (fa fb : M D) : M D := mbind fa fun x => mbind fb fun y => mlift (F x y)
/-- r computes F -/
def OpS (K : RC) (r : R2) (F : D → D → Option D) : Prop := ∀ fr ρ σ H dx dy vx vy d Q, Sim K fr (some dy :: some dx :: ρ) (some vy :: some vx :: σ) H → F dx dy = some d →
  (∀ v H', Sim K fr (some d :: ρ) (some v :: σ) H' → Q v H') → r vx vy H Q
def UnS (K : RC) (r : V → Hp → VK → Prop) (F : D → Option D) : Prop := ∀ fr ρ σ H dx vx d Q, Sim K fr (some dx :: ρ) (some vx :: σ) H → F dx = some d →
  (∀ v H', Sim K fr (some d :: ρ) (some v :: σ) H' → Q v H') → r vx H Q
theorem sim_tOp {r : R2} {F : D → D → Option D} (ho : OpS K r F) {ta tb : TE} (ha : ∀ fr ρ σ H Q, Sim K fr ρ σ H → QE K W fr σ (fa ρ) Q → ta σ H Q) (hb : ∀ fr ρ σ H Q, Sim K fr ρ σ H → QE K W fr σ (fb ρ) Q → tb σ H Q)
    {fr : Fr} {ρ : Env} {σ : L2.St} {H : Hp} {Q : VK} (S : Sim K fr ρ σ H) (q : QE K W fr σ (e2 F fa fb ρ) Q) : tOp r ta tb σ H Q := by
  refine ha fr ρ σ H _ S ((QR.bind q).mono fun dx ρ1 q1 vx H1 S1 => ?_)
  refine two S1 hb (QR.bind q1) fun dy ρ2 vy H2 q2 S2 => ?_
  obtain ⟨d, e, q3⟩ := QR.lift q2
  exact ho fr ρ2 σ H2 dx dy vx vy d Q S2 e q3
theorem ed_op {op : Operator} {r : R2} {F : D → D → Option D} (h : ∀ i, OpR (X i) (binaryOp op) r) (ho : OpS K r F) (ha : ED X K W a fa) (hb : ED X K W b fb) : ED X K W (.BinOp a op b pos) (e2 F fa fb) := by
  obtain ⟨ta, pa, sa⟩ := ha.ex
  obtain ⟨tb, pb, sb⟩ := hb.ex
  exact ⟨tOp r ta tb, (fun i => pe_op (h i) (pa i) (pb i)), fun fr ρ σ H Q S q => sim_tOp ho sa sb S q⟩
theorem ed_cmp {op : CmpOp} {r : R2} {F : D → D → Option D} (h : ∀ i, OpR (X i) (compareOp op) r) (ho : OpS K r F) (ha : ED X K W a fa) (hb : ED X K W b fb) (hm : behindInMarks op b = false) : ED X K W (.Compare a [op] [b] pos) (e2 F fa fb) := by
  obtain ⟨ta, pa, sa⟩ := ha.ex
  obtain ⟨tb, pb, sb⟩ := hb.ex
  exact ⟨tOp r ta tb, (fun i => pe_cmpR (h i) (pa i) (pb i) hm), fun fr ρ σ H Q S q => sim_tOp ho sa sb S q⟩
def isB : D → Option Bool
  | .bl b => some b
  | _ => none
def eB (f : M D) : M Bool := mbind f fun d => mlift (isB d)
theorem sim_tTest {t : TE} (s : ∀ fr ρ σ H Q, Sim K fr ρ σ H → QE K W fr σ (f ρ) Q → t σ H Q) {fr : Fr} {ρ : Env} {σ : L2.St} {H : Hp} {Q : Bool → Hp → Prop} (S : Sim K fr ρ σ H) (q : QT K W fr σ (eB f ρ) Q) : tTest t σ H Q := by
  refine s fr ρ σ H _ S ((QR.bind q).mono fun d ρ1 q1 v H1 S1 => ?_)
  obtain ⟨b, e, q2⟩ := QR.lift q1
  cases d <;> simp [isB] at e
  subst e
  have := S1.topF rfl
  subst this
  exact ⟨_, rfl, q2 H1 S1.drop⟩
theorem td_cmp {op : CmpOp} {r : R2} {F : D → D → Option D} (h : ∀ i, OpR (X i) (compareOp op) r) (ho : OpS K r F) (ha : ED X K W a fa) (hb : ED X K W b fb) (hm : behindInMarks op b = false) : TD X K W (.Compare a [op] [b] pos) (eB (e2 F fa fb)) := by
  obtain ⟨ta, pa, sa⟩ := ha.ex
  obtain ⟨tb, pb, sb⟩ := hb.ex
  exact ⟨tTest (tOp r ta tb), (fun i => pt_cmpR (h i) (pa i) (pb i) hm), fun fr ρ σ H Q S q => sim_tTest (fun fr ρ σ H Q S q => sim_tOp ho sa sb S q) S q⟩
/-- a test of an expression that gives a bool -/
theorem td_val (h : ED X K W e f) (he : ∀ i whole, isTrue e (X i).env whole = (do let v ← whole; standAt e.pos; holding [v] (truthy v)) := by intro _ _; rfl) : TD X K W e (eB f) := by
  obtain ⟨t, p, s⟩ := h.ex
  exact ⟨tB t, (fun i => pt_val (p i) (he i)), fun fr ρ σ H Q S q => sim_tTest s S q⟩
theorem td_of (h : WD X K W e f') : TD X K W e f' := by
  obtain ⟨t, p, s⟩ := h.ex
  exact ⟨t, (fun i => (p i).pt), s⟩
def mAnd (f g : M Bool) : M Bool := mbind f fun b => if b = true then g else mret false
def mOr (f g : M Bool) : M Bool := mbind f fun b => if b = true then mret true else g
def mNot (f : M Bool) : M Bool := mbind f fun b => mret (!b)
variable {ga gb : M Bool} {rest : List Expr}
theorem wd_and1 (h : TD X K W a ga) : WD X K W (.BoolOp .And [a] pos) ga := by
  obtain ⟨t, p, s⟩ := h.ex
  exact ⟨t, (fun i => pw_and1 (p i)), s⟩
theorem wd_or1 (h : TD X K W a ga) : WD X K W (.BoolOp .Or [a] pos) ga := by
  obtain ⟨t, p, s⟩ := h.ex
  exact ⟨t, (fun i => pw_or1 (p i)), s⟩
theorem wd_and (h : TD X K W a ga) (h2 : WD X K W (.BoolOp .And (b :: rest) pos) gb) : WD X K W (.BoolOp .And (a :: b :: rest) pos) (mAnd ga gb) := by
  obtain ⟨t, p, s⟩ := h.ex
  obtain ⟨u, p2, s2⟩ := h2.ex
  refine ⟨tAnd t u, (fun i => pw_and (p i) (p2 i)), fun fr ρ σ H Q S q => ?_⟩
  refine s fr ρ σ H _ S ((QR.bind q).mono fun k ρ1 q1 H1 S1 => ?_)
  cases k with
  | true => rw [if_pos rfl] at q1 ⊢; exact s2 fr ρ1 σ H1 Q S1 q1
  | false => rw [if_neg Bool.false_ne_true] at q1 ⊢; exact q1 H1 S1
theorem wd_or (h : TD X K W a ga) (h2 : WD X K W (.BoolOp .Or (b :: rest) pos) gb) : WD X K W (.BoolOp .Or (a :: b :: rest) pos) (mOr ga gb) := by
  obtain ⟨t, p, s⟩ := h.ex
  obtain ⟨u, p2, s2⟩ := h2.ex
  refine ⟨tOr t u, (fun i => pw_or (p i) (p2 i)), fun fr ρ σ H Q S q => ?_⟩
  refine s fr ρ σ H _ S ((QR.bind q).mono fun k ρ1 q1 H1 S1 => ?_)
  cases k with
  | true => rw [if_pos rfl] at q1 ⊢; exact q1 H1 S1
  | false => rw [if_neg Bool.false_ne_true] at q1 ⊢; exact s2 fr ρ1 σ H1 Q S1 q1
theorem td_not (h : TD X K W a ga) : TD X K W (.UnaryOp .Not a pos) (mNot ga) := by
  obtain ⟨t, p, s⟩ := h.ex
  exact ⟨tNot t, (fun i => pt_not (p i)), fun fr ρ σ H Q S q => s fr ρ σ H _ S ((QR.bind q).mono fun k ρ1 q1 H1 S1 => q1 H1 S1)⟩
/-! as values -/
def eAnd (f g : M D) : M D := mbind f fun x => mbind (mlift (isB x)) fun b => if b = true then g else mret (.bl false)
def eOr (f g : M D) : M D := mbind f fun x => mbind (mlift (isB x)) fun b => if b = true then mret (.bl true) else g
def eNot (f : M D) : M D := mbind f fun x => mbind (mlift (isB x)) fun b => mret (.bl !b)
def eIf (c : M Bool) (f g : M D) : M D := mbind c fun b => if b = true then f else g
theorem ed_one {op} (h : ED X K W a fa) : ED X K W (.BoolOp op [a] pos) fa := by
  obtain ⟨t, p, s⟩ := h.ex
  exact ⟨t, (fun i => pe_one (p i)), s⟩
theorem isB_eq {d : D} {b : Bool} (h : isB d = some b) : d = .bl b := by
  cases d <;> simp [isB] at h
  rw [h]
theorem ed_and (h : ED X K W a fa) (h2 : ED X K W (.BoolOp .And (b :: rest) pos) fb) : ED X K W (.BoolOp .And (a :: b :: rest) pos) (eAnd fa fb) := by
  obtain ⟨t, p, s⟩ := h.ex
  obtain ⟨u, p2, s2⟩ := h2.ex
  refine ⟨tAndV t u, (fun i => pe_and (p i) (p2 i)), fun fr ρ σ H Q S q => ?_⟩
  refine s fr ρ σ H _ S ((QR.bind q).mono fun d ρ1 q1 v H1 S1 => ?_)
  obtain ⟨k, e, q2⟩ := QR.lift (QR.bind q1)
  have := isB_eq e
  subst this
  have := S1.topF rfl
  subst this
  refine ⟨k, rfl, ?_⟩
  cases k with
  | true => rw [if_pos rfl] at q2 ⊢; exact s2 fr ρ1 σ H1 Q S1.drop q2
  | false => rw [if_neg Bool.false_ne_true] at q2 ⊢; exact q2 _ H1 (S1.drop.pushF rfl)
theorem ed_or (h : ED X K W a fa) (h2 : ED X K W (.BoolOp .Or (b :: rest) pos) fb) : ED X K W (.BoolOp .Or (a :: b :: rest) pos) (eOr fa fb) := by
  obtain ⟨t, p, s⟩ := h.ex
  obtain ⟨u, p2, s2⟩ := h2.ex
  refine ⟨tOrV t u, (fun i => pe_or (p i) (p2 i)), fun fr ρ σ H Q S q => ?_⟩
  refine s fr ρ σ H _ S ((QR.bind q).mono fun d ρ1 q1 v H1 S1 => ?_)
  obtain ⟨k, e, q2⟩ := QR.lift (QR.bind q1)
  have := isB_eq e
  subst this
  have := S1.topF rfl
  subst this
  refine ⟨k, rfl, ?_⟩
  cases k with
  | true => rw [if_pos rfl] at q2 ⊢; exact q2 _ H1 (S1.drop.pushF rfl)
  | false => rw [if_neg Bool.false_ne_true] at q2 ⊢; exact s2 fr ρ1 σ H1 Q S1.drop q2
theorem ed_not (h : ED X K W a fa) : ED X K W (.UnaryOp .Not a pos) (eNot fa) := by
  obtain ⟨t, p, s⟩ := h.ex
  refine ⟨tNotV t, (fun i => pe_not (p i)), fun fr ρ σ H Q S q => ?_⟩
  refine s fr ρ σ H _ S ((QR.bind q).mono fun d ρ1 q1 v H1 S1 => ?_)
  obtain ⟨k, e, q2⟩ := QR.lift (QR.bind q1)
  have := isB_eq e
  subst this
  have := S1.topF rfl
  subst this
  exact ⟨k, rfl, q2 _ H1 (S1.drop.pushF rfl)⟩
theorem ed_if (hc : TD X K W c gc) (h : ED X K W a fa) (h2 : ED X K W b fb) : ED X K W (.IfExp c a b pos) (eIf gc fa fb) := by
  obtain ⟨tc, pc, sc⟩ := hc.ex
  obtain ⟨t, p, s⟩ := h.ex
  obtain ⟨u, p2, s2⟩ := h2.ex
  refine ⟨tIf tc t u, (fun i => pe_ifExp (pc i) (p i) (p2 i)), fun fr ρ σ H Q S q => ?_⟩
  refine sc fr ρ σ H _ S ((QR.bind q).mono fun k ρ1 q1 H1 S1 => ?_)
  cases k with
  | true => rw [if_pos rfl] at q1 ⊢; exact s fr ρ1 σ H1 Q S1 q1
  | false => rw [if_neg Bool.false_ne_true] at q1 ⊢; exact s2 fr ρ1 σ H1 Q S1 q1
/-! ### arguments -/
def aNil : M (List D) := mret []
def aCons (f : M D) (g : M (List D)) : M (List D) := mbind f fun d => mbind g fun ds => mret (d :: ds)
theorem ad_nil : AD X K W [] aNil := ⟨tNil, (fun _ => pa_nil), fun fr ρ σ H Q S q => q [] H rfl S⟩
theorem ad_cons {g : M (List D)} (h : ED X K W e f) (hr : AD X K W es g) (hs : ∀ i, starEach (e :: es) (X i).env = (false, eval e (X i).env) :: starEach es (X i).env := by intro _; rfl) : AD X K W (e :: es) (aCons f g) := by
  obtain ⟨t, p, s⟩ := h.ex
  obtain ⟨u, p2, s2⟩ := hr.ex
  refine ⟨tCons t u, (fun i => pa_cons (p i) (p2 i) (hs i)), fun fr ρ σ H Q S q => ?_⟩
  refine s fr ρ σ H _ S ((QR.bind q).mono fun d ρ1 q1 v H1 S1 => ?_)
  obtain ⟨fr', S', back⟩ := S1.hold
  refine s2 fr' ρ1 σ H1 _ S' (((QR.bind q1).frame fun ρ H s => (back ρ σ H s).drop).mono fun ds ρ2 q2 vs H2 hl S2 => ?_)
  exact q2 (v :: vs) H2 (by simp [hl]) (back _ _ H2 S2)
end
end DL

set_option Elab.async false
set_option linter.all false
set_option maxRecDepth 100000
set_option maxHeartbeats 4000000
namespace DL
open PySem PySem.Spec L2
variable {K : RC}
/-! ### sequences taken apart and made -/
theorem RepL.len {F H : Hp} : ∀ {ds : List D} {vs : List V} {A : List Addr}, RepL K F H ds vs A → vs.length = ds.length
  | [], vs, A, r => by rw [r.1]; rfl
  | d :: ds, vs, A, r => by
    obtain ⟨v, ws, B, C, rfl, rfl, r1, r2⟩ := r
    rw [List.length_cons, List.length_cons, r2.len]
theorem RepL.sl {F H : Hp} : ∀ {ds : List D} {vs : List V} {A : List Addr}, RepL K F H ds vs A → Sl K F H (ds.map some) (vs.map some) A
  | [], vs, A, r => by
    obtain ⟨rfl, rfl⟩ := r
    exact ⟨rfl, rfl⟩
  | d :: ds, vs, A, r => by
    obtain ⟨v, ws, B, C, rfl, rfl, r1, r2⟩ := r
    exact ⟨some v, ws.map some, B, C, rfl, rfl, ⟨v, rfl, r1⟩, r2.sl⟩
theorem Sl.repL {F H : Hp} : ∀ {ds : List D} {vs : List V} {A : List Addr}, Sl K F H (ds.map some) (vs.map some) A → RepL K F H ds vs A
  | [], vs, A, r => by
    obtain ⟨e, rfl⟩ := r
    cases vs with
    | nil => exact ⟨rfl, rfl⟩
    | cons v vs => cases e
  | d :: ds, vs, A, r => by
    obtain ⟨s, τ, B, C, e, rfl, ⟨v, rfl, r1⟩, r2⟩ := r
    cases vs with
    | nil => cases e
    | cons w vs =>
      have e : some w :: vs.map some = some v :: τ := e
      injection e with e1 e2
      injection e1 with e1
      subst e1 e2
      exact ⟨_, vs, B, C, rfl, rfl, r1, Sl.repL r2⟩
theorem RepL.app {F H : Hp} : ∀ {ds es : List D} {vs ws : List V} {A B : List Addr}, RepL K F H ds vs A → RepL K F H es ws B → RepL K F H (ds ++ es) (vs ++ ws) (A ++ B)
  | [], es, vs, ws, A, B, r, q => by
    obtain ⟨rfl, rfl⟩ := r
    exact q
  | d :: ds, es, vs, ws, A, B, r, q => by
    obtain ⟨v, us, B', C, rfl, rfl, r1, r2⟩ := r
    exact ⟨v, us ++ ws, B', C ++ B, rfl, by rw [List.append_assoc], r1, r2.app q⟩
section
variable {fr : Fr} {ρ : Env} {σ : L2.St} {H : Hp} {d : D} {v : V} {ds : List D} {vs : List V}
/-- the top data's own description -/
theorem Sim.top (S : Sim K fr (some d :: ρ) (some v :: σ) H) : ∃ F B, Rep K F H d v B ∧ (∀ a o, F a = some o → H a = some o) := by
  obtain ⟨A, S⟩ := S
  obtain ⟨s', τ, B, C, e, rfl, ⟨v', e1, r1⟩, r2⟩ := S.sl
  injection e with e2 e3
  subst e2
  cases e1
  exact ⟨_, B, r1, fun a o e => (hid_some.mp e).2⟩
/-- a list or tuple ahead, its items in its place -/
def items : D → Option (List D)
  | .tup ds => some ds
  | .lst _ ds => some ds
  | .scr ns => some (ns.map D.int)
  | _ => none
def isL : D → Bool
  | .lst _ _ => true
  | .scr _ => true
  | _ => false
theorem rep_ints {F H : Hp} : ∀ ns : List Int, RepL K F H (ns.map D.int) (ns.map V.int) []
  | [] => ⟨rfl, rfl⟩
  | n :: ns => ⟨.int n, ns.map V.int, [], [], rfl, rfl, ⟨rfl, rfl⟩, rep_ints ns⟩
theorem Sim.explode (S : Sim K fr (some d :: ρ) (some v :: σ) H) (e : items d = some ds) : ∃ p xs, v = .ref p ∧ xs.length = ds.length ∧ (if isL d = true then SqL K.K H p xs else SqT K.K H p xs) ∧
    ((∀ o es, d = .lst o es → H p = some (.lst xs)) ∧ Sim K fr (ds.map some ++ ρ) (xs.map some ++ σ) H) := by
  obtain ⟨A, S⟩ := S
  obtain ⟨s', τ, B, C, e0, rfl, ⟨v', e1, r1⟩, r2⟩ := S.sl
  injection e0 with e2 e3
  subst e2 e3
  cases e1
  have go : ∀ xs B', (∀ a ∈ B', a ∈ B) → B'.Nodup → RepL K (hid (B ++ C ++ fr.N) H) H ds xs B' → Sim K fr (ds.map some ++ ρ) (xs.map some ++ σ) H := fun xs B' hs hn r => by
    have nd := List.nodup_append.mp S.nd
    have sub : ∀ a ∈ B' ++ C, a ∈ B ++ C ∨ H a = none := fun a z => .inl (by
      rcases List.mem_append.mp z with z | z
      · exact List.mem_append_left _ (hs a z)
      · exact List.mem_append_right _ z)
    have f := S.fro sub (H' := H) fun a o _ e => e
    refine ⟨B' ++ C, S.next sub (List.nodup_append.mpr ⟨hn, nd.2.1, fun a ha b hb => nd.2.2 a (hs a ha) b hb⟩) (fun a o _ e => e) (Sl.app (r.sl.mono f fun a _ o e => e) (r2.mono f fun a _ o e => e))⟩
  have hH : ∀ a o, hid (B ++ C ++ fr.N) H a = some o → H a = some o := fun a o e => (hid_some.mp e).2
  cases d with
  | tup es =>
    cases e
    obtain ⟨rfl, a, xs, rfl, s, r⟩ := r1
    exact ⟨a, xs, rfl, r.len, SqT.mono hH (SqT.of s), (fun _ _ z => nomatch z), go xs [] (fun _ z => nomatch z) .nil r⟩
  | lst o es =>
    cases e
    cases o with
    | false =>
      obtain ⟨rfl, a, xs, rfl, s, r⟩ := r1
      exact ⟨a, xs, rfl, r.len, SqL.of (hH _ _ s), (fun _ _ _ => hH _ _ s), go xs [] (fun _ z => nomatch z) .nil r⟩
    | true =>
      obtain ⟨a, xs, B1, rfl, rfl, s, r⟩ := r1
      exact ⟨a, xs, rfl, r.len, SqL.of s, (fun _ _ _ => s), go xs B1 (fun b z => List.mem_cons_of_mem _ z) (List.nodup_append.mp S.nd).1.of_cons r⟩
  | scr ns =>
    cases e
    obtain ⟨rfl, a, rfl, s⟩ := r1
    exact ⟨a, _, rfl, by simp, SqL.mono hH s, (fun _ _ z => nomatch z), go _ [] (fun _ z => nomatch z) .nil (rep_ints ns)⟩
  | _ => cases e
theorem isTrueOf : True := trivial
theorem nodup_cons_fresh {A : List Addr} {p : Addr} {H : Hp} (nd : A.Nodup) (hp : H p = none) (tr : ∀ a ∈ A, ∃ o, H a = some o) : (p :: A).Nodup :=
  List.nodup_cons.mpr ⟨(fun z => by obtain ⟨o, e⟩ := tr p z; rw [hp] at e; cases e), nd⟩
/-- a new object of the items that lie ahead: a list of one's own -/
theorem Sim.newL {p : Addr} (S : Sim K fr (ds.map some ++ ρ) (vs.map some ++ σ) H) (hl : vs.length = ds.length) (hp : H p = none) : Sim K fr (some (.lst true ds) :: ρ) (some (.ref p) :: σ) (upd H p (.lst vs)) := by
  obtain ⟨A, S⟩ := S
  obtain ⟨A1, A2, rfl, q1, q2⟩ := Sl.cut (by simpa using hl) S.sl
  have tr := S.sl.tr
  have sub : ∀ a ∈ p :: (A1 ++ A2), a ∈ A1 ++ A2 ∨ H a = none := fun a z => by
    rcases List.mem_cons.mp z with z | z
    · subst z; exact .inr hp
    · exact .inl z
  have kp : ∀ a o, H a = some o → upd H p (.lst vs) a = some o := fun a o e => by rw [upd_ne (ne_of_none e hp)]; exact e
  have f := S.fro sub (H' := upd H p (.lst vs)) fun a o _ e => kp a o e
  exact ⟨p :: (A1 ++ A2), S.next sub (nodup_cons_fresh S.nd hp tr) (fun a o _ e => kp a o e) ⟨some (.ref p), σ, p :: A1, A2, rfl, rfl, ⟨.ref p, rfl, p, vs, A1, rfl, rfl, upd_same, (q1.repL).mono f _ _ _ fun a _ o e => kp a o e⟩, q2.mono f fun a _ o e => kp a o e⟩⟩
/-- a tuple: its items are frozen -/
theorem Sim.newT {p : Addr} (S : Sim K fr (ds.map some ++ ρ) (vs.map some ++ σ) H) (hl : vs.length = ds.length) (hp : H p = none) : Sim K fr (some (.tup (frzL ds)) :: ρ) (some (.ref p) :: σ) (upd H p (.tup vs)) := by
  obtain ⟨A, S⟩ := S
  obtain ⟨A1, A2, rfl, q1, q2⟩ := Sl.cut (by simpa using hl) S.sl
  have nd := List.nodup_append.mp S.nd
  have sub : ∀ a ∈ A2, a ∈ A1 ++ A2 ∨ H a = none := fun a z => .inl (List.mem_append_right _ z)
  have kp : ∀ a o, H a = some o → upd H p (.tup vs) a = some o := fun a o e => by rw [upd_ne (ne_of_none e hp)]; exact e
  have f := S.fro sub (H' := upd H p (.tup vs)) fun a o _ e => kp a o e
  have nin : ∀ a, a ∉ A2 → a ∉ fr.N → a ∉ A2 ++ fr.N := fun a h1 h2 z => (List.mem_append.mp z).elim h1 h2
  have r : RepL K (hid (A2 ++ fr.N) (upd H p (.tup vs))) H (frzL ds) vs [] := RepL.frz f ds vs A1 (fun a z o e => hid_some.mpr ⟨nin a (fun w => nd.2.2 a z a w rfl) (S.off a (List.mem_append_left _ z)).1, kp a o e⟩) q1.repL
  have pN : p ∉ A2 ++ fr.N := nin p (fun z => by obtain ⟨o, e⟩ := q2.tr p z; rw [hp] at e; cases e) fun z => by obtain ⟨o, e, _⟩ := S.tr p z; rw [S.keep p o e] at hp; cases hp
  exact ⟨A2, S.next sub nd.2.1 (fun a o _ e => kp a o e) ⟨some (.ref p), σ, [], A2, rfl, rfl, ⟨.ref p, rfl, rfl, p, vs, rfl, hid_some.mpr ⟨pN, upd_same⟩, RepL.mono (fun _ _ e => e) _ _ _ (fun _ z => nomatch z) r⟩, q2.mono f fun a _ o e => kp a o e⟩⟩
/-- the visible part of a frame -/
def VF (fr : Fr) : Hp := hid fr.N fr.G
theorem SimA.vf {A : List Addr} (S : SimA K fr ρ σ H A) : ∀ a o, VF fr a = some o → hid (A ++ fr.N) H a = some o := fun a o e => by
  obtain ⟨n, e⟩ := hid_some.mp e
  refine hid_some.mpr ⟨fun z => ?_, S.keep a o e⟩
  rcases List.mem_append.mp z with z | z
  · rw [(S.off a z).2] at e; cases e
  · exact n z
theorem Sim.vfH (S : Sim K fr ρ σ H) : ∀ a o, VF fr a = some o → H a = some o := fun a o e => let ⟨_, S⟩ := S; S.keep a o (hid_some.mp e).2
/-- what stands in the visible part is at hand -/
theorem Sim.pushG {H0 : Hp} (S : Sim K fr ρ σ H) (r : Rep K (VF fr) H0 d v []) : Sim K fr (some d :: ρ) (some v :: σ) H := by
  obtain ⟨A, S⟩ := S
  exact ⟨A, S.next (fun a z => .inl z) S.nd (fun a o _ e => e) ⟨some v, σ, [], A, rfl, rfl, ⟨v, rfl, Rep.mono S.vf d v [] (fun _ z => nomatch z) r⟩, S.sl⟩⟩
/-- a frozen thing held aside stands in the visible part -/
theorem Sim.holdF (S : Sim K fr (some d :: ρ) (some v :: σ) H) (hf : fro d = true) : ∃ fr', Sim K fr' ρ σ H ∧ Rep K (VF fr') H d v [] ∧ ∀ ρ' σ' H', Sim K fr' ρ' σ' H' → Sim K fr ρ' σ' H' := by
  obtain ⟨A, S⟩ := S
  obtain ⟨s', τ, B, C, e0, rfl, ⟨v', e1, r1⟩, r2⟩ := S.sl
  injection e0 with e2 e3
  subst e2 e3
  cases e1
  have := fro_rep hf r1
  subst this
  have T : SimA K fr ρ σ H C := ⟨r2, S.nd, S.off, S.keep, S.tr⟩
  refine ⟨⟨hid C H, fr.N⟩, ⟨C, r2, S.nd, fun a z => ⟨(S.off a z).1, by show hid C H a = none; unfold hid; rw [if_pos z]⟩, fun a o e => (hid_some.mp e).2, fun a z => ?_⟩, ?_, ?_⟩
  · obtain ⟨o, e, nt⟩ := S.tr a z
    exact ⟨o, hid_some.mpr ⟨fun w => (S.off a w).1 z, S.keep a o e⟩, nt⟩
  · refine Rep.mono (fun a o e => ?_) d _ [] (fun _ z => nomatch z) r1
    obtain ⟨n, e⟩ := hid_some.mp e
    exact hid_some.mpr ⟨fun z => n (List.mem_append_right _ z), hid_some.mpr ⟨fun z => n (List.mem_append_left _ z), e⟩⟩
  · rintro ρ' σ' H' ⟨A', U⟩
    refine ⟨A', U.sl, U.nd, fun a z => ⟨(U.off a z).1, ?_⟩, fun a o e => ?_, S.tr⟩
    · cases g : fr.G a with
      | none => rfl
      | some o =>
        have q : hid C H a = none := (U.off a z).2
        have nC : a ∉ C := fun w => by rw [(S.off a w).2] at g; cases g
        rw [show hid C H a = some o from hid_some.mpr ⟨nC, S.keep a o g⟩] at q
        cases q
    · have nC : a ∉ C := fun w => by rw [(S.off a w).2] at e; cases e
      exact U.keep a o (hid_some.mpr ⟨nC, S.keep a o e⟩)
end
/-! ### statements -/
inductive RS where
  | nx (ρ : Env)
  | ret (d : D) (ρ : Env)
  | brk (ρ : Env)
  | cnt (ρ : Env)
  | exc (c : Str) (fs : List (Str × D)) (ρ : Env)
  | stuck
abbrev SF := Env → RS
def KeepS (pr : List Nat) (σ0 σ : L2.St) : Prop := ∀ j ∈ pr, σ[j]? = σ0[j]?
theorem KeepS.refl {pr : List Nat} {σ : L2.St} : KeepS pr σ σ := fun _ _ => rfl
theorem KeepS.trans {pr : List Nat} {σ0 σ1 σ2 : L2.St} (a : KeepS pr σ0 σ1) (b : KeepS pr σ1 σ2) : KeepS pr σ0 σ2 := fun j h => (b j h).trans (a j h)
theorem KeepS.set {pr : List Nat} {σ : L2.St} {i : Nat} {s : Option V} (h : i ∉ pr) : KeepS pr σ (σ.set i s) := fun j hj => by
  rw [List.getElem?_set_ne]
  intro e
  subst e
  exact h hj
def QS (K : RC) (W : WX) (pr : List Nat) (fr : Fr) (σ0 : L2.St) (r : RS) (Dn : Ends) : Prop := match r with
  | .nx ρ => ∀ σ H, KeepS pr σ0 σ → Sim K fr ρ σ H → Dn.nx σ H
  | .ret d ρ => ∀ v σ H, KeepS pr σ0 σ → Sim K fr (some d :: ρ) (some v :: σ) H → Dn.rt v H
  | .brk ρ => ∀ σ H, KeepS pr σ0 σ → Sim K fr ρ σ H → Dn.bk σ H
  | .cnt ρ => ∀ σ H, KeepS pr σ0 σ → Sim K fr ρ σ H → Dn.ct σ H
  | .exc c fs ρ => ∀ cls dd σ H, KeepS pr σ0 σ → ExcR K.mg c fs cls dd H → Sim K fr ρ σ H → W cls dd σ H
  | .stuck => False
structure SD {ι : Type} (X : ι → Cx) (K : RC) (W : WX) (pr : List Nat) (st : Stmt) (F : SF) : Prop where
  ex : ∃ t, (∀ i, PS (X i) st t) ∧ ∀ fr ρ σ H Dn, Sim K fr ρ σ H → QS K W pr fr σ (F ρ) Dn → t Dn σ H
structure SDs {ι : Type} (X : ι → Cx) (K : RC) (W : WX) (pr : List Nat) (sts : List Stmt) (F : SF) : Prop where
  ex : ∃ t, (∀ i, PSs (X i) sts t) ∧ ∀ fr ρ σ H Dn, Sim K fr ρ σ H → QS K W pr fr σ (F ρ) Dn → t Dn σ H
/-- later entry: what is kept from there is kept from here -/
theorem QS.from {K : RC} {W : WX} {pr : List Nat} {fr : Fr} {σ0 σ : L2.St} {r : RS} {Dn : Ends} (k : KeepS pr σ0 σ) (q : QS K W pr fr σ0 r Dn) : QS K W pr fr σ r Dn := by
  cases r with
  | nx ρ => exact fun σ' H k' s => q σ' H (k.trans k') s
  | ret d ρ => exact fun v σ' H k' s => q v σ' H (k.trans k') s
  | brk ρ => exact fun σ' H k' s => q σ' H (k.trans k') s
  | cnt ρ => exact fun σ' H k' s => q σ' H (k.trans k') s
  | exc c fs ρ => exact fun cls dd σ' H k' x s => q cls dd σ' H (k.trans k') x s
  | stuck => exact q
theorem QS.frame {K : RC} {W : WX} {pr : List Nat} {fr fr' : Fr} {σ0 : L2.St} {r : RS} {Dn : Ends} (q : QS K W pr fr σ0 r Dn) (k : ∀ ρ σ H, Sim K fr' ρ σ H → Sim K fr ρ σ H) : QS K W pr fr' σ0 r Dn := by
  cases r with
  | nx ρ => exact fun σ' H k' s => q σ' H k' (k _ _ _ s)
  | ret d ρ => exact fun v σ' H k' s => q v σ' H k' (k _ _ _ s)
  | brk ρ => exact fun σ' H k' s => q σ' H k' (k _ _ _ s)
  | cnt ρ => exact fun σ' H k' s => q σ' H k' (k _ _ _ s)
  | exc c fs ρ => exact fun cls dd σ' H k' x s => q cls dd σ' H k' x (k _ _ _ s)
  | stuck => exact q
/-- an expression, then a statement's rest -/
def sE {α : Type} (m : M α) (f : α → SF) : SF := fun ρ => match m ρ with
  | .ok a ρ' => f a ρ'
  | .exc c fs ρ' => .exc c fs ρ'
  | .stuck => .stuck
theorem QS.ofE {α : Type} {K : RC} {W : WX} {pr : List Nat} {fr : Fr} {σ : L2.St} {m : M α} {f : α → SF} {ρ : Env} {Dn : Ends} (q : QS K W pr fr σ (sE m f ρ) Dn) : QR K W fr σ (m ρ) fun a ρ' => QS K W pr fr σ (f a ρ') Dn := by
  unfold sE at q
  cases e : m ρ with
  | ok a ρ' => rw [e] at q; exact q
  | exc c fs ρ' => rw [e] at q; exact fun cls dd H x s => q cls dd σ H .refl x s
  | stuck => rw [e] at q; exact q
def sNext : SF := fun ρ => .nx ρ
def sSeq (f g : SF) : SF := fun ρ => match f ρ with
  | .nx ρ' => g ρ'
  | r => r
def sIf (c : M Bool) (f g : SF) : SF := sE c fun b => if b = true then f else g
def sRet (f : M D) : SF := sE f fun d ρ => .ret d ρ
def sRetN : SF := fun ρ => .ret .non ρ
def sDrop (f : M D) : SF := sE f fun _ ρ => .nx ρ
def sBrk : SF := fun ρ => .brk ρ
def sCnt : SF := fun ρ => .cnt ρ
section
variable {ι : Type} {X : ι → Cx} {K : RC} {W : WX} {pr : List Nat} {st : Stmt} {sts : List Stmt} {F G : SF} {e : Expr} {f : M D} {pos : Pos}
theorem ss_nil : SDs X K W pr [] sNext := ⟨tNext, (fun _ => pss_nil), fun fr ρ σ H Dn S q => q σ H .refl S⟩
theorem ss_one (h : SD X K W pr st F) : SDs X K W pr [st] F := by
  obtain ⟨t, p, s⟩ := h.ex
  exact ⟨t, (fun i => pss_one (p i)), s⟩
theorem ss_cons (h : SD X K W pr st F) (h2 : SDs X K W pr sts G) : SDs X K W pr (st :: sts) (sSeq F G) := by
  obtain ⟨t, p, s⟩ := h.ex
  obtain ⟨u, p2, s2⟩ := h2.ex
  refine ⟨tSeq t u, (fun i => pss_cons (p i) (p2 i)), fun fr ρ σ H Dn S q => s fr ρ σ H _ S ?_⟩
  unfold sSeq at q
  cases e : F ρ with
  | nx ρ' =>
    rw [e] at q
    exact fun σ' H' k S' => s2 fr ρ' σ' H' Dn S' (q.from k)
  | ret d ρ' => rw [e] at q; exact q
  | brk ρ' => rw [e] at q; exact q
  | cnt ρ' => rw [e] at q; exact q
  | exc c fs ρ' => rw [e] at q; exact q
  | stuck => rw [e] at q; exact q
theorem sd_pass : SD X K W pr (.Pass pos) sNext := ⟨tNext, (fun _ => ps_pass), fun fr ρ σ H Dn S q => q σ H .refl S⟩
theorem sd_brk : SD X K W pr (.Break pos) sBrk := ⟨tBreak, (fun _ => ps_break), fun fr ρ σ H Dn S q => q σ H .refl S⟩
theorem sd_cnt : SD X K W pr (.Continue pos) sCnt := ⟨tCont, (fun _ => ps_continue), fun fr ρ σ H Dn S q => q σ H .refl S⟩
theorem sd_doc {x j pos'} : SD X K W pr (.Expr (.Constant (.str x) j pos) pos') sNext := ⟨tNext, (fun _ => ps_doc), fun fr ρ σ H Dn S q => q σ H .refl S⟩
theorem sd_expr (h : ED X K W e f) (hs : ∀ i, swapsWith e none pos.line (X i).env = pure false := by intro _; rfl) : SD X K W pr (.Expr e pos) (sDrop f) := by
  obtain ⟨t, p, s⟩ := h.ex
  exact ⟨tDrop t, (fun i => ps_expr (p i) (hs i)), fun fr ρ σ H Dn S q => s fr ρ σ H _ S (q.ofE.mono fun d ρ' q' v H' S' => q' σ H' .refl S'.drop)⟩
theorem sd_ret (h : ED X K W e f) : SD X K W pr (.Return (some e) pos) (sRet f) := by
  obtain ⟨t, p, s⟩ := h.ex
  exact ⟨tRet t, (fun i => ps_ret (p i)), fun fr ρ σ H Dn S q => s fr ρ σ H _ S (q.ofE.mono fun d ρ' q' v H' S' => q' v σ H' .refl S')⟩
theorem sd_retN : SD X K W pr (.Return none pos) sRetN := ⟨tRetN, (fun _ => ps_retN), fun fr ρ σ H Dn S q => q .non σ H .refl (S.pushF rfl)⟩
theorem sd_if {c : Expr} {gc : M Bool} {a b : List Stmt} (hc : TD X K W c gc) (h : SDs X K W pr a F) (h2 : SDs X K W pr b G) : SD X K W pr (.If c a b pos) (sIf gc F G) := by
  obtain ⟨tc, pc, sc⟩ := hc.ex
  obtain ⟨t, p, s⟩ := h.ex
  obtain ⟨u, p2, s2⟩ := h2.ex
  refine ⟨tIfS tc t u, (fun i => ps_if (pc i) (p i) (p2 i)), fun fr ρ σ H Dn S q => sc fr ρ σ H _ S (q.ofE.mono fun k ρ1 q1 H1 S1 => ?_)⟩
  cases k with
  | true => rw [if_pos rfl] at q1 ⊢; exact s fr ρ1 σ H1 Dn S1 q1
  | false => rw [if_neg Bool.false_ne_true] at q1 ⊢; exact s2 fr ρ1 σ H1 Dn S1 q1
/-! targets: what is to be stored lies ahead -/
structure GD {ι : Type} (X : ι → Cx) (K : RC) (pr : List Nat) (tg : Expr) (g : D → Env → Option Env) : Prop where
  ex : ∃ t, (∀ i, PG (X i) tg t) ∧ ∀ fr ρ σ H d v ρ' Q, Sim K fr (some d :: ρ) (some v :: σ) H → g d ρ = some ρ' → (∀ σ' H', KeepS pr σ σ' → Sim K fr ρ' σ' H' → Q σ' H') → t v σ H Q
  len : ∀ d ρ ρ', g d ρ = some ρ' → ρ'.length = ρ.length
def gSet (i : Nat) : D → Env → Option Env := fun d ρ => if i < ρ.length then some (ρ.set i (some d)) else none
theorem gd_name {i : Nat} {x : Str} (h : ∀ j, PG (X j) (.Name x pos) (gName i)) (hp : i ∉ pr := by decide) : GD X K pr (.Name x pos) (gSet i) := ⟨⟨gName i, h, fun fr ρ σ H d v ρ' Q S e q => by
  unfold gSet at e
  by_cases hi : i < ρ.length
  · rw [if_pos hi] at e
    cases e
    exact q _ H (KeepS.set hp) (S.store hi)
  · rw [if_neg hi] at e
    cases e⟩, fun d ρ ρ' e => by
  unfold gSet at e
  by_cases hi : i < ρ.length
  · rw [if_pos hi] at e
    cases e
    exact List.length_set
  · rw [if_neg hi] at e
    cases e⟩
/-- several -/
structure GDs {ι : Type} (X : ι → Cx) (K : RC) (pr : List Nat) (tgs : List Expr) (g : List D → Env → Option Env) : Prop where
  ex : ∃ t, (∀ i, PGs (X i) tgs t) ∧ ∀ fr ρ σ H ds vs ρ' Q, vs.length = ds.length → Sim K fr (ds.map some ++ ρ) (vs.map some ++ σ) H → g ds ρ = some ρ' → (∀ σ' H', KeepS pr σ σ' → Sim K fr ρ' σ' H' → Q σ' H') → t vs σ H Q
  len : ∀ ds ρ ρ', g ds ρ = some ρ' → ρ'.length = ρ.length
def gsNil : List D → Env → Option Env := fun ds ρ => if ds.isEmpty = true then some ρ else none
def gsCons (g : D → Env → Option Env) (r : List D → Env → Option Env) : List D → Env → Option Env := fun ds ρ => match ds with
  | [] => none
  | d :: ds => (g d ρ).bind fun ρ' => r ds ρ'
theorem gds_nil : GDs X K pr [] gsNil := ⟨⟨gNil, (fun _ => pgs_nil), fun fr ρ σ H ds vs ρ' Q hl S e q => by
  cases ds with
  | nil =>
    cases vs with
    | nil =>
      cases e
      exact ⟨rfl, q σ H .refl S⟩
    | cons v vs => cases hl
  | cons d ds => cases e⟩, fun ds ρ ρ' e => by
  cases ds with
  | nil => cases e; rfl
  | cons d ds => cases e⟩
theorem gds_cons {tg : Expr} {tgs : List Expr} {g : D → Env → Option Env} {r : List D → Env → Option Env} (h : GD X K pr tg g) (h2 : GDs X K pr tgs r) (hs : ∀ i, (assignEach (tg :: tgs) (X i).env).map (·.2) = assign tg (X i).env :: (assignEach tgs (X i).env).map (·.2) := by intro _; rfl) : GDs X K pr (tg :: tgs) (gsCons g r) := by
  obtain ⟨t, p, s⟩ := h.ex
  obtain ⟨u, p2, s2⟩ := h2.ex
  refine ⟨⟨gCons t u, (fun i => pgs_cons (p i) (p2 i) (hs i)), fun fr ρ σ H ds vs ρ' Q hl S e q => ?_⟩, fun ds ρ ρ' e => ?_⟩
  rotate_left
  · cases ds with
    | nil => cases e
    | cons d ds =>
      unfold gsCons at e
      cases e1 : g d ρ with
      | none => simp [e1] at e
      | some ρ1 =>
        simp [e1] at e
        rw [h2.len _ _ _ e, h.len _ _ _ e1]
  cases ds with
  | nil => cases e
  | cons d ds =>
    cases vs with
    | nil => cases hl
    | cons v vs =>
      refine ⟨v, vs, rfl, ?_⟩
      have hl' : vs.length = ds.length := by simpa using hl
      unfold gsCons at e
      cases e1 : g d ρ with
      | none => simp [e1] at e
      | some ρ1 =>
        simp [e1] at e
        -- d stays, the others are held
        have S' : Sim K fr ([some d] ++ (ds.map some ++ ρ)) ([some v] ++ (vs.map some ++ σ)) H := S
        have S1 := Sim.swap (ρ1 := [some d]) (σ1 := [some v]) rfl S'
        rw [List.append_assoc, List.append_assoc] at S1
        obtain ⟨fr', S2, back⟩ := Sim.holdN (by simpa using hl') S1
        have S3 := Sim.swap (ρ1 := ρ) (ρ2 := [some d]) (by have := S2.len; simpa using this) S2
        refine s fr' ρ σ H d v ρ1 _ S3 e1 fun σ1 H1 k1 S4 => ?_
        have S5 := back _ _ _ S4
        exact s2 fr ρ1 σ1 H1 ds vs ρ' Q hl' S5 e fun σ2 H2 k2 S6 => q σ2 H2 (k1.trans k2) S6
def gTupD (n : Nat) (r : List D → Env → Option Env) : D → Env → Option Env := fun d ρ => match d with
  | .tup ds => if ds.length = n then r ds ρ else none
  | _ => none
theorem gd_tup {tgs : List Expr} {k : Nat} {r : List D → Env → Option Env} {t : TGs} {n : Nat} (hp : ∀ i t, PGs (X i) tgs t → PG (X i) (.Tuple tgs k pos) (gTup K.K n t)) (h : GDs X K pr tgs r) : GD X K pr (.Tuple tgs k pos) (gTupD n r) := by
  obtain ⟨u, p, s⟩ := h.ex
  refine ⟨⟨gTup K.K n u, (fun i => hp i u (p i)), fun fr ρ σ H d v ρ' Q S e q => ?_⟩, fun d ρ ρ' e => ?_⟩
  rotate_left
  · cases d with
    | tup ds =>
      unfold gTupD at e
      by_cases hn : ds.length = n
      · simp [hn] at e
        exact h.len _ _ _ e
      · simp [hn] at e
    | _ => cases e
  cases d with
  | tup ds =>
    unfold gTupD at e
    by_cases hn : ds.length = n
    · simp [hn] at e
      obtain ⟨a, xs, rfl, hl, ht, _, S1⟩ := S.explode (ds := ds) rfl
      exact ⟨a, xs, rfl, ht, by rw [hl, hn], s fr ρ σ H ds xs ρ' Q hl S1 e q⟩
    · simp [hn] at e
  | _ => cases e
def sAsg (f : M D) (g : D → Env → Option Env) : SF := sE f fun d ρ => match g d ρ with
  | some ρ' => .nx ρ'
  | none => .stuck
theorem sd_asg {tg : Expr} {g : D → Env → Option Env} (hp : ∀ i te tg', PE (X i) e te → PG (X i) tg tg' → PS (X i) (.Assign [tg] e pos) (tAsg te tg')) (h : ED X K W e f) (hg : GD X K pr tg g) : SD X K W pr (.Assign [tg] e pos) (sAsg f g) := by
  obtain ⟨t, p, s⟩ := h.ex
  obtain ⟨u, p2, s2⟩ := hg.ex
  refine ⟨tAsg t u, (fun i => hp i t u (p i) (p2 i)), fun fr ρ σ H Dn S q => s fr ρ σ H _ S (q.ofE.mono fun d ρ1 q1 v H1 S1 => ?_)⟩
  cases e1 : g d ρ1 with
  | none => rw [e1] at q1; exact q1.elim
  | some ρ2 =>
    rw [e1] at q1
    exact s2 fr ρ1 σ H1 d v ρ2 _ S1 e1 q1
/-- the variable in a slot is frozen from here on (nothing runs) -/
def frzAt (i : Nat) (ρ : Env) : Env := match ρ[i]? with
  | some (some d) => ρ.set i (some (frz d))
  | _ => ρ
def sFrz (i : Nat) (F : SF) : SF := fun ρ => F (frzAt i ρ)
theorem set_set_ {α : Type} : ∀ {l : List α} {i : Nat} {x y : α}, (l.set i x).set i y = l.set i y
  | [], _, _, _ => rfl
  | a :: l, 0, x, y => rfl
  | a :: l, i + 1, x, y => by
    show a :: (l.set i x).set i y = a :: l.set i y
    rw [set_set_]
theorem Sim.frzAt {K : RC} {fr : Fr} {ρ : Env} {σ : L2.St} {H : Hp} {i : Nat} (S : Sim K fr ρ σ H) : Sim K fr (DL.frzAt i ρ) σ H := by
  unfold DL.frzAt
  cases e : ρ[i]? with
  | none => exact S
  | some o => cases o with
    | none => exact S
    | some d =>
      obtain ⟨v, e1, S1⟩ := S.move e
      have z := S1.frz.back e1
      rw [set_set_] at z
      exact z
theorem ss_frz {i : Nat} (h : SDs X K W pr sts F) : SDs X K W pr sts (sFrz i F) := by
  obtain ⟨t, p, s⟩ := h.ex
  exact ⟨t, p, fun fr ρ σ H Dn S q => s fr (frzAt i ρ) σ H Dn S.frzAt q⟩
end
end DL

set_option Elab.async false
set_option linter.all false
set_option maxRecDepth 100000
set_option maxHeartbeats 4000000
namespace DL
open PySem PySem.Spec L2
/-! ### while -/
def whileN (c : M Bool) (b : SF) : Nat → SF
  | 0 => fun _ => .stuck
  | n + 1 => sE c fun k => if k = true then (fun ρ => match b ρ with
      | .nx ρ' => whileN c b n ρ'
      | .cnt ρ' => whileN c b n ρ'
      | .brk ρ' => .nx ρ'
      | r => r) else sNext
open Classical in
noncomputable def sWhile (c : M Bool) (b : SF) : SF := fun ρ => if h : ∃ n, whileN c b n ρ ≠ .stuck then whileN c b h.choose ρ else .stuck
theorem whileN_mono (c : M Bool) (b : SF) : ∀ (n m : Nat) (ρ : Env), n ≤ m → whileN c b n ρ ≠ .stuck → whileN c b m ρ = whileN c b n ρ
  | 0, _, _, _, h => absurd rfl h
  | n + 1, 0, _, hm, _ => absurd hm (by omega)
  | n + 1, m + 1, ρ, hm, h => by
    unfold whileN sE at h ⊢
    cases e : c ρ with
    | stuck => rfl
    | exc x y z => rfl
    | ok k ρ1 =>
      rw [e] at h
      simp only at h ⊢
      cases k with
      | false => rfl
      | true =>
        rw [if_pos rfl] at h ⊢
        rw [if_pos rfl]
        cases e2 : b ρ1 with
        | nx ρ2 => rw [e2] at h; exact whileN_mono c b n m ρ2 (by omega) h
        | cnt ρ2 => rw [e2] at h; exact whileN_mono c b n m ρ2 (by omega) h
        | _ => rfl
theorem sWhile_of {c : M Bool} {b : SF} {n : Nat} {ρ : Env} {r : RS} (h : whileN c b n ρ = r) (hr : r ≠ .stuck) : sWhile c b ρ = r := by
  have ex : ∃ n, whileN c b n ρ ≠ .stuck := ⟨n, by rw [h]; exact hr⟩
  unfold sWhile
  rw [dif_pos ex]
  have h1 := ex.choose_spec
  rcases Nat.le_total n ex.choose with q | q
  · rw [whileN_mono c b n _ ρ q (by rw [h]; exact hr), h]
  · rw [← whileN_mono c b _ n ρ q h1, h]
theorem sWhile_eq (c : M Bool) (b : SF) (ρ : Env) : sWhile c b ρ = sE c (fun k => if k = true then (fun ρ => match b ρ with
      | .nx ρ' => sWhile c b ρ'
      | .cnt ρ' => sWhile c b ρ'
      | .brk ρ' => .nx ρ'
      | r => r) else sNext) ρ := by
  unfold sE
  have one : ∀ n, whileN c b (n + 1) ρ = sE c (fun k => if k = true then (fun ρ => match b ρ with
      | .nx ρ' => whileN c b n ρ'
      | .cnt ρ' => whileN c b n ρ'
      | .brk ρ' => .nx ρ'
      | r => r) else sNext) ρ := fun n => rfl
  have stuckOf : ∀ ρ', (∀ n, whileN c b n ρ' = .stuck) → sWhile c b ρ' = .stuck := fun ρ' hs => by
    unfold sWhile
    rw [dif_neg]
    rintro ⟨n, h⟩
    exact h (hs n)
  have tail : ∀ ρ2, (∀ n, whileN c b (n + 1) ρ = whileN c b n ρ2) → sWhile c b ρ = sWhile c b ρ2 := fun ρ2 hs => by
    by_cases h : ∃ n, whileN c b n ρ2 ≠ .stuck
    · obtain ⟨n, h⟩ := h
      rw [sWhile_of rfl h, sWhile_of (hs n) h]
    · have h2 : ∀ n, whileN c b n ρ2 = .stuck := fun n => Classical.byContradiction fun q => h ⟨n, q⟩
      rw [stuckOf ρ2 h2]
      refine stuckOf ρ fun n => ?_
      cases n with
      | zero => rfl
      | succ n => rw [hs n, h2 n]
  have done : ∀ r, whileN c b 1 ρ = r → r ≠ .stuck → sWhile c b ρ = r := fun r h hr => sWhile_of h hr
  cases e : c ρ with
  | stuck =>
    refine stuckOf ρ fun n => ?_
    cases n with
    | zero => rfl
    | succ n => rw [one n]; unfold sE; rw [e]
  | exc x y z =>
    refine done _ ?_ (fun q => nomatch q)
    rw [one 0]; unfold sE; rw [e]
  | ok k ρ1 =>
    cases k with
    | false =>
      refine done _ ?_ (fun q => nomatch q)
      rw [one 0]; unfold sE; rw [e]; rfl
    | true =>
      simp only [if_true]
      have u : ∀ n, whileN c b (n + 1) ρ = (match b ρ1 with
        | .nx ρ' => whileN c b n ρ'
        | .cnt ρ' => whileN c b n ρ'
        | .brk ρ' => .nx ρ'
        | r => r) := fun n => by rw [one n]; unfold sE; rw [e]; rfl
      cases e2 : b ρ1 with
      | nx ρ2 => exact tail ρ2 fun n => by rw [u n, e2]
      | cnt ρ2 => exact tail ρ2 fun n => by rw [u n, e2]
      | brk ρ2 => exact done _ (by rw [u 0, e2]) (fun q => nomatch q)
      | ret d ρ2 => exact done _ (by rw [u 0, e2]) (fun q => nomatch q)
      | exc x y z => exact done _ (by rw [u 0, e2]) (fun q => nomatch q)
      | stuck =>
        refine stuckOf ρ fun n => ?_
        cases n with
        | zero => rfl
        | succ n => rw [u n, e2]
section
variable {ι : Type} {X : ι → Cx} {K : RC} {W : WX} {pr : List Nat} {F G : SF} {e : Expr} {f : M D} {pos : Pos}
theorem sd_while {c : Expr} {gc : M Bool} {body : List Stmt} (hp : ∀ i, PassesOwn (model (X i).prog (X i).w) (X i).A (X i).env (X i).xe) (hc : TD X K W c gc) (hb : SDs X K W pr body F) : SD X K W pr (.While c body [] pos) (sWhile gc F) := by
  obtain ⟨tc, pc, sc⟩ := hc.ex
  obtain ⟨t, p, s⟩ := hb.ex
  refine ⟨tWhile tc t, (fun i => ps_while (hp i) (pc i) (p i)), fun fr ρ σ H Dn S q => ?_⟩
  have ex : ∃ n, QS K W pr fr σ (whileN gc F n ρ) Dn := by
    unfold sWhile at q
    by_cases h : ∃ n, whileN gc F n ρ ≠ .stuck
    · rw [dif_pos h] at q; exact ⟨_, q⟩
    · rw [dif_neg h] at q; exact q.elim
  obtain ⟨n0, q0⟩ := ex
  refine ⟨fun m σ1 H1 => ∃ ρ1, Sim K fr ρ1 σ1 H1 ∧ QS K W pr fr σ1 (whileN gc F m ρ1) Dn, ⟨n0, ρ, S, q0⟩, ?_⟩
  rintro m σ1 H1 ⟨ρ1, S1, q1⟩
  cases m with
  | zero => exact q1.elim
  | succ m =>
    refine sc fr ρ1 σ1 H1 _ S1 ((QS.ofE q1).mono fun k ρ2 q2 H2 S2 => ?_)
    cases k with
    | false =>
      rw [if_neg Bool.false_ne_true] at q2 ⊢
      exact q2 σ1 H2 .refl S2
    | true =>
      rw [if_pos rfl] at q2 ⊢
      refine ⟨fun σ' H' => ∃ ρ', Sim K fr ρ' σ' H' ∧ QS K W pr fr σ' (whileN gc F m ρ') Dn, fun σ' H' h => ⟨m, by omega, h⟩, ?_⟩
      refine s fr ρ2 σ1 H2 _ S2 ?_
      cases e2 : F ρ2 with
      | nx ρ3 =>
        rw [e2] at q2
        exact fun σ3 H3 k3 S3 => ⟨ρ3, S3, QS.from k3 q2⟩
      | cnt ρ3 =>
        rw [e2] at q2
        exact fun σ3 H3 k3 S3 => ⟨ρ3, S3, QS.from k3 q2⟩
      | brk ρ3 => rw [e2] at q2; exact fun σ3 H3 k3 S3 => q2 σ3 H3 k3 S3
      | ret d ρ3 => rw [e2] at q2; exact q2
      | exc x y z => rw [e2] at q2; exact q2
      | stuck => rw [e2] at q2; exact q2.elim
/-! ### for -/
/-- the walk J yields the data ds under the frame fr -/
structure Yields (K : RC) (J : It) (fr : Fr) (ds : List D) : Prop where
  go : ∀ i H ρ σ, Sim K fr ρ σ H → i < ds.length → J.go i H
  stop : ∀ i H ρ σ, Sim K fr ρ σ H → ds.length ≤ i → J.stop i H
  yld : ∀ i H x H' ρ σ d, Sim K fr ρ σ H → ds[i]? = some d → J.yld i H x H' → Sim K fr (some d :: ρ) (some x :: σ) H'
structure ID {ι : Type} (X : ι → Cx) (K : RC) (W : WX) (tg iter : Expr) (f : M (List D)) : Prop where
  ex : ∃ wi, (∀ i, PI (X i) tg iter wi) ∧ ∀ fr ρ σ H R, Sim K fr ρ σ H → QR K W fr σ (f ρ) (fun ds ρ' => ∀ J H1 fr1, Sim K fr1 ρ' σ H1 → (∀ ρ σ H, Sim K fr1 ρ σ H → Sim K fr ρ σ H) → Yields K J fr1 ds → R J H1) → wi σ H R
def forGo (g : D → Env → Option Env) (b : SF) : List D → SF
  | [] => fun ρ => .nx ρ
  | d :: ds => fun ρ => match g d ρ with
    | none => .stuck
    | some ρ1 => match b ρ1 with
      | .nx ρ' => forGo g b ds ρ'
      | .cnt ρ' => forGo g b ds ρ'
      | .brk ρ' => .nx ρ'
      | r => r
def sFor (f : M (List D)) (g : D → Env → Option Env) (b : SF) : SF := sE f fun ds => forGo g b ds
theorem drop_get {α : Type} {l : List α} {i : Nat} {d : α} (h : l[i]? = some d) : l.drop i = d :: l.drop (i + 1) := by
  obtain ⟨hi, e⟩ := List.getElem?_eq_some_iff.mp h
  rw [List.drop_eq_getElem_cons hi, e]
theorem sd_for {tg iter : Expr} {body : List Stmt} {fi : M (List D)} {g : D → Env → Option Env} (hp : ∀ i, PassesOwn (model (X i).prog (X i).w) (X i).A (X i).env (X i).xe) (hc : ∀ i, (X i).calm = true) (hi : ID X K W tg iter fi) (hg : GD X K pr tg g) (hb : SDs X K W pr body F)
    (hs : ∀ i x, foldedSetIterable iter (X i).env x = pure x := by intro _ _; rfl) : SD X K W pr (.For tg iter body [] pos) (sFor fi g F) := by
  obtain ⟨wi, pi, si⟩ := hi.ex
  obtain ⟨u, p2, s2⟩ := hg.ex
  obtain ⟨t, p, s⟩ := hb.ex
  refine ⟨tFor wi u t, (fun i => ps_for (hp i) (hc i) (pi i) (p2 i) (p i) (hs i)), fun fr ρ σ H Dn S q => ?_⟩
  refine si fr ρ σ H _ S ((QS.ofE q).mono fun ds ρ1 q1 J H1 fr1 S1 back Y => ?_)
  refine ⟨fun i m σ2 H2 => ∃ ρ2, i + m = ds.length ∧ Sim K fr1 ρ2 σ2 H2 ∧ QS K W pr fr1 σ2 (forGo g F (ds.drop i) ρ2) Dn, ⟨ds.length, ρ1, by omega, S1, q1.frame back⟩, ?_⟩
  rintro i m σ2 H2 ⟨ρ2, hm, S2, q2⟩
  by_cases hlt : i < ds.length
  · refine .inr ⟨Y.go i H2 ρ2 σ2 S2 hlt, fun σ' H' => ∃ ρ', i + 1 + (m - 1) = ds.length ∧ Sim K fr1 ρ' σ' H' ∧ QS K W pr fr1 σ' (forGo g F (ds.drop (i + 1)) ρ') Dn, fun σ' H' h => ⟨m - 1, by omega, h⟩, fun x H' hy => ?_⟩
    have hd : ds[i]? = some ds[i] := List.getElem?_eq_getElem hlt
    have S3 := Y.yld i H2 x H' ρ2 σ2 ds[i] S2 hd hy
    rw [drop_get hd] at q2
    unfold forGo at q2
    cases e1 : g ds[i] ρ2 with
    | none => rw [e1] at q2; exact q2.elim
    | some ρ3 =>
      rw [e1] at q2
      refine s2 fr1 ρ2 σ2 H' ds[i] x ρ3 _ S3 e1 fun σ4 H4 k4 S4 => ?_
      refine s fr1 ρ3 σ4 H4 _ S4 ?_
      simp only at q2
      cases e2 : F ρ3 with
      | nx ρ5 =>
        rw [e2] at q2
        exact fun σ5 H5 k5 S5 => ⟨ρ5, by omega, S5, QS.from (k4.trans k5) q2⟩
      | cnt ρ5 =>
        rw [e2] at q2
        exact fun σ5 H5 k5 S5 => ⟨ρ5, by omega, S5, QS.from (k4.trans k5) q2⟩
      | brk ρ5 => rw [e2] at q2; exact fun σ5 H5 k5 S5 => q2 σ5 H5 (k4.trans k5) S5
      | ret d ρ5 => rw [e2] at q2; exact fun v σ5 H5 k5 S5 => q2 v σ5 H5 (k4.trans k5) S5
      | exc x y z => rw [e2] at q2; exact fun cls dd σ5 H5 k5 xx S5 => q2 cls dd σ5 H5 (k4.trans k5) xx S5
      | stuck => rw [e2] at q2; exact q2.elim
  · refine .inl ⟨Y.stop i H2 ρ2 σ2 S2 (by omega), ?_⟩
    rw [List.drop_eq_nil_of_le (by omega)] at q2
    exact q2 σ2 H2 .refl S2
/-! ### comprehensions -/
def wipeE (ρ : Env) : List Nat → Env
  | [] => ρ
  | v :: vs => (wipeE ρ vs).set v none
theorem Sim.wiped {K : RC} {fr : Fr} {ρ : Env} {σ : L2.St} {H : Hp} (S : Sim K fr ρ σ H) : ∀ vs : List Nat, Sim K fr (wipeE ρ vs) (wipe σ vs) H
  | [] => S
  | v :: vs => (Sim.wiped S vs).clear none
theorem wipeE_none : ∀ {vs : List Nat} {ρ : Env} {i : Nat}, i ∈ vs → i < ρ.length → (wipeE ρ vs)[i]? = some none
  | [], _, _, h, _ => by cases h
  | v :: vs, ρ, i, h, hl => by
    have wl : ∀ vs : List Nat, (wipeE ρ vs).length = ρ.length := fun vs => by
      induction vs with
      | nil => rfl
      | cons w ws ih => show ((wipeE ρ ws).set w none).length = _; rw [List.length_set, ih]
    show ((wipeE ρ vs).set v none)[i]? = some none
    by_cases e : v = i
    · subst e
      rw [List.getElem?_set_self (by rw [wl]; exact hl)]
    · rw [List.getElem?_set_ne e]
      rcases List.mem_cons.mp h with z | z
      · exact absurd z.symm e
      · exact wipeE_none z hl
/-- empty slots may hold anything -/
theorem Sl.any {K : RC} {F H : Hp} : ∀ {ρ : Env} {σ τ : L2.St} {A : List Addr}, Sl K F H ρ σ A → τ.length = σ.length → (∀ i : Nat, ρ[i]? ≠ some none → τ[i]? = σ[i]?) → Sl K F H ρ τ A
  | [], σ, τ, A, r, hl, _ => by
    obtain ⟨rfl, rfl⟩ := r
    exact ⟨List.length_eq_zero_iff.mp hl, rfl⟩
  | x :: ρ, σ, τ, A, r, hl, h => by
    obtain ⟨s, σ', B, C, rfl, rfl, r1, r2⟩ := r
    cases τ with
    | nil => cases hl
    | cons t τ =>
      have r2' := Sl.any (τ := τ) r2 (by simpa using hl) fun i hi => by simpa using h (i + 1) (by simpa using hi)
      refine ⟨t, τ, B, C, rfl, rfl, ?_, r2'⟩
      cases x with
      | none => exact r1
      | some d =>
        have z := h 0 (by simp)
        have z : some t = some s := by simpa using z
        cases z
        exact r1
theorem wipe_get : ∀ {vs : List Nat} {σ : L2.St} {i : Nat}, i ∉ vs → (wipe σ vs)[i]? = σ[i]?
  | [], _, _, _ => rfl
  | v :: vs, σ, i, h => by
    show ((wipe σ vs).set v none)[i]? = _
    rw [List.getElem?_set_ne (fun e => h (by simp [e])), wipe_get (fun z => h (List.mem_cons_of_mem _ z))]
theorem Sim.unwipe {K : RC} {fr : Fr} {ρ : Env} {σ : L2.St} {H : Hp} {vs : List Nat} (S : Sim K fr (wipeE ρ vs) (wipe σ vs) H) : Sim K fr (wipeE ρ vs) σ H := by
  obtain ⟨A, S⟩ := S
  have hl := S.sl.len
  have wl : (wipeE ρ vs).length = ρ.length := by
    clear hl S
    induction vs with
    | nil => rfl
    | cons w ws ih => show ((wipeE ρ ws).set w none).length = _; rw [List.length_set, ih]
  have hl2 : σ.length = ρ.length := by rw [← wl, ← hl, wipe_length]
  refine ⟨A, S.sl.any (by rw [wipe_length]) fun i hi => ?_, S.nd, S.off, S.keep, S.tr⟩
  by_cases h : i ∈ vs
  · by_cases hl3 : i < ρ.length
    · exact absurd (wipeE_none h hl3) hi
    · rw [List.getElem?_eq_none (by omega), List.getElem?_eq_none (by rw [wipe_length]; omega)]
  · exact (wipe_get h).symm
theorem wipe_eq {pr vs : List Nat} {σ σ' : L2.St} (k : KeepS pr σ σ') (hl : σ'.length = σ.length) (hp : ∀ j, j < σ.length → j ∉ vs → j ∈ pr) : wipe σ' vs = wipe σ vs := by
  refine List.ext_getElem? fun i => ?_
  have gs : ∀ (σ : L2.St) (vs : List Nat) (i : Nat), i ∈ vs → i < σ.length → (wipe σ vs)[i]? = some none := fun σ vs i h hl => by
    induction vs with
    | nil => cases h
    | cons v vs ih =>
      show ((wipe σ vs).set v none)[i]? = some none
      by_cases e : v = i
      · subst e
        rw [List.getElem?_set_self (by rw [wipe_length]; exact hl)]
      · rw [List.getElem?_set_ne e]
        rcases List.mem_cons.mp h with z | z
        · exact absurd z.symm e
        · exact ih z
  by_cases hi : i < σ.length
  · by_cases h : i ∈ vs
    · rw [gs σ' vs i h (by omega), gs σ vs i h hi]
    · rw [wipe_get h, wipe_get h]
      exact k i (hp i hi h)
  · rw [List.getElem?_eq_none (by rw [wipe_length]; omega), List.getElem?_eq_none (by rw [wipe_length]; omega)]
/-- one more item at the end of the list ahead -/
theorem Sim.append {K : RC} {fr : Fr} {ρ : Env} {σ : L2.St} {H : Hp} {ds : List D} {d : D} {p : Addr} {v : V} (S : Sim K fr (some (.lst true ds) :: some d :: ρ) (some (.ref p) :: some v :: σ) H) :
    ∃ xs, H p = some (.lst xs) ∧ xs.length = ds.length ∧ Sim K fr (some (.lst true (ds ++ [d])) :: ρ) (some (.ref p) :: σ) (upd H p (.lst (xs ++ [v]))) := by
  obtain ⟨A, S⟩ := S
  obtain ⟨s1, τ1, B1, C1, e1, rfl, ⟨v1, ev, r1⟩, r2⟩ := S.sl
  injection e1 with e1 e2
  subst e1 e2
  cases ev
  obtain ⟨s2, τ2, B2, C2, e3, rfl, ⟨v2, ev, r3⟩, r4⟩ := r2
  injection e3 with e3 e4
  subst e3 e4
  cases ev
  obtain ⟨a, xs, B, ea, rfl, hx, r1⟩ := r1
  cases ea
  refine ⟨xs, hx, r1.len, p :: (B ++ B2) ++ C2, ?_⟩
  have sub : ∀ a ∈ p :: (B ++ B2) ++ C2, a ∈ p :: B ++ (B2 ++ C2) ∨ H a = none := fun a z => .inl (by simpa [List.append_assoc] using z)
  have nd : (p :: (B ++ B2) ++ C2).Nodup := by
    have := S.nd
    simpa [List.append_assoc] using this
  have pn : p ∉ B ++ (B2 ++ C2) := by
    have := S.nd
    rw [List.cons_append] at this
    exact (List.nodup_cons.mp this).1
  have kp : ∀ a o, a ≠ p → H a = some o → upd H p (.lst (xs ++ [v])) a = some o := fun a o n e => by rw [upd_ne n]; exact e
  have kpA : ∀ a o, a ∉ p :: B ++ (B2 ++ C2) → H a = some o → upd H p (.lst (xs ++ [v])) a = some o := fun a o n e => kp a o (fun z => n (by simp [z])) e
  have f := S.fro sub (H' := upd H p (.lst (xs ++ [v]))) kpA
  have ne : ∀ a, a ∈ B ++ (B2 ++ C2) → a ≠ p := fun a z e => pn (e ▸ z)
  refine S.next sub nd kpA ⟨some (.ref p), _, p :: (B ++ B2), C2, rfl, rfl, ⟨.ref p, rfl, p, xs ++ [v], B ++ B2, rfl, rfl, upd_same, ?_⟩, r4.mono f fun a z o e => kp a o (ne a (by simp [z])) e⟩
  refine RepL.app (RepL.mono f _ _ _ (fun a z o e => kp a o (ne a (by simp [z])) e) r1) ?_
  exact ⟨v, [], B2, [], rfl, by simp, Rep.mono f _ _ _ (fun a z o e => kp a o (ne a (by simp [z])) e) r3, rfl, rfl⟩
def noX {α : Type} (r : Res α) : Res α := match r with
  | .exc _ _ _ => .stuck
  | r => r
def lcGo (g : D → Env → Option Env) (tt : M Bool) (te : M D) (vs : List Nat) : List D → M (List D)
  | [] => fun ρ => .ok [] (wipeE ρ vs)
  | d :: ds => fun ρ => match g d (wipeE ρ vs) with
    | none => .stuck
    | some ρ1 => mbind tt (fun b => if b = true then mbind te fun y => mbind (lcGo g tt te vs ds) fun ys => mret (y :: ys) else lcGo g tt te vs ds) ρ1
def eLc (fi : M (List D)) (g : D → Env → Option Env) (tt : M Bool) (te : M D) (vs : List Nat) : M D := mbind fi fun ds ρ => if ds.length < sizeLine then noX (mbind (lcGo g tt te vs ds) (fun ys => mret (.lst true ys)) ρ) else .stuck
abbrev W0 : WX := fun _ _ _ _ => False
end
end DL

set_option Elab.async false
set_option linter.all false
set_option maxRecDepth 100000
set_option maxHeartbeats 4000000
namespace DL
open PySem PySem.Spec L2
section
variable {K : RC} {fr : Fr} {ρ : Env} {σ : L2.St} {H : Hp}
theorem Sim.xch {x y : Option D} {s t : Option V} (S : Sim K fr (x :: y :: ρ) (s :: t :: σ) H) : Sim K fr (y :: x :: ρ) (t :: s :: σ) H := by
  obtain ⟨A, T⟩ := S
  obtain ⟨s1, τ1, B1, C1, e1, rfl, r1, r2⟩ := T.sl
  injection e1 with e1 e2
  subst e1 e2
  obtain ⟨s2, τ2, B2, C2, e3, rfl, r3, r4⟩ := r2
  injection e3 with e3 e4
  subst e3 e4
  have sub : ∀ q ∈ B2 ++ (B1 ++ C2), q ∈ B1 ++ (B2 ++ C2) ∨ H q = none := fun q z => .inl (by
    simp only [List.mem_append] at z ⊢
    rcases z with z | z | z
    · exact .inr (.inl z)
    · exact .inl z
    · exact .inr (.inr z))
  have g := T.fro sub (H' := H) fun a o _ e => e
  exact ⟨_, T.next sub (perm_nodup T.nd) (fun a o _ e => e) ⟨t, s :: σ, B2, B1 ++ C2, rfl, rfl, r3.mono g fun a _ o e => e, s, σ, B1, C2, rfl, rfl, r1.mono g fun a _ o e => e, r4.mono g fun a _ o e => e⟩⟩
theorem Sim.wiped1 {x : Option D} {s : Option V} (S : Sim K fr (x :: ρ) (s :: σ) H) (vs : List Nat) : Sim K fr (x :: wipeE ρ vs) (s :: wipe σ vs) H := by
  obtain ⟨fr', S', back⟩ := S.hold
  exact back _ _ _ (S'.wiped vs)
theorem Sim.unwipe1 {x : Option D} {s : Option V} {vs : List Nat} (S : Sim K fr (x :: wipeE ρ vs) (s :: wipe σ vs) H) : Sim K fr (x :: wipeE ρ vs) (s :: σ) H := by
  obtain ⟨fr', S', back⟩ := S.hold
  exact back _ _ _ S'.unwipe
theorem wipeE_len (ρ : Env) : ∀ vs : List Nat, (wipeE ρ vs).length = ρ.length
  | [] => rfl
  | v :: vs => by show ((wipeE ρ vs).set v none).length = _; rw [List.length_set, wipeE_len ρ vs]
end
abbrev blkF {ι : Type} (X : ι → Cx) (scope : Scope) : (ι × Shared × Hp × Addr × List (Str × Addr) × List Addr) → Cx := fun j => (X j.1).blk j.2.1 j.2.2.1 scope (compEnvC scope j.2.2.2.2.1 j.2.2.2.1 (X j.1).env) j.2.2.2.2.2
/-- a comprehension's tests -/
structure LD {ι : Type} (X : ι → Cx) (K : RC) (ifs : List Expr) (f : M Bool) : Prop where
  ex : ∃ t, (∀ i, PTs (X i) ifs t) ∧ ∀ fr ρ σ H Q, Sim K fr ρ σ H → QT K W0 fr σ (f ρ) Q → t σ H Q
def mYes : M Bool := mret true
def prOf (L : Nat) (vs : List Nat) : List Nat := (List.range L).filter fun j => !vs.contains j
theorem mem_prOf {L : Nat} {vs : List Nat} {j : Nat} (h : j < L) (n : j ∉ vs) : j ∈ prOf L vs := by
  unfold prOf
  rw [List.mem_filter]
  exact ⟨List.mem_range.mpr h, by simpa using n⟩
def eLcL (L : Nat) (fi : M (List D)) (g : D → Env → Option Env) (tt : M Bool) (te : M D) (vs : List Nat) : M D := mbind fi fun ds ρ => if ds.length < sizeLine ∧ ρ.length = L then noX (mbind (lcGo g tt te vs ds) (fun ys => mret (.lst true ys)) ρ) else .stuck
theorem noX_ok {α : Type} {r : Res α} {K : RC} {W : WX} {fr : Fr} {σ : L2.St} {p : α → Env → Prop} (h : QR K W fr σ (noX r) p) : ∃ a ρ, r = .ok a ρ ∧ p a ρ := by
  cases r with
  | ok a ρ => exact ⟨a, ρ, rfl, h⟩
  | exc c fs ρ => exact h.elim
  | stuck => exact h.elim
theorem mbind_ok {α β : Type} {m : M α} {f : α → M β} {ρ ρ' : Env} {b : β} (h : mbind m f ρ = .ok b ρ') : ∃ a ρ1, m ρ = .ok a ρ1 ∧ f a ρ1 = .ok b ρ' := by
  unfold mbind at h
  cases e : m ρ with
  | ok a ρ1 => rw [e] at h; exact ⟨a, ρ1, rfl, h⟩
  | exc c fs ρ1 => rw [e] at h; cases h
  | stuck => rw [e] at h; cases h
section
variable {ι : Type} {X : ι → Cx} {K : RC} {W : WX}
theorem ld_nil {κ : Type} {Y : κ → Cx} : LD Y K [] mYes := ⟨tYes, (fun _ => pts_nil), fun fr ρ σ H Q S q => q H S⟩
theorem ld_one {κ : Type} {Y : κ → Cx} {c : Expr} {f : M Bool} (h : TD Y K W0 c f) : LD Y K [c] f := by
  obtain ⟨t, p, s⟩ := h.ex
  exact ⟨t, (fun i => pts_one (p i)), s⟩
theorem lc_parts {elt tg iter : Expr} {ifs : List Expr} {scope : Scope} {vs : List Nat} {fi : M (List D)} {g : D → Env → Option Env} {gt : M Bool} {fe : M D} (L : Nat) (hc : ∀ i, (X i).calm = true) (hN : ∀ i, (X i).N.Nodup)
    (hi : ID X K W tg iter fi) (hg : GD (blkF X scope) K (prOf L vs) tg g) (ht : LD (blkF X scope) K ifs gt) (he : ED (blkF X scope) K W0 elt fe) :
    ∃ wi u tt te, (∀ i, PI (X i) tg iter wi) ∧ (∀ j, PG (blkF X scope j) tg u) ∧ (∀ j, PTs (blkF X scope j) ifs tt) ∧ (∀ j, PE (blkF X scope j) elt te) ∧ ∀ fr ρ σ H Q, Sim K fr ρ σ H → QE K W fr σ (eLcL L fi g gt fe vs ρ) Q → tLc wi u tt te vs σ H Q := by
  obtain ⟨wi, pi, si⟩ := hi.ex
  obtain ⟨u, p2, s2⟩ := hg.ex
  obtain ⟨tt, p3, s3⟩ := ht.ex
  obtain ⟨te, p4, s4⟩ := he.ex
  refine ⟨wi, u, tt, te, pi, p2, p3, p4, fun fr ρ σ H Q S q => ?_⟩
  refine si fr ρ σ H _ S ((QR.bind q).mono fun ds ρ1 q1 J H1 fr1 S1 back Y => ?_)
  by_cases hz : ds.length < sizeLine ∧ ρ1.length = L
  · simp only [hz, and_self, if_true] at q1
    obtain ⟨dl, ρe, e, q2⟩ := noX_ok q1
    obtain ⟨ys, ρe', e2, e3⟩ := mbind_ok e
    cases e3
    intro Dd hD
    have S0 : Sim K fr1 (some (.lst true []) :: ρ1) (some (.ref Dd) :: σ) (upd H1 Dd (.lst [])) := Sim.newL (ds := []) (vs := []) S1 rfl hD
    refine ⟨fun i m H2 => ∃ acc ρ2 ys ρe, i + m = ds.length ∧ acc.length ≤ i ∧ ρ2.length = L ∧ Sim K fr1 (some (.lst true acc) :: wipeE ρ2 vs) (some (.ref Dd) :: wipe σ vs) H2 ∧ lcGo g gt fe vs (ds.drop i) ρ2 = .ok ys ρe ∧
      ∀ v H, Sim K fr1 (some (.lst true (acc ++ ys)) :: ρe) (some v :: σ) H → Q v H, ⟨ds.length, [], ρ1, ys, _, by omega, Nat.le_refl _, hz.2, S0.wiped1 vs, e2, fun v H S => q2 v H (back _ _ _ S)⟩, ?_⟩
    rintro i m H2 ⟨acc, ρ2, ys, ρe, hm, ha, hL, S2, el, fin⟩
    by_cases hlt : i < ds.length
    · refine .inr ⟨Y.go i H2 _ _ S2 hlt, fun H' => ∃ acc ρ2 ys ρe, i + 1 + (m - 1) = ds.length ∧ acc.length ≤ i + 1 ∧ ρ2.length = L ∧ Sim K fr1 (some (.lst true acc) :: wipeE ρ2 vs) (some (.ref Dd) :: wipe σ vs) H' ∧ lcGo g gt fe vs (ds.drop (i + 1)) ρ2 = .ok ys ρe ∧
        ∀ v H, Sim K fr1 (some (.lst true (acc ++ ys)) :: ρe) (some v :: σ) H → Q v H, fun H' h => ⟨m - 1, by omega, h⟩, fun x H' hy => ?_⟩
      have hd : ds[i]? = some ds[i] := List.getElem?_eq_getElem hlt
      have S3 := (Y.yld i H2 x H' _ _ ds[i] S2 hd hy).xch
      obtain ⟨fr2, S4, back2⟩ := S3.hold
      rw [drop_get hd] at el
      unfold lcGo at el
      cases e1 : g ds[i] (wipeE ρ2 vs) with
      | none => rw [e1] at el; cases el
      | some ρ3 =>
        rw [e1] at el
        obtain ⟨b, ρ5, et, el⟩ := mbind_ok el
        have l3 : ρ3.length = L := by rw [hg.len _ _ _ e1, wipeE_len, hL]
        refine s2 fr2 (wipeE ρ2 vs) (wipe σ vs) H' ds[i] x ρ3 _ S4 e1 fun σ4 H4 k4 S5 => ?_
        have l4 : σ4.length = L := by rw [S5.len, l3]
        have lσ : σ.length = L := by
          have := S4.drop.len
          rw [wipe_length, wipeE_len, hL] at this
          exact this
        have hw : wipe σ4 vs = wipe σ vs := by
          rw [wipe_eq k4 (by rw [wipe_length, l4, lσ]) fun j hj hn => mem_prOf (by rw [wipe_length, lσ] at hj; exact hj) hn]
          have idem : ∀ (vs' : List Nat), (∀ j ∈ vs', j ∈ vs) → wipe (wipe σ vs) vs' = wipe σ vs := fun vs' => by
            induction vs' with
            | nil => exact fun _ => rfl
            | cons w ws ih =>
              intro h
              show (wipe (wipe σ vs) ws).set w none = _
              rw [ih fun j hj => h j (List.mem_cons_of_mem _ hj)]
              by_cases hwl : w < (wipe σ vs).length
              · refine set_self ?_
                have gs : ∀ (vs : List Nat) (i : Nat), i ∈ vs → i < σ.length → (wipe σ vs)[i]? = some none := fun vs i h hl => by
                  induction vs with
                  | nil => cases h
                  | cons v vs ih =>
                    show ((wipe σ vs).set v none)[i]? = some none
                    by_cases e : v = i
                    · subst e
                      rw [List.getElem?_set_self (by rw [wipe_length]; exact hl)]
                    · rw [List.getElem?_set_ne e]
                      rcases List.mem_cons.mp h with z | z
                      · exact absurd z.symm e
                      · exact ih z
                exact gs vs w (h w List.mem_cons_self) (by rw [wipe_length] at hwl; exact hwl)
              · exact List.set_eq_of_length_le (by omega)
          exact idem vs fun _ h => h
        refine ⟨hw, s3 fr2 ρ3 σ4 H4 _ S5 ?_⟩
        rw [et]
        show ∀ H, Sim K fr2 ρ5 σ4 H → _
        intro H5 S6
        have l5 : ρ5.length = L := by rw [← S6.len, l4]
        cases b with
        | false =>
          rw [if_neg Bool.false_ne_true] at el ⊢
          have S7 := (back2 _ _ _ S6).wiped1 vs
          rw [hw] at S7
          exact ⟨acc, ρ5, ys, ρe, by omega, by omega, l5, S7, el, fin⟩
        | true =>
          rw [if_pos rfl] at el ⊢
          obtain ⟨y, ρ6, ey, el⟩ := mbind_ok el
          obtain ⟨ys', ρ7, er, el⟩ := mbind_ok el
          cases el
          refine s4 fr2 ρ5 σ4 H5 _ S6 ?_
          rw [ey]
          show ∀ v H, Sim K fr2 (some y :: ρ6) (some v :: σ4) H → _
          intro v H6 S7
          have S8 := back2 _ _ _ S7
          obtain ⟨xs, hx, hl, S9⟩ := S8.append
          have l6 : ρ6.length = L := by
            have := S7.drop.len
            rw [← this, l4]
          refine ⟨xs, hx, by omega, acc ++ [y], ρ6, ys', ρe, by omega, by simp; omega, l6, ?_, er, ?_⟩
          · have := S9.wiped1 vs
            rw [hw] at this
            exact this
          · intro v H S
            exact fin v H (by simpa [List.append_assoc] using S)
    · rw [List.drop_eq_nil_of_le (by omega)] at el
      cases el
      refine .inl ⟨Y.stop i H2 _ _ S2 (by omega), fin _ _ ?_⟩
      rw [List.append_nil]
      exact S2.unwipe1
  · simp only [hz, if_false] at q1
    exact q1.elim
theorem ed_lc {elt tg iter : Expr} {ifs : List Expr} {scope : Scope} {own : List (Str × Nat)} {pos : Pos} {fi : M (List D)} {g : D → Env → Option Env} {gt : M Bool} {fe : M D} (L : Nat) (hc : ∀ i, (X i).calm = true) (hN : ∀ i, (X i).N.Nodup)
    (hi : ID X K W tg iter fi) (ok : ∀ i, BlkOk (X i).N (X i).env.scope scope own) (hg : GD (blkF X scope) K (prOf L (own.map (·.2))) tg g) (ht : LD (blkF X scope) K ifs gt) (he : ED (blkF X scope) K W0 elt fe)
    (hs : ∀ i x, foldedSetIterable iter (X i).env x = pure x := by intro _ _; rfl) : ED X K W (.ListComp elt [⟨tg, iter, ifs, 0⟩] scope pos) (eLcL L fi g gt fe (own.map (·.2))) := by
  obtain ⟨wi, u, tt, te, pi, p2, p3, p4, sm⟩ := lc_parts L hc hN hi hg ht he
  exact ⟨tLc wi u tt te (own.map (·.2)), (fun i => pe_lc (hc i) (hN i) (pi i) (ok i) (fun s H C cl fp => p2 (i, s, H, C, cl, fp)) (fun s H C cl fp => p3 (i, s, H, C, cl, fp)) (fun s H C cl fp => p4 (i, s, H, C, cl, fp)) (hs i)), sm⟩
/-- y = [..], y a local: stored within the comprehension's frame -/
theorem sd_setLc {elt tg iter : Expr} {ifs : List Expr} {scope : Scope} {own : List (Str × Nat)} {y : Str} {py pos spos : Pos} {pr : List Nat} {fi : M (List D)} {g : D → Env → Option Env} {gt : M Bool} {fe : M D} {i : Nat} (L : Nat) (hc : ∀ i, (X i).calm = true) (hN : ∀ i, (X i).N.Nodup)
    (hy : ∀ j, (X j).N[i]? = some y) (hyl : ∀ j, (X j).env.scope.names.lookup y = some .local) (hk : ∀ j, (X j).env.scope.kind = .function) (hl : (py.line == pos.line) = true) (ha : (scope.names.any fun (n, k) => n == y && (k == .local || k == .cell)) = false) (hp : i ∉ pr)
    (hi : ID X K W tg iter fi) (ok : ∀ i, BlkOk (X i).N (X i).env.scope scope own) (hg : GD (blkF X scope) K (prOf L (own.map (·.2))) tg g) (ht : LD (blkF X scope) K ifs gt) (he : ED (blkF X scope) K W0 elt fe)
    (hs : ∀ i x, foldedSetIterable iter (X i).env x = pure x := by intro _ _; rfl) : SD X K W pr (.Assign [.Name y py] (.ListComp elt [⟨tg, iter, ifs, 0⟩] scope pos) spos) (sAsg (eLcL L fi g gt fe (own.map (·.2))) (gSet i)) := by
  obtain ⟨wi, u, tt, te, pi, p2, p3, p4, sm⟩ := lc_parts L hc hN hi hg ht he
  refine ⟨tAsg (tLc wi u tt te (own.map (·.2))) (gName i), (fun j => ps_setLc (hc j) (hN j) (hy j) (hyl j) (sw_true (hk j) (hyl j) hl ha) (pi j) (ok j) (fun s H C cl fp => p2 (j, s, H, C, cl, fp)) (fun s H C cl fp => p3 (j, s, H, C, cl, fp)) (fun s H C cl fp => p4 (j, s, H, C, cl, fp)) (hs j)), fun fr ρ σ H Dn S q => ?_⟩
  show tLc wi u tt te (own.map (·.2)) σ H (fun x H1 => gName i x σ H1 Dn.nx)
  refine sm fr ρ σ H _ S (q.ofE.mono fun d ρ1 q1 v H1 S1 => ?_)
  unfold gSet at q1
  by_cases hi : i < ρ1.length
  · rw [if_pos hi] at q1
    exact q1 _ H1 (KeepS.set hp) (S1.store hi)
  · rw [if_neg hi] at q1
    exact q1.elim
theorem sd_setLcF {elt tg iter : Expr} {ifs : List Expr} {scope : Scope} {own : List (Str × Nat)} {y : Str} {py pos spos : Pos} {pr : List Nat} {fi : M (List D)} {g : D → Env → Option Env} {gt : M Bool} {fe : M D} {i : Nat} (L : Nat) (hc : ∀ i, (X i).calm = true) (hN : ∀ i, (X i).N.Nodup)
    (hy : ∀ j, (X j).N[i]? = some y) (hyl : ∀ j, (X j).env.scope.names.lookup y = some .local) (hk : ∀ j, (X j).env.scope.kind = .function) (hl : (py.line == pos.line) = true) (ha : (scope.names.any fun (n, k) => n == y && (k == .local || k == .cell)) = false) (hp : i ∉ pr)
    (hi : ID X K W tg iter fi) (ok : ∀ i, BlkOk (X i).N (X i).env.scope scope own) (hg : GD (blkF X scope) K (prOf L (own.map (·.2))) tg g) (ht : LD (blkF X scope) K ifs gt) (he : ED (blkF X scope) K W0 elt fe)
    (hs : ∀ i x, foldedSetIterable iter (X i).env x = pure x := by intro _ _; rfl) : SD X K W pr (.Assign [.Name y py] (.ListComp elt [⟨tg, iter, ifs, 0⟩] scope pos) spos) (sAsg (eFrz (eLcL L fi g gt fe (own.map (·.2)))) (gSet i)) := by
  obtain ⟨wi, u, tt, te, pi, p2, p3, p4, sm⟩ := lc_parts L hc hN hi hg ht he
  refine ⟨tAsg (tLc wi u tt te (own.map (·.2))) (gName i), (fun j => ps_setLc (hc j) (hN j) (hy j) (hyl j) (sw_true (hk j) (hyl j) hl ha) (pi j) (ok j) (fun s H C cl fp => p2 (j, s, H, C, cl, fp)) (fun s H C cl fp => p3 (j, s, H, C, cl, fp)) (fun s H C cl fp => p4 (j, s, H, C, cl, fp)) (hs j)), fun fr ρ σ H Dn S q => ?_⟩
  show tLc wi u tt te (own.map (·.2)) σ H (fun x H1 => gName i x σ H1 Dn.nx)
  refine sm fr ρ σ H _ S (q.ofE.bind.mono fun d ρ1 q1 v H1 S1 => ?_)
  have q1 : QS K W pr fr σ (match gSet i (frz d) ρ1 with | some ρ' => .nx ρ' | none => .stuck) Dn := q1
  unfold gSet at q1
  by_cases hi : i < ρ1.length
  · rw [if_pos hi] at q1
    exact q1 _ H1 (KeepS.set hp) (S1.frz.store hi)
  · rw [if_neg hi] at q1
    exact q1.elim
end
end DL

set_option Elab.async false
set_option linter.all false
set_option maxRecDepth 100000
set_option maxHeartbeats 4000000
namespace DL
open PySem PySem.Spec L2
/-! ### what a def promises -/
def outs (pr : List Nat) (n : Nat) (ρ : Env) : Env := (wipeE ρ ((List.range n).filter fun j => !pr.contains j)).take n
def spD (K : RC) (n : Nat) (F : List D → Res D) : Sp := fun vs H Q E => ∃ fr ds, vs.length = n ∧ ds.length = n ∧ Sim K fr (ds.map some) (vs.map some) H ∧ match F ds with
  | .ok d os => ∀ v H', Sim K fr (some d :: os) (some v :: vs.map some) H' → Q v H'
  | .exc c fs os => ∀ cls dd H', ExcR K.mg c fs cls dd H' → Sim K fr os (vs.map some) H' → E cls dd H'
  | .stuck => False
def runS (pr : List Nat) (n L : Nat) (b : SF) (ds : List D) : Res D := match b (ds.map some ++ List.replicate (L - ds.length) none) with
  | .nx ρ => if n ≤ ρ.length then .ok .non (outs pr n ρ) else .stuck
  | .ret d ρ => if n ≤ ρ.length then .ok d (outs pr n ρ) else .stuck
  | .exc c fs ρ => if n ≤ ρ.length then .exc c fs (outs pr n ρ) else .stuck
  | _ => .stuck
section
variable {K : RC} {fr : Fr} {ρ : Env} {σ : L2.St} {H : Hp}
theorem Sim.none_end (S : Sim K fr ρ σ H) (m : Nat) : Sim K fr (ρ ++ List.replicate m none) (σ ++ List.replicate m none) H := by
  obtain ⟨A, S⟩ := S
  have r : ∀ m, Sl K (hid (A ++ fr.N) H) H (List.replicate m none) (List.replicate m none) [] := fun m => by
    induction m with
    | zero => exact ⟨rfl, rfl⟩
    | succ m ih => exact ⟨none, _, [], [], rfl, rfl, rfl, ih⟩
  have z := Sl.app S.sl (r m)
  rw [List.append_nil] at z
  exact ⟨A, z, S.nd, S.off, S.keep, S.tr⟩
theorem Sim.any {τ : L2.St} (S : Sim K fr ρ σ H) (hl : τ.length = σ.length) (h : ∀ i : Nat, ρ[i]? ≠ some none → τ[i]? = σ[i]?) : Sim K fr ρ τ H := by
  obtain ⟨A, S⟩ := S
  exact ⟨A, S.sl.any hl h, S.nd, S.off, S.keep, S.tr⟩
theorem Sim.takeN (S : Sim K fr ρ σ H) (n : Nat) : Sim K fr (ρ.take n) (σ.take n) H := by
  have S' : Sim K fr (ρ.take n ++ ρ.drop n) (σ.take n ++ σ.drop n) H := by rw [List.take_append_drop, List.take_append_drop]; exact S
  have hl : (σ.take n).length = (ρ.take n).length := by rw [List.length_take, List.length_take, S.len]
  exact (S'.swap hl).dropN (by rw [List.length_drop, List.length_drop, S.len])
theorem Sim.outs {pr : List Nat} {n : Nat} {vs : List V} {m : Nat} (S : Sim K fr ρ σ H) (hn : vs.length = n) (k : KeepS pr (vs.map some ++ List.replicate m none) σ) (hl : n ≤ ρ.length) : Sim K fr (DL.outs pr n ρ) (vs.map some) H := by
  unfold DL.outs
  have S1 := (S.wiped ((List.range n).filter fun j => !pr.contains j)).takeN n
  refine S1.any (by rw [List.length_map, List.length_take, wipe_length, S.len, hn]; omega) fun i hi => ?_
  by_cases h : i < n
  · rw [List.getElem?_take_of_lt h] at hi
    by_cases hp : i ∈ pr
    · rw [List.getElem?_take_of_lt h, wipe_get (fun z => by
        have := (List.mem_filter.mp z).2
        simp [hp] at this), k i hp, List.getElem?_append_left (by rw [List.length_map]; omega)]
    · exact absurd (wipeE_none (List.mem_filter.mpr ⟨List.mem_range.mpr h, by simp [hp]⟩) (by omega)) hi
  · rw [List.getElem?_eq_none (by rw [List.length_map]; omega), List.getElem?_eq_none (by rw [List.length_take]; omega)]
end
section
variable {P : Program} {w : World} {K : PySem.W.Frag} {mg : Str → Option Value} {base : Heap}
/-- THE RULE for a def -/
theorem fnok_of {x qual : Str} {params : Arguments} {body : List Stmt} {scope : Scope} {dvs : List V} {kws : List (Str × V)} {f : Addr} {fd : FuncData} {N ps : List Str} {k : Nat} {pr : List Nat} {b : SF}
    (F : FunD K x qual params body scope dvs kws f fd) (S : FnScope N ps scope)
    (hb : ∀ (cdv : Value) (A : Around) (outer : List PySem.Env) (s : Shared) (H : Hp) (E : XK), Room k (A.deeper (PyProof.Rows.envOfC qual scope s.heap.objs.size f cdv)) →
      SDs (fun _ : Unit => cxOf (L2.CX P w) P w K mg base N qual scope f cdv A outer s H E) ⟨K, mg⟩ (fun cls d _ H => E cls d H) pr body b) : FnOk P w K mg base (L2.CX P w) (k + 1) f fd ps (spD ⟨K, mg⟩ ps.length (runS pr ps.length N.length b)) := by
  refine F.ok S (fun vs H Q E h => h.choose_spec.choose_spec.1) fun cdv A outer s H vs Q E hr h => ?_
  obtain ⟨t, p, sm⟩ := (hb cdv A outer s H E hr).ex
  obtain ⟨fr, ds, hv, hd, Sm, q⟩ := h
  refine ⟨t, p (), ?_⟩
  have hpl : ps.length ≤ N.length := by have := congrArg List.length S.pre; rw [List.length_take] at this; omega
  have S0 : Sim ⟨K, mg⟩ fr (ds.map some ++ List.replicate (N.length - ds.length) none) (L2.start N vs) H := by
    unfold L2.start
    rw [hd, hv]
    exact Sm.none_end _
  refine sm fr _ (L2.start N vs) H _ S0 ?_
  unfold runS at q
  have len : ∀ {ρ : Env} {σ : L2.St} {H' : Hp}, Sim ⟨K, mg⟩ fr ρ σ H' → KeepS pr (L2.start N vs) σ → ps.length ≤ ρ.length → Sim ⟨K, mg⟩ fr (outs pr ps.length ρ) (vs.map some) H' := fun {ρ σ H'} Sx k hl => by
    unfold L2.start at k
    exact Sx.outs hv k hl
  cases e : b (ds.map some ++ List.replicate (N.length - ds.length) none) with
  | nx ρ =>
    rw [e] at q
    by_cases hl : ps.length ≤ ρ.length
    · simp only [hl, if_true] at q
      exact fun σ H' k Sx => q .non H' ((len Sx k hl).pushF rfl)
    · simp only [hl, if_false] at q
  | ret d ρ =>
    rw [e] at q
    by_cases hl : ps.length ≤ ρ.length
    · simp only [hl, if_true] at q
      intro v σ H' k Sx
      obtain ⟨fr', Sy, back⟩ := Sx.hold
      refine q v H' (back _ _ _ ?_)
      unfold L2.start at k
      exact Sy.outs hv k hl
    · simp only [hl, if_false] at q
  | exc c fs ρ =>
    rw [e] at q
    by_cases hl : ps.length ≤ ρ.length
    · simp only [hl, if_true] at q
      exact fun cls dd σ H' k xx Sx => q cls dd H' xx (len Sx k hl)
    · simp only [hl, if_false] at q
  | brk ρ => rw [e] at q; exact q.elim
  | cnt ρ => rw [e] at q; exact q.elim
  | stuck => rw [e] at q; exact q.elim
end
/-- a def of the text: what it computes -/
def FnD (P : Program) (w : World) (K : PySem.W.Frag) (mg : Str → Option Value) (base : Heap) (k : Nat) (x : Str) (n : Nat) (dfl : List D) (F : List D → Res D) : Prop :=
  ∃ f fd ps ds, mg x = some (.ref f) ∧ PySem.W.keepIn K (.ref f) = true ∧ Binds K fd ps ds ∧ Vals (dfl.map toV) ds ∧ (∀ d ∈ dfl, (flat d).isSome = true) ∧ ps.length = n ∧ FnOk P w K mg base (L2.CX P w) k f fd ps (spD ⟨K, mg⟩ n F)
abbrev FnX (X : Cx) := FnD X.prog X.w X.K X.mg X.base
/-! ### calls -/
def restore : List (Nat × Nat) → Env → Env → Env
  | [], _, ρ => ρ
  | (j, i) :: rs, os, ρ => match os[j]? with
    | some (some d) => restore rs (os.set j none) (ρ.set i (some d))
    | _ => restore rs os ρ
def eCall (F : List D → Res D) (fa : M (List D)) (dfl : List D) (rs : List (Nat × Nat)) : M D := mbind fa fun ds ρ => match F (ds ++ dfl) with
  | .ok d os => .ok d (restore rs os ρ)
  | .exc c fs os => .exc c fs (restore rs os ρ)
  | .stuck => .stuck
/-- arguments, of which those in rs are handed over by their slots -/
def QM (K : RC) (W : WX) (fr : Fr) (σ : L2.St) (rs : List (Nat × Nat)) (r : Res (List D)) (Q : List V → Hp → Prop) : Prop :=
  QR K W fr σ r fun ds ρ => ∀ vs H, vs.length = ds.length → (∀ p ∈ rs, ∃ v, vs[p.1]? = some v ∧ σ[p.2]? = some (some v)) → Sim K fr (ds.map some ++ ρ) (vs.map some ++ σ) H → Q vs H
structure AM {ι : Type} (X : ι → Cx) (K : RC) (W : WX) (es : List Expr) (f : M (List D)) (rs : List (Nat × Nat)) : Prop where
  ex : ∃ t, (∀ i, PA (X i) es t) ∧ ∀ fr ρ σ H Q, Sim K fr ρ σ H → QM K W fr σ rs (f ρ) Q → t σ H Q
def shift (rs : List (Nat × Nat)) : List (Nat × Nat) := rs.map fun p => (p.1 + 1, p.2)
section
variable {ι : Type} {X : ι → Cx} {K : RC} {W : WX} {e : Expr} {es : List Expr} {f : M D} {g : M (List D)} {rs : List (Nat × Nat)} {pos : Pos}
theorem am_nil : AM X K W [] aNil [] := ⟨tNil, (fun _ => pa_nil), fun fr ρ σ H Q S q => q [] H rfl (fun _ z => nomatch z) S⟩
theorem am_cons (h : ED X K W e f) (hr : AM X K W es g rs) (hs : ∀ i, starEach (e :: es) (X i).env = (false, eval e (X i).env) :: starEach es (X i).env := by intro _; rfl) : AM X K W (e :: es) (aCons f g) (shift rs) := by
  obtain ⟨t, p, s⟩ := h.ex
  obtain ⟨u, p2, s2⟩ := hr.ex
  refine ⟨tCons t u, (fun i => pa_cons (p i) (p2 i) (hs i)), fun fr ρ σ H Q S q => ?_⟩
  refine s fr ρ σ H _ S ((QR.bind q).mono fun d ρ1 q1 v H1 S1 => ?_)
  obtain ⟨fr', S', back⟩ := S1.hold
  refine s2 fr' ρ1 σ H1 _ S' (((QR.bind q1).frame fun ρ H s => (back ρ σ H s).drop).mono fun ds ρ2 q2 vs H2 hl hrs S2 => ?_)
  refine q2 (v :: vs) H2 (by simp [hl]) (fun p hp => ?_) (back _ _ H2 S2)
  obtain ⟨p', hp', rfl⟩ := List.mem_map.mp hp
  obtain ⟨u, h1, h2⟩ := hrs p' hp'
  exact ⟨u, by simpa using h1, h2⟩
theorem am_mv (i : Nat) {x : Str} (h : ∀ j, PE (X j) (.Name x pos) (tVar i)) (hr : AM X K W es g rs) (hs : ∀ i, starEach (.Name x pos :: es) (X i).env = (false, eval (.Name x pos) (X i).env) :: starEach es (X i).env := by intro _; rfl) : AM X K W (.Name x pos :: es) (aCons (eMove i) g) ((0, i) :: shift rs) := by
  obtain ⟨u, p2, s2⟩ := hr.ex
  refine ⟨tCons (tVar i) u, (fun j => pa_cons (h j) (p2 j) (hs j)), fun fr ρ σ H Q S q => ?_⟩
  have q0 := QR.bind q
  unfold eMove at q0
  cases e : ρ[i]? with
  | none => rw [e] at q0; exact q0.elim
  | some o => cases o with
    | none => rw [e] at q0; exact q0.elim
    | some d =>
      rw [e] at q0
      obtain ⟨v, e1, S1⟩ := S.move e
      refine ⟨v, e1, ?_⟩
      obtain ⟨fr', S', back⟩ := S1.hold
      refine s2 fr' _ σ H _ S' (((QR.bind q0).frame fun ρ H s => (back ρ σ H s).drop).mono fun ds ρ2 q2 vs H2 hl hrs S2 => ?_)
      refine q2 (v :: vs) H2 (by simp [hl]) (fun p hp => ?_) (back _ _ H2 S2)
      rcases List.mem_cons.mp hp with z | hp
      · subst z; exact ⟨v, rfl, e1⟩
      · obtain ⟨p', hp', rfl⟩ := List.mem_map.mp hp
        obtain ⟨u, h1, h2⟩ := hrs p' hp'
        exact ⟨u, by simpa using h1, h2⟩
theorem getElem?_app {α : Type} {a b : List α} {i : Nat} {x : α} (h : a[i]? = some x) : (a ++ b)[i]? = some x := by
  rw [List.getElem?_append_left (List.getElem?_eq_some_iff.mp h).1, h]
/-- what was handed over is put back -/
theorem Sim.restore {fr : Fr} {σ : L2.St} {H : Hp} {vs : List V} : ∀ {rs : List (Nat × Nat)} {os ρ : Env}, os.length = vs.length → (∀ p ∈ rs, ∃ v, vs[p.1]? = some v ∧ σ[p.2]? = some (some v)) → Sim K fr (os ++ ρ) (vs.map some ++ σ) H → Sim K fr (DL.restore rs os ρ) σ H
  | [], os, ρ, hl, _, S => S.dropN (by rw [List.length_map, hl])
  | (j, i) :: rs, os, ρ, hl, h, S => by
    unfold DL.restore
    have h' : ∀ p ∈ rs, ∃ v, vs[p.1]? = some v ∧ σ[p.2]? = some (some v) := fun p hp => h p (List.mem_cons_of_mem _ hp)
    cases e : os[j]? with
    | none => exact Sim.restore hl h' S
    | some o => cases o with
      | none => exact Sim.restore hl h' S
      | some d =>
        obtain ⟨v, hv, hs⟩ := h (j, i) List.mem_cons_self
        obtain ⟨v', e1, S1⟩ := S.move (getElem?_app e)
        have ev : v' = v := by
          have z : (vs.map some ++ σ)[j]? = some (some v) := getElem?_app (by rw [List.getElem?_map, hv]; rfl)
          rw [z] at e1
          cases e1
          rfl
        subst ev
        have hj : j < os.length := (List.getElem?_eq_some_iff.mp e).1
        rw [List.set_append_left _ _ hj] at S1
        have hi : (vs.map some ++ σ)[vs.length + i]? = some (some v') := by
          rw [List.getElem?_append_right (by rw [List.length_map]; omega), List.length_map, Nat.add_sub_cancel_left, hs]
        have S2 := S1.back hi
        rw [List.set_append_right _ _ (by rw [List.length_set, hl]; omega), List.length_set, hl, Nat.add_sub_cancel_left] at S2
        exact Sim.restore (by rw [List.length_set, hl]) h' S2
/-- flat values at the end -/
theorem Sim.flats {fr : Fr} {ρ : Env} {σ : L2.St} {H : Hp} (S : Sim K fr ρ σ H) : ∀ dfl : List D, (∀ d ∈ dfl, (flat d).isSome = true) → Sim K fr (ρ ++ dfl.map some) (σ ++ (dfl.map toV).map some) H := fun dfl h => by
  obtain ⟨A, S⟩ := S
  have r : ∀ dfl : List D, (∀ d ∈ dfl, (flat d).isSome = true) → Sl K (hid (A ++ fr.N) H) H (dfl.map some) ((dfl.map toV).map some) [] := fun dfl => by
    induction dfl with
    | nil => exact fun _ => ⟨rfl, rfl⟩
    | cons d ds ih =>
      intro h
      obtain ⟨v, hv⟩ := Option.isSome_iff_exists.mp (h d List.mem_cons_self)
      refine ⟨some (toV d), _, [], [], rfl, rfl, ⟨toV d, rfl, flat_rep ?_⟩, ih fun d hd => h d (List.mem_cons_of_mem _ hd)⟩
      unfold toV
      rw [hv]
      rfl
  have z := Sl.app S.sl (r dfl h)
  rw [List.append_nil] at z
  exact ⟨A, z, S.nd, S.off, S.keep, S.tr⟩
theorem sim_call {n : Nat} {F : List D → Res D} {dfl : List D} {t : TA} (hd : ∀ d ∈ dfl, (flat d).isSome = true) (s : ∀ fr ρ σ H Q, Sim K fr ρ σ H → QM K W fr σ rs (g ρ) Q → t σ H Q) (hn : ∀ ρ ds ρ', g ρ = .ok ds ρ' → (ds ++ dfl).length = n) {fr : Fr} {ρ : Env} {σ : L2.St} {H : Hp} {Q : VK}
    (S : Sim K fr ρ σ H) (q : QE K W fr σ (eCall F g dfl rs ρ) Q) : tCallSD (spD K n F) (dfl.map toV) (WE W) t σ H Q := by
  have hq : QR K W fr σ (g ρ) fun ds ρ1 => g ρ = .ok ds ρ1 ∧ QE K W fr σ (match F (ds ++ dfl) with
    | .ok d os => .ok d (restore rs os ρ1)
    | .exc c fs os => .exc c fs (restore rs os ρ1)
    | .stuck => .stuck) Q := by
    have := QR.bind q
    cases e : g ρ with
    | ok ds ρ1 => rw [e] at this; exact ⟨rfl, this⟩
    | exc c fs ρ1 => rw [e] at this; exact this
    | stuck => rw [e] at this; exact this
  refine s fr ρ σ H _ S (hq.mono fun ds ρ1 ⟨e, q1⟩ vs H1 hl hrs S1 => ?_)
  have hN := hn ρ ds ρ1 e
  rw [List.length_append] at hN
  have S2 : Sim K fr ((ds ++ dfl).map some ++ ρ1) ((vs ++ dfl.map toV).map some ++ σ) H1 := by
    have hl2 : (vs.map some).length = (ds.map some).length := by rw [List.length_map, List.length_map, hl]
    have z1 : Sim K fr (ρ1 ++ ds.map some) (σ ++ vs.map some) H1 := S1.swap hl2
    have z2 := z1.flats dfl hd
    rw [List.append_assoc, List.append_assoc] at z2
    have z3 := z2.swap (ρ1 := ρ1) (σ1 := σ) (S1.dropN hl2).len
    rw [← List.map_append, ← List.map_append] at z3
    exact z3
  have hlv : (vs ++ dfl.map toV).length = (ds ++ dfl).length := by rw [List.length_append, List.length_append, List.length_map, hl]
  obtain ⟨fr', S3, back⟩ := Sim.frame (by rw [List.length_map, List.length_map, hlv]) S2
  refine ⟨fr', ds ++ dfl, by rw [hlv, List.length_append]; exact hN, by rw [List.length_append]; exact hN, S3, ?_⟩
  have hrs' : ∀ p ∈ rs, ∃ v, (vs ++ dfl.map toV)[p.1]? = some v ∧ σ[p.2]? = some (some v) := fun p hp => by
    obtain ⟨v, h1, h2⟩ := hrs p hp
    exact ⟨v, getElem?_app h1, h2⟩
  cases eF : F (ds ++ dfl) with
  | ok d os =>
    rw [eF] at q1
    intro v H' S4
    have S5 := back _ _ _ S4
    have ho : os.length = (vs ++ dfl.map toV).length := by
      have := S4.len
      simp only [List.length_cons, List.length_map] at this
      omega
    obtain ⟨fr2, S6, back2⟩ := Sim.hold (x := some d) (s := some v) S5
    exact q1 v H' (back2 _ _ _ (S6.restore ho hrs'))
  | exc c fs os =>
    rw [eF] at q1
    intro cls dd H' xx S4
    have ho : os.length = (vs ++ dfl.map toV).length := by
      have := S4.len
      simp only [List.length_map] at this
      omega
    exact q1 cls dd H' xx ((back _ _ _ S4).restore ho hrs')
  | stuck => rw [eF] at q1; exact q1.elim
theorem pe_call0S {X : Cx} {CX : CXT} {k : Nat} {f : Addr} {fd : FuncData} {ps : List Str} {sp : Sp} {dvs : List V} {ds : List Value} {E : L2.St → XK} {x : Str} {p pos : Pos} (F : FnOk X.prog X.w X.K X.mg X.base CX k f fd ps sp) (hr : Room k X.A) (hg : Gl X x) (hm : X.mg x = some (.ref f)) (hk : PySem.W.keepIn X.K (.ref f) = true) (hb : Binds X.K fd ps ds) (hd : Vals dvs ds) (hx : ∀ σ, PassesAt CX X σ (E σ))
    (hdb : (x == ("__debug__" : Str)) = false := by decide) : PE X (.Call (.Name x p) [] [] pos) (tCallSD sp dvs E tNil) := by
  refine ⟨fun pins s σ H Q I h => ?_⟩
  refine wpAny_Call_Name_kw (ld_glob I hg hm ?_ hdb)
  exact PySem.W.callWith_K0 I.kIn hk (run_fnSD (us := []) F hr hb hd (hx σ) I .nil h)
/-- f(e, ..) -/
theorem ed_call {k n : Nat} {x : Str} {F : List D → Res D} {dfl : List D} {p : Pos} (h : ∀ i, FnX (X i) k x n dfl F) (hK : ∀ i, rc (X i) = K) (hr : ∀ i, Room k (X i).A) (hg : ∀ i, Gl (X i) x) (tk : ∀ i, Takes (X i) W) (ha : AM X K W (e :: es) g rs)
    (hn : ∀ ρ ds ρ', g ρ = .ok ds ρ' → (ds ++ dfl).length = n) (hdb : (x == ("__debug__" : Str)) = false := by decide) (hd : ∀ d ∈ dfl, (flat d).isSome = true := by simp [flat])
    (he : ∀ i, starEach (e :: es) (X i).env = (false, eval e (X i).env) :: starEach es (X i).env := by intro _; rfl) (hpl : ∀ i, (backTo pos (starEach es (X i).env)).any (·.1) = false := by intro _; rfl) : ED X K W (.Call (.Name x p) (e :: es) [] pos) (eCall F g dfl rs) := by
  obtain ⟨t, pa, s⟩ := ha.ex
  refine ⟨tCallSD (spD K n F) (dfl.map toV) (WE W) t, (fun i => ?_), fun fr ρ σ H Q S q => ?_⟩
  · obtain ⟨f, fd, ps, ds, hm, hk, hb, hv, _, hl, hF⟩ := h i
    rw [← hK i]
    exact pe_callSD hF (hr i) (hg i) hm hk hb hv (fun σ => passAt (tk i) σ) (pa i) hdb (he i) (hpl i)
  · exact sim_call hd s hn S q
theorem ed_call0 {k n : Nat} {x : Str} {F : List D → Res D} {dfl : List D} {p : Pos} (h : ∀ i, FnX (X i) k x n dfl F) (hK : ∀ i, rc (X i) = K) (hr : ∀ i, Room k (X i).A) (hg : ∀ i, Gl (X i) x) (tk : ∀ i, Takes (X i) W)
    (hn : dfl.length = n) (hdb : (x == ("__debug__" : Str)) = false := by decide) (hd : ∀ d ∈ dfl, (flat d).isSome = true := by simp [flat]) : ED X K W (.Call (.Name x p) [] [] pos) (eCall F aNil dfl []) := by
  obtain ⟨t, pa, s⟩ := (am_nil (X := X) (K := K) (W := W)).ex
  refine ⟨tCallSD (spD K n F) (dfl.map toV) (WE W) tNil, (fun i => ?_), fun fr ρ σ H Q S q => ?_⟩
  · obtain ⟨f, fd, ps, ds, hm, hk, hb, hv, _, hl, hF⟩ := h i
    rw [← hK i]
    exact pe_call0S hF (hr i) (hg i) hm hk hb hv (fun σ => passAt (tk i) σ) hdb
  · exact sim_call (t := tNil) (g := aNil) (rs := []) hd (fun fr ρ σ H Q S q => q [] H rfl (fun _ z => nomatch z) S) (fun ρ ds ρ' e => by cases e; simpa using hn) S q
end
/-! ### raise -/
theorem pmk_own0 {X : Cx} {C : Addr} {bmB : List Value} {B newId initId : String} {x : Str} {p pos : Pos} (F : ExcBaseFacts B newId initId bmB) (q : PySem.W.excIn X.K C bmB newId = true) (gC : X.mg x = some (.ref C))
    (kC : PySem.W.keepIn X.K (.ref C) = true) (r : Raises X (.ref C)) (hg : Gl X x) (hdb : (x == ("__debug__" : Str)) = false := by decide) :
    PMk X (.Call (.Name x p) [] [] pos) (fun σ H Q => Q (.ref C) none H) := by
  intro pins s σ H Q I h
  refine wpAny_Call_Name_kw (ld_glob I hg gC ?_ hdb)
  refine PySem.W.callWith_K0 I.kIn kC ?_
  show wpAny _ _ (call (.ref C) []) _ _ _
  obtain ⟨bm, N, nm, qn, bs, hdct, sn, sub, ab, col, dd, k0, k1, k2, k3, k5, mN, hC, hN, hni, T⟩ := exc_obj I.kIn q
  refine wpAny_call_exc_subT F T hC hN hni (fun h' e hm => ?_) (by rw [sizeLine_eq]; exact Nat.zero_le _)
  exact mk_of I hm r h (I.hok.gone hm.new)
end DL

set_option Elab.async false
set_option linter.all false
set_option maxRecDepth 100000
set_option maxHeartbeats 4000000
namespace DL
open PySem PySem.Spec L2
/-! facts of the contexts -/
structure CF {ι : Type} (X : ι → Cx) (K : RC) (W : WX) (k : Nat) : Prop where
  K : ∀ i, rc (X i) = K
  calm : ∀ i, (X i).calm = true
  room : ∀ i, Room k (X i).A
  tk : ∀ i, Takes (X i) W
  nd : ∀ i, (X i).N.Nodup
section
variable {ι : Type} {X : ι → Cx} {K : RC} {W : WX} {k : Nat}
theorem CF.kk (c : CF X K W k) (i : ι) : (X i).K = K.K := congrArg RC.K (c.K i)
theorem CF.mg (c : CF X K W k) (i : ι) : (X i).mg = K.mg := congrArg RC.mg (c.K i)
theorem CF.blk (c : CF X K W k) (scope : Scope) : CF (blkF X scope) K W0 k where
  K := fun j => c.K j.1
  calm := fun j => c.calm j.1
  room := fun j => c.room j.1
  tk := fun j => takes0
  nd := fun j => c.nd j.1
end
mutual
theorem Rep.frz_id {K : RC} {F H : Hp} : ∀ (d : D) (v : V), Rep K F H d v [] → frz d = d
  | .non, _, _ => rfl
  | .bl _, _, _ => rfl
  | .int _, _, _ => rfl
  | .str _, _, _ => rfl
  | .adr _, _, _ => rfl
  | .scr _, _, _ => rfl
  | .tup _, _, _ => rfl
  | .lst false ds, v, r => by
    obtain ⟨_, a, xs, _, _, r⟩ := r
    show D.lst false (frzL ds) = _
    rw [RepL.frz_id ds xs r]
  | .lst true ds, v, r => by obtain ⟨_, _, _, _, e, _⟩ := r; cases e
  | .dk false ks ds, v, r => by
    obtain ⟨_, a, kvs, _, _, _, r⟩ := r
    show D.dk false ks (frzL ds) = _
    rw [RepL.frz_id ds _ r]
  | .dk true ks ds, v, r => by obtain ⟨_, _, _, _, e, _⟩ := r; cases e
  | .dt false ks ds, v, r => by
    obtain ⟨_, a, kvs, _, _, _, r⟩ := r
    show D.dt false ks (frzL ds) = _
    rw [RepL.frz_id ds _ r]
  | .dt true ks ds, v, r => by obtain ⟨_, _, _, _, e, _⟩ := r; cases e
  | .obj false c ns ds, v, r => by
    obtain ⟨_, a, C, dx, fs, _, _, _, _, r⟩ := r
    show D.obj false c ns (frzL ds) = _
    rw [RepL.frz_id ds _ r]
  | .obj true c ns ds, v, r => by obtain ⟨_, _, _, _, _, _, e, _⟩ := r; cases e
theorem RepL.frz_id {K : RC} {F H : Hp} : ∀ (ds : List D) (vs : List V), RepL K F H ds vs [] → frzL ds = ds
  | [], _, _ => rfl
  | d :: ds, vs, r => by
    obtain ⟨v, ws, B, C, rfl, e, r1, r2⟩ := r
    have e1 := (List.append_eq_nil_iff.mp e.symm).1
    have e2 := (List.append_eq_nil_iff.mp e.symm).2
    subst e1 e2
    show frz d :: frzL ds = _
    rw [Rep.frz_id d v r1, RepL.frz_id ds ws r2]
end
section
variable {K : RC} {fr : Fr} {ρ : Env} {σ : L2.St} {H : Hp} {d : D} {v : V} {ds : List D} {vs : List V}
theorem Sim.tup_frz (S : Sim K fr (some (.tup ds) :: ρ) (some v :: σ) H) : frzL ds = ds := by
  obtain ⟨F, B, r, _⟩ := S.top
  obtain ⟨_, a, xs, _, _, r⟩ := r
  exact RepL.frz_id ds xs r
theorem frzL_app (a b : List D) : frzL (a ++ b) = frzL a ++ frzL b := by
  induction a with
  | nil => rfl
  | cons x a ih => show frz x :: frzL (a ++ b) = _; rw [ih]; rfl
/-- the second one taken apart -/
theorem Sim.explode2 {d2 : D} {v2 : V} (S : Sim K fr (some d2 :: some d :: ρ) (some v2 :: some v :: σ) H) (e : items d = some ds) : ∃ p xs, v = .ref p ∧ xs.length = ds.length ∧ (if isL d = true then SqL K.K H p xs else SqT K.K H p xs) ∧
    ((∀ o es, d = .lst o es → H p = some (.lst xs)) ∧ Sim K fr (some d2 :: (ds.map some ++ ρ)) (some v2 :: (xs.map some ++ σ)) H) := by
  obtain ⟨fr', S', back⟩ := S.hold
  obtain ⟨p, xs, h1, h2, h3, h4, S2⟩ := S'.explode e
  exact ⟨p, xs, h1, h2, h3, h4, back _ _ _ S2⟩
theorem Sim.pick {j : Nat} (S : Sim K fr (ds.map some ++ ρ) (vs.map some ++ σ) H) (hl : vs.length = ds.length) (e : ds[j]? = some d) : ∃ v, vs[j]? = some v ∧ Sim K fr (some d :: ρ) (some v :: σ) H := by
  obtain ⟨v, e1, S1⟩ := S.move (getElem?_app (a := ds.map some) (b := ρ) (by rw [List.getElem?_map, e]; rfl))
  have hj : j < ds.length := (List.getElem?_eq_some_iff.mp e).1
  rw [List.getElem?_append_left (by rw [List.length_map, hl]; exact hj), List.getElem?_map] at e1
  cases ev : vs[j]? with
  | none => rw [ev] at e1; cases e1
  | some u =>
    rw [ev] at e1
    have e1 : some (some u) = some (some v) := e1
    cases e1
    refine ⟨_, rfl, ?_⟩
    rw [List.set_append_left _ _ (by rw [List.length_map]; exact hj)] at S1
    obtain ⟨fr', S2, back⟩ := S1.hold
    exact back _ _ _ (S2.dropN (by rw [List.length_set, List.length_map, List.length_map, hl]))
end
section
variable {K : RC} {fr : Fr} {ρ : Env} {σ : L2.St} {H : Hp}
theorem Sim.flip {A B : Env} {α β : L2.St} (ha : α.length = A.length) (hb : β.length = B.length) (S : Sim K fr (A ++ (B ++ ρ)) (α ++ (β ++ σ)) H) : Sim K fr (B ++ (A ++ ρ)) (β ++ (α ++ σ)) H := by
  have S1 := S.swap ha
  rw [List.append_assoc, List.append_assoc] at S1
  obtain ⟨fr', S2, back⟩ := S1.holdN hb
  refine back _ _ _ (S2.swap ?_)
  have h1 := S.len
  simp only [List.length_append] at h1
  omega
theorem Sim.explode22 {dx dy : D} {vx vy : V} {xs ys : List D} (S : Sim K fr (some dy :: some dx :: ρ) (some vy :: some vx :: σ) H) (ey : items dy = some ys) (ex : items dx = some xs) :
    ∃ p us q ws, vy = .ref p ∧ vx = .ref q ∧ us.length = ys.length ∧ ws.length = xs.length ∧ (if isL dy = true then SqL K.K H p us else SqT K.K H p us) ∧ (if isL dx = true then SqL K.K H q ws else SqT K.K H q ws) ∧
      (∀ o es, dy = .lst o es → H p = some (.lst us)) ∧ (∀ o es, dx = .lst o es → H q = some (.lst ws)) ∧ Sim K fr (xs.map some ++ (ys.map some ++ ρ)) (ws.map some ++ (us.map some ++ σ)) H := by
  obtain ⟨p, us, h1, h2, h3, h4, S2⟩ := S.explode ey
  obtain ⟨fr', S3, back⟩ := S2.holdN (by rw [List.length_map, List.length_map, h2])
  obtain ⟨q, ws, h5, h6, h7, h8, S4⟩ := S3.explode ex
  exact ⟨p, us, q, ws, h1, h5, h2, h6, h3, h7, h4, h8, (back _ _ _ S4).flip (by simp [h2]) (by simp [h6])⟩
end
/-! ### evaluated with everything frozen; the answer flat -/
theorem Sl.frzA {K : RC} {F F' H : Hp} (h : ∀ a o, F a = some o → F' a = some o) : ∀ {ρ : Env} {σ : L2.St} {A : List Addr}, (∀ a ∈ A, ∀ o, H a = some o → F' a = some o) → Sl K F H ρ σ A → Sl K F' H (ρ.map (Option.map DL.frz)) σ []
  | [], σ, A, _, r => ⟨r.1, rfl⟩
  | x :: ρ, σ, A, k, r => by
    obtain ⟨s, τ, B, C, rfl, rfl, r1, r2⟩ := r
    refine ⟨s, τ, [], [], rfl, rfl, ?_, Sl.frzA h (fun a z => k a (List.mem_append_right _ z)) r2⟩
    cases x with
    | none => rfl
    | some d =>
      obtain ⟨v, e, r1⟩ := r1
      exact ⟨v, e, Rep.frz h d v B (fun a z => k a (List.mem_append_left _ z)) r1⟩
theorem Sim.frzAll {K : RC} {fr : Fr} {ρ : Env} {σ : L2.St} {H : Hp} (S : Sim K fr ρ σ H) : Sim K ⟨H, fr.N⟩ (ρ.map (Option.map DL.frz)) σ H := by
  obtain ⟨A, S⟩ := S
  refine ⟨[], ?_, .nil, (fun _ z => nomatch z), fun _ _ e => e, fun a z => ?_⟩
  · refine Sl.frzA (fun a o e => ?_) (fun a z o e => ?_) S.sl
    · rw [hid_some] at e ⊢
      exact ⟨fun w => e.1 (List.mem_append_right _ (by simpa using w)), e.2⟩
    · exact hid_some.mpr ⟨fun w => (S.off a z).1 (by simpa using w), e⟩
  · obtain ⟨o, e, nt⟩ := S.tr a z
    exact ⟨o, S.keep a o e, nt⟩
theorem Sim.keepG {K : RC} {fr : Fr} {ρ : Env} {σ : L2.St} {H : Hp} (S : Sim K fr ρ σ H) : ∀ a o, fr.G a = some o → H a = some o := let ⟨_, S⟩ := S; S.keep
def eBor (f : M D) : M D := fun ρ => match f (ρ.map (Option.map frz)) with
  | .ok d _ => if (flat d).isSome = true then .ok d ρ else .stuck
  | .exc c fs _ => .exc c fs ρ
  | .stuck => .stuck
section
variable {ι : Type} {X : ι → Cx} {K : RC} {W : WX} {k : Nat} {e a b : Expr} {es : List Expr} {f fa fb : M D} {g : M (List D)} {pos : Pos}
theorem ed_bor (h : ED X K W e f) : ED X K W e (eBor f) := by
  obtain ⟨t, p, s⟩ := h.ex
  refine ⟨t, p, fun fr ρ σ H Q S q => s _ _ σ H Q S.frzAll ?_⟩
  unfold eBor at q
  cases ef : f (ρ.map (Option.map frz)) with
  | ok d ρ' =>
    rw [ef] at q
    by_cases hf : (flat d).isSome = true
    · simp only [hf, if_true] at q
      obtain ⟨u, hu⟩ := Option.isSome_iff_exists.mp hf
      intro v H' S'
      have := S'.topF hu
      subst this
      exact q v H' ((S.grow S'.keepG).pushF hu)
    · simp only [hf] at q
      exact q.elim
  | exc c fs ρ' =>
    rw [ef] at q
    exact fun cls dd H' xx S' => q cls dd H' xx (S.grow S'.keepG)
  | stuck => rw [ef] at q; exact q.elim
theorem td_bor {f : M Bool} (h : TD X K W e f) : TD X K W e (fun ρ => match f (ρ.map (Option.map frz)) with
  | .ok b _ => .ok b ρ
  | .exc c fs _ => .exc c fs ρ
  | .stuck => .stuck) := by
  obtain ⟨t, p, s⟩ := h.ex
  refine ⟨t, p, fun fr ρ σ H Q S q => s _ _ σ H Q S.frzAll ?_⟩
  cases ef : f (ρ.map (Option.map frz)) with
  | ok d ρ' =>
    rw [ef] at q
    exact fun H' S' => q H' (S.grow S'.keepG)
  | exc c fs ρ' =>
    rw [ef] at q
    exact fun cls dd H' xx S' => q cls dd H' xx (S.grow S'.keepG)
  | stuck => rw [ef] at q; exact q.elim
/-! ### built-ins by values -/
def CaS (K : RC) (r : List V → Hp → VK → Prop) (F : List D → Option D) : Prop := ∀ fr ρ σ H ds vs d Q, vs.length = ds.length → Sim K fr (ds.map some ++ ρ) (vs.map some ++ σ) H → F ds = some d →
  (∀ v H', Sim K fr (some d :: ρ) (some v :: σ) H' → Q v H') → r vs H Q
def eBi (F : List D → Option D) (g : M (List D)) : M D := mbind g fun ds => mlift (F ds)
theorem sim_tCB {r : List V → Hp → VK → Prop} {F : List D → Option D} {t : TA} (ho : CaS K r F) (s : ∀ fr ρ σ H Q, Sim K fr ρ σ H → QM K W fr σ [] (g ρ) Q → t σ H Q) {fr : Fr} {ρ : Env} {σ : L2.St} {H : Hp} {Q : VK} (S : Sim K fr ρ σ H) (q : QE K W fr σ (eBi F g ρ) Q) : tCB r t σ H Q := by
  refine s fr ρ σ H _ S ((QR.bind q).mono fun ds ρ1 q1 vs H1 hl _ S1 => ?_)
  obtain ⟨d, e, q2⟩ := QR.lift q1
  exact ho fr ρ1 σ H1 ds vs d Q hl S1 e q2
theorem ed_bi {x : Str} {id : String} {p : Pos} {r : List V → Hp → VK → Prop} {F : List D → Option D} (c : CF X K W k) (hc : ∀ i, CallR (X i) (.builtin id) r) (ho : CaS K r F) (hg : ∀ i, Gl (X i) x) (hm : K.mg x = none) (hv : bootBuiltins x = some (.builtin id)) (ha : AM X K W (e :: es) g [])
    (hn : x ≠ "__name__" := by decide) (hdb : (x == ("__debug__" : Str)) = false := by decide) (he : ∀ i, starEach (e :: es) (X i).env = (false, eval e (X i).env) :: starEach es (X i).env := by intro _; rfl) (hpl : ∀ i, (backTo pos (starEach es (X i).env)).any (·.1) = false := by intro _; rfl) :
    ED X K W (.Call (.Name x p) (e :: es) [] pos) (eBi F g) := by
  obtain ⟨t, pa, s⟩ := ha.ex
  exact ⟨tCB r t, (fun i => pe_callB (hc i) (hg i) (by rw [c.mg i]; exact hm) hv (pa i) hn hdb (he i) (hpl i)), fun fr ρ σ H Q S q => sim_tCB ho s S q⟩
theorem ed_ty {x : Str} {T : String} {p : Pos} {r : List V → Hp → VK → Prop} {F : List D → Option D} (c : CF X K W k) (hc : ∀ i, CallR (X i) (.type T) r) (ho : CaS K r F) (hg : ∀ i, Gl (X i) x) (hm : K.mg x = none) (hv : bootBuiltins x = some (.type T)) (ha : AM X K W (e :: es) g [])
    (hn : x ≠ "__name__" := by decide) (hdb : (x == ("__debug__" : Str)) = false := by decide) (he : ∀ i, starEach (e :: es) (X i).env = (false, eval e (X i).env) :: starEach es (X i).env := by intro _; rfl) (hpl : ∀ i, (backTo pos (starEach es (X i).env)).any (·.1) = false := by intro _; rfl) :
    ED X K W (.Call (.Name x p) (e :: es) [] pos) (eBi F g) := by
  obtain ⟨t, pa, s⟩ := ha.ex
  exact ⟨tCB r t, (fun i => pe_callTy (hc i) (hg i) (by rw [c.mg i]; exact hm) hv (pa i) hn hdb (he i) (hpl i)), fun fr ρ σ H Q S q => sim_tCB ho s S q⟩
/-! ints -/
def isI : D → Option Int
  | .int i => some i
  | _ => none
def ii (C : Int → Int → Bool) (g : Int → Int → D) : D → D → Option D
  | .int i, .int j => if C i j = true then some (g i j) else none
  | _, _ => none
theorem ops_ii {C : Int → Int → Bool} {P : Int → Int → Prop} {g : Int → Int → D} {h : Int → Int → V} (hP : ∀ i j, C i j = true → P i j) (hg : ∀ i j, flat (g i j) = some (h i j)) : OpS K (rI P h) (ii C g) := by
  intro fr ρ σ H dx dy vx vy d Q S e q
  cases dx with
  | int i => cases dy with
    | int j =>
      unfold ii at e
      by_cases hc : C i j = true
      · simp only [hc, if_true] at e
        cases e
        exact ⟨i, j, S.drop.topF rfl, S.topF rfl, hP i j hc, q _ H (S.drop.drop.pushF (hg i j))⟩
      · simp only [hc] at e
        cases e
    | _ => cases e
  | _ => cases e
theorem ops_ii0 {g : Int → Int → D} {h : Int → Int → V} (hg : ∀ i j, flat (g i j) = some (h i j)) : OpS K (rI0 h) (ii (fun _ _ => true) g) := by
  intro fr ρ σ H dx dy vx vy d Q S e q
  cases dx with
  | int i => cases dy with
    | int j =>
      cases e
      exact ⟨i, j, S.drop.topF rfl, S.topF rfl, q _ H (S.drop.drop.pushF (hg i j))⟩
    | _ => cases e
  | _ => cases e
def subD : D → D → Option D := ii (fun _ _ => true) fun i j => .int (i - j)
theorem ed_sub (c : CF X K W k) (ha : ED X K W a fa) (hb : ED X K W b fb) : ED X K W (.BinOp a .Sub b pos) (e2 subD fa fb) := ed_op (fun _ => op_sub) (ops_ii0 fun _ _ => rfl) ha hb
/-- products: one factor below 2^64, or both below 2^4000 -/
def mulOk (i j : Int) : Bool := decide (-(2 ^ 64) < i ∧ i < 2 ^ 64) || decide (-(2 ^ 64) < j ∧ j < 2 ^ 64) || (decide (i.natAbs < 2 ^ 4000) && decide (j.natAbs < 2 ^ 4000))
def lebD : D → D → Option D := ii (fun _ _ => true) fun i j => .bl (decide (i ≤ j))
def ltD : D → D → Option D := ii (fun _ _ => true) fun i j => .bl (decide (i < j))
def gtD : D → D → Option D := ii (fun _ _ => true) fun i j => .bl (decide (j < i))
def geD : D → D → Option D := ii (fun _ _ => true) fun i j => .bl (decide (j ≤ i))
theorem ops_le : OpS K (rI0 fun i j => .bl (decide (i ≤ j))) lebD := ops_ii0 fun _ _ => rfl
theorem ops_lt : OpS K (rI0 fun i j => .bl (decide (i < j))) ltD := ops_ii0 fun _ _ => rfl
theorem ops_gt : OpS K (rI0 fun i j => .bl (decide (j < i))) gtD := ops_ii0 fun _ _ => rfl
theorem ops_ge : OpS K (rI0 fun i j => .bl (decide (j ≤ i))) geD := ops_ii0 fun _ _ => rfl
/-! floor and rest by positive divisors -/
def fdivD : D → D → Option D := ii (fun _ j => decide (0 < j ∧ j.natAbs < 2 ^ 8000)) fun i j => .int (i / j)
def modD : D → D → Option D := ii (fun _ j => decide (0 < j)) fun i j => .int (i % j)
theorem ed_fdiv (c : CF X K W k) (ha : ED X K W a fa) (hb : ED X K W b fb) : ED X K W (.BinOp a .FloorDiv b pos) (e2 fdivD fa fb) :=
  ed_op (fun _ => op_fdivW) (ops_ii (fun i j h => by
    have := of_decide_eq_true h
    exact wide_div this.1 this.2 (by decide) (by decide)) fun _ _ => rfl) ha hb
theorem ed_mod (c : CF X K W k) (ha : ED X K W a fa) (hb : ED X K W b fb) : ED X K W (.BinOp a .Mod b pos) (e2 modD fa fb) :=
  ed_op (fun _ => op_mod) (ops_ii (fun i j h => of_decide_eq_true h) fun _ _ => rfl) ha hb
def powD : D → D → Option D := ii (fun i j => decide (0 ≤ j ∧ j ≤ 1000000 ∧ i.natAbs < 2 ^ 64)) fun i j => .int (i ^ j.toNat)
theorem ed_pow (c : CF X K W k) (ha : ED X K W a fa) (hb : ED X K W b fb) : ED X K W (.BinOp a .Pow b pos) (e2 powD fa fb) :=
  ed_op (fun _ => op_pow) (ops_ii (P := CPow) (fun i j h => show CPow i j from of_decide_eq_true (p := 0 ≤ j ∧ j ≤ 1000000 ∧ i.natAbs < 2 ^ 64) h) fun _ _ => rfl) ha hb
def negD : D → Option D
  | .int i => some (.int (-i))
  | _ => none
theorem ed_neg (c : CF X K W k) (ha : ED X K W a fa) : ED X K W (.UnaryOp .USub a pos) (e1 negD fa) := by
  obtain ⟨t, p, s⟩ := ha.ex
  refine ⟨tUn (rU fun i => .int (-i)) t, (fun i => pe_un un_neg (p i)), fun fr ρ σ H Q S q => s fr ρ σ H _ S ((QR.bind q).mono fun d ρ1 q1 v H1 S1 => ?_)⟩
  obtain ⟨d', e, q2⟩ := QR.lift q1
  cases d with
  | int i =>
    cases e
    exact ⟨i, S1.topF rfl, q2 _ H1 (S1.drop.pushF rfl)⟩
  | _ => cases e
/-! + of ints, texts, tuples, lists -/
def addD : D → D → Option D
  | .int i, .int j => some (.int (i + j))
  | .str x, .str y => if x.length + y.length ≤ sizeLine then some (.str (x ++ y)) else none
  | .tup xs, .tup ys => if xs.length + ys.length ≤ sizeLine then some (.tup (xs ++ ys)) else none
  | .lst _ xs, .lst _ ys => if xs.length + ys.length ≤ sizeLine then some (.lst true (xs ++ ys)) else none
  | _, _ => none
def rAddA (K : PySem.W.Frag) : R2 := fun x y H Q => (rI0 (fun i j => .int (i + j)) x y H Q) ∨ ((∃ i j, x = .str i ∧ y = .str j ∧ i.length + j.length ≤ sizeLine ∧ Q (.str (i ++ j)) H) ∨ (rCatA K x y H Q ∨ rCat x y H Q))
theorem op_addA {X : Cx} : OpR X (binaryOp .Add) (rAddA X.K) := OpR.or op_add (OpR.or op_add_str (OpR.or op_catA op_cat))
theorem ops_add : OpS K (rAddA K.K) addD := by
  intro fr ρ σ H dx dy vx vy d Q S e q
  cases dx with
  | int i => cases dy with
    | int j =>
      cases e
      exact .inl ⟨i, j, S.drop.topF rfl, S.topF rfl, q _ H (S.drop.drop.pushF rfl)⟩
    | _ => cases e
  | str x => cases dy with
    | str y =>
      unfold addD at e
      by_cases hc : x.length + y.length ≤ sizeLine
      · simp only [hc, if_true] at e
        cases e
        exact .inr (.inl ⟨x, y, S.drop.topF rfl, S.topF rfl, hc, q _ H (S.drop.drop.pushF rfl)⟩)
      · simp only [hc, if_false] at e
        cases e
    | _ => cases e
  | tup xs => cases dy with
    | tup ys =>
      unfold addD at e
      by_cases hc : xs.length + ys.length ≤ sizeLine
      · simp only [hc, if_true] at e
        cases e
        have f1 := S.drop.tup_frz
        have f2 := S.tup_frz
        obtain ⟨p, us, p2, ws, rfl, rfl, h2, h4, h3, h5, _, _, S1⟩ := S.explode22 (ys := ys) (xs := xs) rfl rfl
        refine .inr (.inr (.inl ⟨p2, p, ws, us, rfl, rfl, h5, h3, by omega, fun e => ?_, fun _ e => ?_, fun _ _ l hl => ?_⟩))
        · have : xs = [] := List.length_eq_zero_iff.mp (by rw [← h4, e]; rfl)
          subst this
          exact q _ H (S.xch.drop)
        · have : ys = [] := List.length_eq_zero_iff.mp (by rw [← h2, e]; rfl)
          subst this
          rw [List.append_nil] at q
          exact q _ H S.drop
        · have S2 : Sim K fr ((xs ++ ys).map some ++ ρ) ((ws ++ us).map some ++ σ) H := by
            rw [List.map_append, List.map_append, List.append_assoc, List.append_assoc]
            exact S1
          have S3 := S2.newT (by simp [h2, h4]) hl
          rw [frzL_app, f1, f2] at S3
          exact q _ _ S3
      · simp only [hc, if_false] at e
        cases e
    | _ => cases e
  | lst o xs => cases dy with
    | lst o' ys =>
      unfold addD at e
      by_cases hc : xs.length + ys.length ≤ sizeLine
      · simp only [hc, if_true] at e
        cases e
        obtain ⟨p, us, p2, ws, rfl, rfl, h2, h4, _, _, h3, h5, S1⟩ := S.explode22 (ys := ys) (xs := xs) rfl rfl
        refine .inr (.inr (.inr ⟨p2, p, ws, us, rfl, rfl, h5 _ _ rfl, h3 _ _ rfl, by omega, fun l hl => ?_⟩))
        have S2 : Sim K fr ((xs ++ ys).map some ++ ρ) ((ws ++ us).map some ++ σ) H := by
          rw [List.map_append, List.map_append, List.append_assoc, List.append_assoc]
          exact S1
        exact q _ _ (S2.newL (by simp [h2, h4]) hl)
      · simp only [hc, if_false] at e
        cases e
    | _ => cases e
  | _ => cases e
theorem rAddA_K {X : Cx} (h : X.K = K.K) : OpR X (binaryOp .Add) (rAddA K.K) := by rw [← h]; exact op_addA
theorem ed_add (c : CF X K W k) (ha : ED X K W a fa) (hb : ED X K W b fb) : ED X K W (.BinOp a .Add b pos) (e2 addD fa fb) := ed_op (fun i => rAddA_K (c.kk i)) ops_add ha hb
end
end DL

set_option Elab.async false
set_option linter.all false
set_option maxRecDepth 100000
set_option maxHeartbeats 4000000
namespace DL
open PySem PySem.Spec L2
/-! ### displays -/
section
variable {ι : Type} {X : ι → Cx} {K : RC} {W : WX} {k : Nat} {e a b c' : Expr} {es : List Expr} {f fa fb fc : M D} {g : M (List D)} {pos : Pos}
def eTup (g : M (List D)) : M D := mbind g fun ds => if ds.length ≤ sizeLine then mret (.tup (frzL ds)) else mlift none
def eLst (g : M (List D)) : M D := mbind g fun ds => if ds.length ≤ sizeLine then mret (.lst true ds) else mlift none
theorem ed_tup {x1} (h : AM X K W es g []) : ED X K W (.Tuple es x1 pos) (eTup g) := by
  obtain ⟨t, p, s⟩ := h.ex
  refine ⟨tTup t, (fun i => pe_tup (p i)), fun fr ρ σ H Q S q => s fr ρ σ H _ S ((QR.bind q).mono fun ds ρ1 q1 vs H1 hl _ S1 => ?_)⟩
  by_cases hz : ds.length ≤ sizeLine
  · rw [if_pos hz] at q1
    exact ⟨by omega, fun p hp => q1 _ _ (S1.newT hl hp)⟩
  · rw [if_neg hz] at q1
    exact q1.elim
theorem ed_lst (h : AM X K W es g []) : ED X K W (.List es pos) (eLst g) := by
  obtain ⟨t, p, s⟩ := h.ex
  refine ⟨tLst t, (fun i => pe_lst (p i)), fun fr ρ σ H Q S q => s fr ρ σ H _ S ((QR.bind q).mono fun ds ρ1 q1 vs H1 hl _ S1 => ?_)⟩
  by_cases hz : ds.length ≤ sizeLine
  · rw [if_pos hz] at q1
    exact ⟨by omega, fun p hp => q1 _ _ (S1.newL hl hp)⟩
  · rw [if_neg hz] at q1
    exact q1.elim
/-! ### items -/
def ixD : D → D → Option D
  | .str x, .int i => if x.length ≤ sizeLine then (atI x.cps.toList i).map fun c => .str ⟨#[c]⟩ else none
  | d, .int i => (items d).bind fun ds => atI ds i
  | _, _ => none
theorem atI_get {α β : Type} {xs : List α} {ys : List β} {i : Int} {y : β} (hl : xs.length = ys.length) (h : atI ys i = some y) : ∃ j : Nat, ys[j]? = some y ∧ ∀ x, xs[j]? = some x → atI xs i = some x := by
  unfold atI at h ⊢
  rw [hl]
  cases e : ixN ys.length i with
  | none => rw [e] at h; cases h
  | some j => rw [e] at h; exact ⟨j, h, fun x hx => hx⟩
theorem ops_ix : OpS K (rIx K.K) ixD := by
  intro fr ρ σ H dx dy vx vy d Q S e q
  cases dy with
  | int i =>
    have hy := S.topF rfl
    subst hy
    have seq : ∀ ds, items dx = some ds → atI ds i = some d → rIx K.K vx (.int i) H Q := fun ds hi ha => by
      obtain ⟨p, xs, rfl, h2, h3, _, S1⟩ := S.drop.explode hi
      obtain ⟨j, hj, hx⟩ := atI_get h2 ha
      obtain ⟨v, hv, S2⟩ := S1.pick h2 hj
      have hL := hx v hv
      by_cases hk : isL dx = true
      · rw [if_pos hk] at h3
        exact .inl ⟨p, xs, i, v, rfl, rfl, h3, hL, q v H S2⟩
      · rw [if_neg hk] at h3
        exact .inr (.inl ⟨p, xs, i, v, rfl, rfl, h3, hL, q v H S2⟩)
    cases dx with
    | str x =>
      unfold ixD at e
      by_cases hz : x.length ≤ sizeLine
      · simp only [hz, if_true] at e
        cases hc : atI x.cps.toList i with
        | none => rw [hc] at e; cases e
        | some c =>
          rw [hc] at e
          cases e
          exact .inr (.inr ⟨x, i, c, S.drop.topF rfl, rfl, hz, hc, q _ H (S.drop.drop.pushF rfl)⟩)
      · simp only [hz, if_false] at e
        cases e
    | tup ds => exact seq ds rfl e
    | lst o ds => exact seq ds rfl e
    | scr ns => exact seq _ rfl e
    | _ => cases e
  | _ => cases dx <;> cases e
theorem ed_ix (c : CF X K W k) (ha : ED X K W a fa) (hb : ED X K W b fb) (hs : PlainIx b := by exact fun _ _ => rfl) : ED X K W (.Subscript a b pos) (e2 ixD fa fb) := by
  obtain ⟨ta, pa, sa⟩ := ha.ex
  obtain ⟨tb, pb, sb⟩ := hb.ex
  exact ⟨tOp (rIx K.K) ta tb, (fun i => pe_ix (by rw [← c.kk i]; exact ix_seq) (pa i) (pb i) hs), fun fr ρ σ H Q S q => sim_tOp ops_ix sa sb S q⟩
/-! ### comparisons -/
theorem ed_lt (c : CF X K W k) (ha : ED X K W a fa) (hb : ED X K W b fb) : ED X K W (.Compare a [.Lt] [b] pos) (e2 ltD fa fb) := ed_cmp (fun _ => op_lt) ops_lt ha hb (nomark _)
theorem ed_le (c : CF X K W k) (ha : ED X K W a fa) (hb : ED X K W b fb) : ED X K W (.Compare a [.LtE] [b] pos) (e2 lebD fa fb) := ed_cmp (fun _ => op_le) ops_le ha hb (nomark _)
theorem ed_gt (c : CF X K W k) (ha : ED X K W a fa) (hb : ED X K W b fb) : ED X K W (.Compare a [.Gt] [b] pos) (e2 gtD fa fb) := ed_cmp (fun _ => op_gt) ops_gt ha hb (nomark _)
theorem ed_ge (c : CF X K W k) (ha : ED X K W a fa) (hb : ED X K W b fb) : ED X K W (.Compare a [.GtE] [b] pos) (e2 geD fa fb) := ed_cmp (fun _ => op_ge) ops_ge ha hb (nomark _)
theorem td_lt (c : CF X K W k) (ha : ED X K W a fa) (hb : ED X K W b fb) : TD X K W (.Compare a [.Lt] [b] pos) (eB (e2 ltD fa fb)) := td_cmp (fun _ => op_lt) ops_lt ha hb (nomark _)
theorem td_le (c : CF X K W k) (ha : ED X K W a fa) (hb : ED X K W b fb) : TD X K W (.Compare a [.LtE] [b] pos) (eB (e2 lebD fa fb)) := td_cmp (fun _ => op_le) ops_le ha hb (nomark _)
theorem td_gt (c : CF X K W k) (ha : ED X K W a fa) (hb : ED X K W b fb) : TD X K W (.Compare a [.Gt] [b] pos) (eB (e2 gtD fa fb)) := td_cmp (fun _ => op_gt) ops_gt ha hb (nomark _)
theorem td_ge (c : CF X K W k) (ha : ED X K W a fa) (hb : ED X K W b fb) : TD X K W (.Compare a [.GtE] [b] pos) (eB (e2 geD fa fb)) := td_cmp (fun _ => op_ge) ops_ge ha hb (nomark _)
/-! == and != of data -/
mutual
def toPy : D → Option PyData
  | .non => some .none
  | .bl b => some (.bool b)
  | .int i => some (.int i)
  | .str x => some (.str x)
  | .scr ns => some (.list (ns.map PyData.int))
  | .tup ds => (toPyL ds).map PyData.tuple
  | .lst _ ds => (toPyL ds).map PyData.list
  | _ => none
def toPyL : List D → Option (List PyData)
  | [] => some []
  | d :: ds => (toPy d).bind fun p => (toPyL ds).map fun ps => p :: ps
end
theorem dp_ints {K : PySem.W.Frag} {H : Hp} : ∀ ns : List Int, DpAll K H (ns.map V.int) (ns.map PyData.int)
  | [] => .nil
  | n :: ns => .cons (.int n) (dp_ints ns)
mutual
theorem rep_dp {F H : Hp} (h : ∀ a o, F a = some o → H a = some o) : ∀ (d : D) (v : V) (A : List Addr) (p : PyData), Rep K F H d v A → toPy d = some p → Dp K.K H v p
  | .non, v, A, p, r, e => by obtain ⟨rfl, _⟩ := r; cases e; exact .non
  | .bl b, v, A, p, r, e => by obtain ⟨rfl, _⟩ := r; cases e; exact .bl b
  | .int i, v, A, p, r, e => by obtain ⟨rfl, _⟩ := r; cases e; exact .int i
  | .str x, v, A, p, r, e => by obtain ⟨rfl, _⟩ := r; cases e; exact .str x
  | .adr _, v, A, p, r, e => by cases e
  | .scr ns, v, A, p, r, e => by
    obtain ⟨_, a, rfl, s⟩ := r
    cases e
    exact .lst (SqL.mono h s) (dp_ints ns)
  | .tup ds, v, A, p, r, e => by
    obtain ⟨_, a, xs, rfl, s, r⟩ := r
    unfold toPy at e
    cases e1 : toPyL ds with
    | none => rw [e1] at e; cases e
    | some ps =>
      rw [e1] at e
      cases e
      exact .tup (SqT.mono h (SqT.of s)) (rep_dpL h ds xs [] ps r e1)
  | .lst false ds, v, A, p, r, e => by
    obtain ⟨_, a, xs, rfl, s, r⟩ := r
    unfold toPy at e
    cases e1 : toPyL ds with
    | none => rw [e1] at e; cases e
    | some ps =>
      rw [e1] at e
      cases e
      exact .lst (SqL.of (h _ _ s)) (rep_dpL h ds xs [] ps r e1)
  | .lst true ds, v, A, p, r, e => by
    obtain ⟨a, xs, B, rfl, rfl, s, r⟩ := r
    unfold toPy at e
    cases e1 : toPyL ds with
    | none => rw [e1] at e; cases e
    | some ps =>
      rw [e1] at e
      cases e
      exact .lst (SqL.of s) (rep_dpL h ds xs B ps r e1)
  | .dk _ _ _, v, A, p, r, e => by cases e
  | .dt _ _ _, v, A, p, r, e => by cases e
  | .obj _ _ _ _, v, A, p, r, e => by cases e
theorem rep_dpL {F H : Hp} (h : ∀ a o, F a = some o → H a = some o) : ∀ (ds : List D) (vs : List V) (A : List Addr) (ps : List PyData), RepL K F H ds vs A → toPyL ds = some ps → DpAll K.K H vs ps
  | [], vs, A, ps, r, e => by obtain ⟨rfl, _⟩ := r; cases e; exact .nil
  | d :: ds, vs, A, ps, r, e => by
    obtain ⟨v, ws, B, C, rfl, rfl, r1, r2⟩ := r
    unfold toPyL at e
    cases e1 : toPy d with
    | none => rw [e1] at e; cases e
    | some p =>
      rw [e1] at e
      cases e2 : toPyL ds with
      | none => rw [e2] at e; cases e
      | some qs =>
        rw [e2] at e
        cases e
        exact .cons (rep_dp h d v B p r1 e1) (rep_dpL h ds ws C qs r2 e2)
end
/-- == of plain data -/
def eqB (x y : D) : Option Bool := (toPy x).bind fun p => (toPy y).bind fun q => if SeqAt.shaped p = true ∧ SeqAt.shaped q = true then some (PyData.eqv p q) else none
def eqD (x y : D) : Option D := (eqB x y).map D.bl
def neD (x y : D) : Option D := (eqB x y).map fun b => D.bl !b
theorem eqB_some {x y : D} {b : Bool} (h : eqB x y = some b) : ∃ p q, toPy x = some p ∧ toPy y = some q ∧ SeqAt.shaped p = true ∧ SeqAt.shaped q = true ∧ PyData.eqv p q = b := by
  unfold eqB at h
  cases e1 : toPy x with
  | none => rw [e1] at h; cases h
  | some p =>
    cases e2 : toPy y with
    | none => rw [e1, e2] at h; cases h
    | some q =>
      rw [e1, e2] at h
      by_cases hz : SeqAt.shaped p = true ∧ SeqAt.shaped q = true
      · simp only [Option.bind_some, hz, and_self, if_true] at h
        exact ⟨p, q, rfl, rfl, hz.1, hz.2, Option.some.inj h⟩
      · simp only [Option.bind_some, hz, if_false] at h
        cases h
theorem ops_eq : OpS K (rEqD K.K) eqD := by
  intro fr ρ σ H dx dy vx vy d Q S e q
  unfold eqD at e
  cases e1 : eqB dx dy with
  | none => rw [e1] at e; cases e
  | some b =>
    rw [e1] at e
    cases e
    obtain ⟨p, r, h1, h2, h3, h4, h5⟩ := eqB_some e1
    obtain ⟨F1, B1, r1, k1⟩ := S.drop.top
    obtain ⟨F2, B2, r2, k2⟩ := S.top
    refine ⟨p, r, rep_dp k1 _ _ _ _ r1 h1, rep_dp k2 _ _ _ _ r2 h2, h3, h4, ?_⟩
    rw [h5]
    exact q _ H (S.drop.drop.pushF rfl)
theorem ops_ne : OpS K (rNeD K.K) neD := by
  intro fr ρ σ H dx dy vx vy d Q S e q
  unfold neD at e
  cases e1 : eqB dx dy with
  | none => rw [e1] at e; cases e
  | some b =>
    rw [e1] at e
    cases e
    obtain ⟨p, r, h1, h2, h3, h4, h5⟩ := eqB_some e1
    obtain ⟨F1, B1, r1, k1⟩ := S.drop.top
    obtain ⟨F2, B2, r2, k2⟩ := S.top
    refine ⟨p, r, rep_dp k1 _ _ _ _ r1 h1, rep_dp k2 _ _ _ _ r2 h2, h3, h4, ?_⟩
    rw [h5]
    exact q _ H (S.drop.drop.pushF rfl)
theorem CF.eqD (c : CF X K W k) (i : ι) : OpR (X i) (compareOp .Eq) (rEqD K.K) := by rw [← c.kk i]; exact op_eqD (c.room i).units
theorem CF.neD (c : CF X K W k) (i : ι) : OpR (X i) (compareOp .NotEq) (rNeD K.K) := by rw [← c.kk i]; exact op_neD (c.room i).units
theorem ed_eq (c : CF X K W k) (ha : ED X K W a fa) (hb : ED X K W b fb) : ED X K W (.Compare a [.Eq] [b] pos) (e2 eqD fa fb) := ed_cmp (fun i => c.eqD i) ops_eq ha hb (nomark _)
theorem ed_ne (c : CF X K W k) (ha : ED X K W a fa) (hb : ED X K W b fb) : ED X K W (.Compare a [.NotEq] [b] pos) (e2 neD fa fb) := ed_cmp (fun i => c.neD i) ops_ne ha hb (nomark _)
theorem td_eq (c : CF X K W k) (ha : ED X K W a fa) (hb : ED X K W b fb) : TD X K W (.Compare a [.Eq] [b] pos) (eB (e2 eqD fa fb)) := td_cmp (fun i => c.eqD i) ops_eq ha hb (nomark _)
theorem td_ne (c : CF X K W k) (ha : ED X K W a fa) (hb : ED X K W b fb) : TD X K W (.Compare a [.NotEq] [b] pos) (eB (e2 neD fa fb)) := td_cmp (fun i => c.neD i) ops_ne ha hb (nomark _)
/-! is None -/
def isN : D → Bool
  | .non => true
  | _ => false
theorem Sim.isN {fr : Fr} {ρ : Env} {σ : L2.St} {H : Hp} {d : D} {v : V} (S : Sim K fr (some d :: ρ) (some v :: σ) H) : decide (v = .non) = DL.isN d := by
  obtain ⟨F, B, r, _⟩ := S.top
  cases d with
  | non => obtain ⟨rfl, _⟩ := r; rfl
  | bl b => obtain ⟨rfl, _⟩ := r; rfl
  | int b => obtain ⟨rfl, _⟩ := r; rfl
  | str b => obtain ⟨rfl, _⟩ := r; rfl
  | adr b => obtain ⟨rfl, _⟩ := r; rfl
  | scr ns => obtain ⟨_, a, rfl, _⟩ := r; rfl
  | tup ds => obtain ⟨_, a, xs, rfl, _⟩ := r; rfl
  | lst o ds => cases o with
    | false => obtain ⟨_, a, xs, rfl, _⟩ := r; rfl
    | true => obtain ⟨a, xs, B, rfl, _⟩ := r; rfl
  | dk o ks ds => cases o with
    | false => obtain ⟨_, a, xs, rfl, _⟩ := r; rfl
    | true => obtain ⟨a, xs, B, rfl, _⟩ := r; rfl
  | dt o ks ds => cases o with
    | false => obtain ⟨_, a, xs, rfl, _⟩ := r; rfl
    | true => obtain ⟨a, xs, B, rfl, _⟩ := r; rfl
  | obj o c ns ds => cases o with
    | false => obtain ⟨_, a, C, dx, fs, rfl, _⟩ := r; rfl
    | true => obtain ⟨a, C, dx, fs, B, rfl, _⟩ := r; rfl
def eIsN (f : M D) : M D := mbind f fun d => mret (.bl (isN d))
def eNotN (f : M D) : M D := mbind f fun d => mret (.bl !(isN d))
theorem sim_isN {t : TE} (s : ∀ fr ρ σ H Q, Sim K fr ρ σ H → QE K W fr σ (fa ρ) Q → t σ H Q) {fr : Fr} {ρ : Env} {σ : L2.St} {H : Hp} {Q : VK} (S : Sim K fr ρ σ H) (q : QE K W fr σ (eIsN fa ρ) Q) : tIsN t σ H Q := by
  refine s fr ρ σ H _ S ((QR.bind q).mono fun d ρ1 q1 v H1 S1 => ?_)
  show Q (.bl (decide (v = .non))) H1
  rw [S1.isN]
  exact q1 _ H1 (S1.drop.pushF rfl)
theorem sim_notN {t : TE} (s : ∀ fr ρ σ H Q, Sim K fr ρ σ H → QE K W fr σ (fa ρ) Q → t σ H Q) {fr : Fr} {ρ : Env} {σ : L2.St} {H : Hp} {Q : VK} (S : Sim K fr ρ σ H) (q : QE K W fr σ (eNotN fa ρ) Q) : tNotN t σ H Q := by
  refine s fr ρ σ H _ S ((QR.bind q).mono fun d ρ1 q1 v H1 S1 => ?_)
  show Q (.bl (!decide (v = .non))) H1
  rw [S1.isN]
  exact q1 _ H1 (S1.drop.pushF rfl)
theorem ed_isN {j pos'} (ha : ED X K W a fa) : ED X K W (.Compare a [.Is] [.Constant .none j pos'] pos) (eIsN fa) := by
  obtain ⟨t, p, s⟩ := ha.ex
  exact ⟨tIsN t, (fun i => pe_cmp (pc_isN (p i)) rfl), fun fr ρ σ H Q S q => sim_isN s S q⟩
theorem ed_notN {j pos'} (ha : ED X K W a fa) : ED X K W (.Compare a [.IsNot] [.Constant .none j pos'] pos) (eNotN fa) := by
  obtain ⟨t, p, s⟩ := ha.ex
  exact ⟨tNotN t, (fun i => pe_cmp (pc_notN (p i)) rfl), fun fr ρ σ H Q S q => sim_notN s S q⟩
theorem td_isN {j pos'} (ha : ED X K W a fa) : TD X K W (.Compare a [.Is] [.Constant .none j pos'] pos) (eB (eIsN fa)) := by
  obtain ⟨t, p, s⟩ := ha.ex
  exact ⟨tB (tIsN t), (fun i => pt_cmp (pc_isN (p i)) rfl), fun fr ρ σ H Q S q => sim_tTest (fun fr ρ σ H Q S q => sim_isN s S q) S q⟩
theorem td_notN {j pos'} (ha : ED X K W a fa) : TD X K W (.Compare a [.IsNot] [.Constant .none j pos'] pos) (eB (eNotN fa)) := by
  obtain ⟨t, p, s⟩ := ha.ex
  exact ⟨tB (tNotN t), (fun i => pt_cmp (pc_notN (p i)) rfl), fun fr ρ σ H Q S q => sim_tTest (fun fr ρ σ H Q S q => sim_notN s S q) S q⟩
/-! chains: the middle one is asked once; it is flat -/
def eChain (F G : D → D → Option D) (fa fb fc : M D) : M D := mbind fa fun x => mbind fb fun y => mbind (mlift (F x y)) fun r => mbind (mlift (isB r)) fun k => if k = true then (if (flat y).isSome = true then mbind fc fun z => mlift (G y z) else mlift none) else mret (.bl false)
theorem sim_chain {r r' : R2} {F G : D → D → Option D} (ho : OpS K r F) (ho' : OpS K r' G) {ta tb tc : TE} (sa : ∀ fr ρ σ H Q, Sim K fr ρ σ H → QE K W fr σ (fa ρ) Q → ta σ H Q) (sb : ∀ fr ρ σ H Q, Sim K fr ρ σ H → QE K W fr σ (fb ρ) Q → tb σ H Q) (sc : ∀ fr ρ σ H Q, Sim K fr ρ σ H → QE K W fr σ (fc ρ) Q → tc σ H Q)
    {fr : Fr} {ρ : Env} {σ : L2.St} {H : Hp} {Q : VK} (S : Sim K fr ρ σ H) (q : QE K W fr σ (eChain F G fa fb fc ρ) Q) : tChain r r' ta tb tc σ H Q := by
  refine sa fr ρ σ H _ S ((QR.bind q).mono fun dx ρ1 q1 vx H1 S1 => ?_)
  refine two S1 sb (QR.bind q1) fun dy ρ2 vy H2 q2 S2 => ?_
  obtain ⟨d, e, q3⟩ := QR.lift (QR.bind q2)
  obtain ⟨k, ek, q4⟩ := QR.lift (QR.bind q3)
  have := isB_eq ek
  subst this
  have hS2 := S2
  refine ho fr ρ2 σ H2 dx dy vx vy (.bl k) _ S2 e fun v H3 S3 => ?_
  have := S3.topF rfl
  subst this
  refine ⟨k, rfl, ?_⟩
  cases k with
  | false =>
    rw [if_neg Bool.false_ne_true] at q4 ⊢
    exact q4 _ H3 S3
  | true =>
    rw [if_pos rfl] at q4 ⊢
    by_cases hf : (flat dy).isSome = true
    · simp only [hf, if_true] at q4
      obtain ⟨u, hu⟩ := Option.isSome_iff_exists.mp hf
      have := hS2.topF hu
      subst this
      have S4 : Sim K fr (some dy :: ρ2) (some vy :: σ) H3 := S3.drop.pushF hu
      refine two S4 sc (QR.bind q4) fun dz ρ3 vz H4 q5 S5 => ?_
      obtain ⟨d', e', q6⟩ := QR.lift q5
      exact ho' fr ρ3 σ H4 dy dz vy vz d' Q S5 e' q6
    · simp only [hf] at q4
      exact q4.elim
theorem ed_chain {op op' : CmpOp} {r r' : R2} {F G : D → D → Option D} (h : ∀ i, OpR (X i) (compareOp op) r) (h' : ∀ i, OpR (X i) (compareOp op') r') (ho : OpS K r F) (ho' : OpS K r' G) (ha : ED X K W a fa) (hb : ED X K W b fb) (hc : ED X K W c' fc) (hm : lastMarks [op, op'] [b, c'] = false := by with_unfolding_all rfl) :
    ED X K W (.Compare a [op, op'] [b, c'] pos) (eChain F G fa fb fc) := by
  obtain ⟨ta, pa, sa⟩ := ha.ex
  obtain ⟨tb, pb, sb⟩ := hb.ex
  obtain ⟨tc, pc, sc⟩ := hc.ex
  exact ⟨tChain r r' ta tb tc, (fun i => pe_chain (h i) (h' i) (pa i) (pb i) (pc i) hm), fun fr ρ σ H Q S q => sim_chain ho ho' sa sb sc S q⟩
theorem td_chain {op op' : CmpOp} {r r' : R2} {F G : D → D → Option D} (h : ∀ i, OpR (X i) (compareOp op) r) (h' : ∀ i, OpR (X i) (compareOp op') r') (ho : OpS K r F) (ho' : OpS K r' G) (ha : ED X K W a fa) (hb : ED X K W b fb) (hc : ED X K W c' fc) (hm : lastMarks [op, op'] [b, c'] = false := by with_unfolding_all rfl) :
    TD X K W (.Compare a [op, op'] [b, c'] pos) (eB (eChain F G fa fb fc)) := by
  obtain ⟨ta, pa, sa⟩ := ha.ex
  obtain ⟨tb, pb, sb⟩ := hb.ex
  obtain ⟨tc, pc, sc⟩ := hc.ex
  exact ⟨tTest (tChain r r' ta tb tc), (fun i => pt_chain (h i) (h' i) (pa i) (pb i) (pc i) hm), fun fr ρ σ H Q S q => sim_tTest (fun fr ρ σ H Q S q => sim_chain ho ho' sa sb sc S q) S q⟩
end
end DL

set_option Elab.async false
set_option linter.all false
set_option maxRecDepth 100000
set_option maxHeartbeats 4000000
namespace DL
open PySem PySem.Spec L2
/-! ### isinstance of built-in types -/
inductive Ty where
  | int | bool | str | tuple | list | dict
def Ty.nm : Ty → String
  | .int => "int"
  | .bool => "bool"
  | .str => "str"
  | .tuple => "tuple"
  | .list => "list"
  | .dict => "dict"
def tyN : D → Option String
  | .non => some "NoneType"
  | .bl _ => some "bool"
  | .int _ => some "int"
  | .str _ => some "str"
  | .adr _ => none
  | .scr _ => some "list"
  | .tup _ => some "tuple"
  | .lst _ _ => some "list"
  | .dk _ _ _ => some "dict"
  | .dt o _ _ => if o then some "dict" else none
  | .obj _ _ _ _ => none
def instB : Ty → D → Option Bool
  | _, .adr _ => none
  | _, .obj _ _ _ _ => none
  | _, .dt false _ _ => none
  | .int, .int _ => some true
  | .int, .bl _ => some true
  | .bool, .bl _ => some true
  | .str, .str _ => some true
  | .tuple, .tup _ => some true
  | .list, .lst _ _ => some true
  | .list, .scr _ => some true
  | .dict, .dk _ _ _ => some true
  | .dict, .dt true _ _ => some true
  | _, _ => some false
theorem kitB_tab : ∀ t ∈ ["NoneType", "bool", "int", "str", "list", "tuple", "dict"], ∀ T ∈ ["int", "bool", "str", "tuple", "list", "dict"], kitB t T = some (t == T || (t == "bool" && T == "int")) := by decide +kernel
theorem instB_kit {T : Ty} {d : D} {b : Bool} (h : instB T d = some b) : ∃ t, tyN d = some t ∧ kitB t T.nm = some b := by
  have go : ∀ t, t ∈ ["NoneType", "bool", "int", "str", "list", "tuple", "dict"] → (t == T.nm || (t == "bool" && T.nm == "int")) = b → kitB t T.nm = some b := fun t ht e => by
    rw [← e]
    refine kitB_tab t ht T.nm ?_
    cases T <;> simp [Ty.nm]
  cases d with
  | adr a => cases T <;> cases h
  | obj o c ns ds => cases T <;> cases h
  | non => exact ⟨_, rfl, go _ (by simp) (by cases T <;> cases h <;> rfl)⟩
  | bl x => exact ⟨_, rfl, go _ (by simp) (by cases T <;> cases h <;> rfl)⟩
  | int x => exact ⟨_, rfl, go _ (by simp) (by cases T <;> cases h <;> rfl)⟩
  | str x => exact ⟨_, rfl, go _ (by simp) (by cases T <;> cases h <;> rfl)⟩
  | scr x => exact ⟨_, rfl, go _ (by simp) (by cases T <;> cases h <;> rfl)⟩
  | tup x => exact ⟨_, rfl, go _ (by simp) (by cases T <;> cases h <;> rfl)⟩
  | lst o x => exact ⟨_, rfl, go _ (by simp) (by cases T <;> cases h <;> rfl)⟩
  | dk o ks x => exact ⟨_, rfl, go _ (by simp) (by cases T <;> cases h <;> rfl)⟩
  | dt o ks x => cases o with
    | false => cases T <;> cases h
    | true => exact ⟨_, rfl, go _ (by simp) (by cases T <;> cases h <;> rfl)⟩
theorem rd_ty {K : PySem.W.Frag} {H : Hp} {a : Addr} {xs : List V} (h : SqL K H a xs) : TyX K H (.ref a) (.type "list") := by
  rcases h with (h | ⟨o, h⟩) | ⟨o, its, n, h, c, _⟩
  · exact .base (.lst h)
  · exact .base (.frz h)
  · exact .kList h c
theorem rd_tyT {K : PySem.W.Frag} {H : Hp} {a : Addr} {xs : List V} (h : SqT K H a xs) : TyX K H (.ref a) (.type "tuple") := by
  rcases h with (h | ⟨o, h⟩) | ⟨o, its, n, h, c, _⟩
  · exact .base (.tup h)
  · exact .fTuple h
  · exact .kTuple h c
section
variable {K : RC} {fr : Fr} {ρ : Env} {σ : L2.St} {H : Hp} {d : D} {v : V}
theorem Sim.ty {t : String} (S : Sim K fr (some d :: ρ) (some v :: σ) H) (e : tyN d = some t) : TyX K.K H v (.type t) := by
  obtain ⟨F, B, r, k⟩ := S.top
  cases d with
  | non => cases e; obtain ⟨rfl, _⟩ := r; exact .base .non
  | bl b => cases e; obtain ⟨rfl, _⟩ := r; exact .base (.bl b)
  | int b => cases e; obtain ⟨rfl, _⟩ := r; exact .base (.int b)
  | str b => cases e; obtain ⟨rfl, _⟩ := r; exact .base (.str b)
  | adr b => cases e
  | scr ns => cases e; obtain ⟨_, a, rfl, s⟩ := r; exact rd_ty (SqL.mono k s)
  | tup ds => cases e; obtain ⟨_, a, xs, rfl, s, _⟩ := r; exact rd_tyT (SqT.mono k (SqT.of s))
  | lst o ds => cases e; cases o with
    | false => obtain ⟨_, a, xs, rfl, s, _⟩ := r; exact .base (.lst (k _ _ s))
    | true => obtain ⟨a, xs, B, rfl, _, s, _⟩ := r; exact .base (.lst s)
  | dk o ks ds => cases e; cases o with
    | false => obtain ⟨_, a, xs, rfl, s, _⟩ := r; exact .base (.dK (k _ _ s))
    | true => obtain ⟨a, xs, B, rfl, _, s, _⟩ := r; exact .base (.dK s)
  | dt o ks ds => cases o with
    | false => cases e
    | true => cases e; obtain ⟨a, xs, B, rfl, _, s, _⟩ := r; exact .base (.dT s)
  | obj o c ns ds => cases e
end
def eInst (T : Ty) (f : M D) : M D := mbind f fun d => mbind (mlift (instB T d)) fun b => mret (.bl b)
section
variable {ι : Type} {X : ι → Cx} {K : RC} {W : WX} {k : Nat} {e a b : Expr} {es : List Expr} {f fa fb : M D} {g : M (List D)} {pos : Pos}
theorem boot_ty (T : Ty) : bootBuiltins (Str.ofString T.nm) = some (.type T.nm) := by cases T <;> decide +kernel
theorem ed_inst (T : Ty) {y : Str} {p p2 : Pos} (c : CF X K W k) (hg : ∀ i, Gl (X i) "isinstance") (hm : K.mg "isinstance" = none) (hg2 : ∀ i, Gl (X i) y) (hm2 : K.mg y = none) (hv : bootBuiltins y = some (.type T.nm)) (ha : ED X K W a fa)
    (hn : y ≠ "__name__" := by decide) (hdb : (y == ("__debug__" : Str)) = false := by decide) (he : ∀ i, starEach (a :: [.Name y p2]) (X i).env = (false, eval a (X i).env) :: starEach [.Name y p2] (X i).env := by intro _; rfl) (he2 : ∀ i, starEach [.Name y p2] (X i).env = (false, eval (.Name y p2) (X i).env) :: starEach [] (X i).env := by intro _; rfl)
    (hpl : ∀ i, (backTo pos (starEach [.Name y p2] (X i).env)).any (·.1) = false := by intro _; rfl) : ED X K W (.Call (.Name "isinstance" p) [a, .Name y p2] [] pos) (eInst T fa) := by
  obtain ⟨t, pa, s⟩ := ha.ex
  refine ⟨tCB (rIsi K.K) (tCons t (tCons (tC (.ty T.nm)) tNil)), (fun i => ?_), fun fr ρ σ H Q S q => s fr ρ σ H _ S ((QR.bind q).mono fun d ρ1 q1 v H1 S1 => ?_)⟩
  · have h := pe_callB (X := X i) (p := p) (pos := pos) call_isi (hg i) (by rw [c.mg i]; exact hm) (by decide +kernel) (pa_cons (pa i) (pa_cons (pe_bltn (pos := p2) (hg2 i) (by rw [c.mg i]; exact hm2) hv (show RelV (.ty T.nm) (.type T.nm) from rfl) hn hdb) pa_nil (he2 i)) (he i)) (by decide) (by decide) (he i) (hpl i)
    rw [c.kk i] at h
    exact h
  · obtain ⟨b, e1, q2⟩ := QR.lift (QR.bind q1)
    obtain ⟨t', e2, e3⟩ := instB_kit e1
    exact ⟨v, .ty T.nm, .type t', .type T.nm, b, rfl, .ty _, S1.ty e2, kit_ty e3, q2 _ H1 (S1.drop.pushF rfl)⟩
/-! ### len, int, bool, tuple, list, abs, max, min, all, any, sum -/
def lenD : List D → Option D
  | [.str x] => if x.length ≤ sizeLine then some (.int x.length) else none
  | [.dk _ ks _] => some (.int ks.length)
  | [d] => (items d).map fun ds => .int ds.length
  | _ => none
def rLenA (K : PySem.W.Frag) : List V → Hp → VK → Prop := fun xs H Q => (∃ p ys, xs = [.ref p] ∧ (SqL K H p ys ∨ SqT K H p ys) ∧ Q (.int ys.length) H) ∨ ((∃ z, xs = [.str z] ∧ z.length ≤ sizeLine ∧ Q (.int z.length) H) ∨ (∃ (p : Addr) (kvs : List (Key × V)), xs = [.ref p] ∧ H p = some (.dK kvs) ∧ Q (.int ((kvs.length : Nat) : Int)) H))
theorem CallR.or {X : Cx} {f : Value} {r r' : List V → Hp → VK → Prop} (h : CallR X f r) (h' : CallR X f r') : CallR X f (fun xs H Q => r xs H Q ∨ r' xs H Q) := by
  intro pins s σ H xs us Q I rx q
  rcases q with q | q
  · exact h pins s σ H xs us Q I rx q
  · exact h' pins s σ H xs us Q I rx q
theorem len_strR {X : Cx} : CallR X (.builtin "len") (fun xs H Q => ∃ z, xs = [.str z] ∧ z.length ≤ sizeLine ∧ Q (.int z.length) H) := by
  intro pins s σ H xs us Q I rx q
  obtain ⟨z, rfl, hz, q⟩ := q
  exact call_len pins s σ H _ us Q I rx ⟨.str z, z.length, rfl, ⟨hz, rfl⟩, q⟩
theorem call_lenA {X : Cx} : CallR X (.builtin "len") (rLenA X.K) := CallR.or call_len_seq (CallR.or len_strR (by
  intro pins s σ H xs us Q I rx q
  obtain ⟨p, kvs, rfl, h, q⟩ := q
  exact call_lenD pins s σ H _ us Q I rx ⟨p, kvs, rfl, h, q⟩))
theorem one_of {ds : List D} {vs : List V} {d : D} (hl : vs.length = ds.length) (e : ds = [d]) : ∃ v, vs = [v] := by
  subst e
  match vs, hl with
  | [v], _ => exact ⟨v, rfl⟩
theorem cas_len : CaS K (rLenA K.K) lenD := by
  intro fr ρ σ H ds vs d Q hl S e q
  have one : ∃ d0, ds = [d0] := by
    unfold lenD at e
    split at e
    · exact ⟨_, rfl⟩
    · exact ⟨_, rfl⟩
    · exact ⟨_, rfl⟩
    · cases e
  obtain ⟨d0, rfl⟩ := one
  · obtain ⟨v, rfl⟩ := one_of hl rfl
    have S : Sim K fr (some d0 :: ρ) (some v :: σ) H := S
    have seq : ∀ xs, items d0 = some xs → d = .int xs.length → rLenA K.K [v] H Q := fun xs hi hd => by
      obtain ⟨p, us, rfl, h2, h3, _, S1⟩ := S.explode hi
      subst hd
      refine .inl ⟨p, us, rfl, ?_, ?_⟩
      · by_cases hk : isL d0 = true
        · rw [if_pos hk] at h3; exact .inl h3
        · rw [if_neg hk] at h3; exact .inr h3
      · rw [h2]; exact q _ H (S.drop.pushF rfl)
    cases d0 with
    | str x =>
      unfold lenD at e
      by_cases hz : x.length ≤ sizeLine
      · simp only [hz, if_true] at e
        cases e
        exact .inr (.inl ⟨x, by rw [S.topF rfl], hz, q _ H (S.drop.pushF rfl)⟩)
      · simp only [hz, if_false] at e
        cases e
    | dk o ks xs =>
      cases e
      obtain ⟨F, B, r, kk⟩ := S.top
      cases o with
      | false =>
        obtain ⟨_, a, kvs, rfl, s, rfl, _⟩ := r
        refine .inr (.inr ⟨a, kvs, rfl, kk _ _ s, ?_⟩)
        have z := q _ H (S.drop.pushF rfl)
        rw [List.length_map] at z
        exact z
      | true =>
        obtain ⟨a, kvs, B, rfl, _, s, rfl, _⟩ := r
        refine .inr (.inr ⟨a, kvs, rfl, s, ?_⟩)
        have z := q _ H (S.drop.pushF rfl)
        rw [List.length_map] at z
        exact z
    | tup xs => exact seq xs rfl (by cases e; rfl)
    | lst o xs => exact seq xs rfl (by cases e; rfl)
    | scr ns => exact seq _ rfl (by cases e; rfl)
    | _ => cases e
theorem ed_len {p : Pos} (c : CF X K W k) (hg : ∀ i, Gl (X i) "len") (hm : K.mg "len" = none) (ha : AM X K W [a] g []) (he : ∀ i, starEach [a] (X i).env = (false, eval a (X i).env) :: starEach [] (X i).env := by intro _; rfl) (hpl : ∀ i, (backTo pos (starEach [] (X i).env)).any (·.1) = false := by intro _; rfl) :
    ED X K W (.Call (.Name "len" p) [a] [] pos) (eBi lenD g) := ed_bi (r := rLenA K.K) c (fun i => by rw [← c.kk i]; exact call_lenA) cas_len hg hm (by decide +kernel) ha (by decide) (by decide) he hpl
def intD : List D → Option D
  | [.int i] => some (.int i)
  | [.bl b] => some (.int (if b then 1 else 0))
  | _ => none
theorem cas_int : CaS K (fun xs H Q => (∃ i, xs = [.int i] ∧ Q (.int i) H) ∨ ∃ k, xs = [.bl k] ∧ Q (.int (if k then 1 else 0)) H) intD := by
  intro fr ρ σ H ds vs d Q hl S e q
  unfold intD at e
  split at e
  · rename_i i
    obtain ⟨v, rfl⟩ := one_of hl rfl
    have S : Sim K fr (some (.int i) :: ρ) (some v :: σ) H := S
    cases e
    exact .inl ⟨i, by rw [S.topF rfl], q _ H (S.drop.pushF rfl)⟩
  · rename_i b
    obtain ⟨v, rfl⟩ := one_of hl rfl
    have S : Sim K fr (some (.bl b) :: ρ) (some v :: σ) H := S
    cases e
    exact .inr ⟨b, by rw [S.topF rfl], q _ H (S.drop.pushF rfl)⟩
  · cases e
theorem ed_toint {p : Pos} (c : CF X K W k) (hg : ∀ i, Gl (X i) "int") (hm : K.mg "int" = none) (ha : AM X K W [a] g []) (he : ∀ i, starEach [a] (X i).env = (false, eval a (X i).env) :: starEach [] (X i).env := by intro _; rfl) (hpl : ∀ i, (backTo pos (starEach [] (X i).env)).any (·.1) = false := by intro _; rfl) :
    ED X K W (.Call (.Name "int" p) [a] [] pos) (eBi intD g) := ed_ty c (fun i => call_int1) cas_int hg hm (by decide +kernel) ha (by decide) (by decide) he hpl
/-! tuple(x), list(x) -/
def tupleD : List D → Option D
  | [.tup ds] => some (.tup ds)
  | [d] => (items d).map fun ds => .tup (frzL ds)
  | _ => none
theorem cas_tuple : CaS K (fun xs H Q => ∃ p ys, xs = [.ref p] ∧ ((SqL K.K H p ys ∧ ∀ l, H l = none → Q (.ref l) (upd H l (.tup ys))) ∨ (SqT K.K H p ys ∧ Q (.ref p) H))) tupleD := by
  intro fr ρ σ H ds vs d Q hl S e q
  have one : ∃ d0, ds = [d0] := by
    unfold tupleD at e
    split at e
    · exact ⟨_, rfl⟩
    · exact ⟨_, rfl⟩
    · cases e
  obtain ⟨d0, rfl⟩ := one
  · obtain ⟨v, rfl⟩ := one_of hl rfl
    have S : Sim K fr (some d0 :: ρ) (some v :: σ) H := S
    cases d0 with
    | tup xs =>
      cases e
      obtain ⟨p, us, rfl, h2, h3, _, S1⟩ := S.explode (ds := xs) rfl
      exact ⟨p, us, rfl, .inr ⟨h3, q _ H S⟩⟩
    | lst o xs =>
      cases e
      obtain ⟨p, us, rfl, h2, h3, _, S1⟩ := S.explode (ds := xs) rfl
      exact ⟨p, us, rfl, .inl ⟨h3, fun l hl => q _ _ (S1.newT h2 hl)⟩⟩
    | scr ns =>
      cases e
      obtain ⟨p, us, rfl, h2, h3, _, S1⟩ := S.explode (ds := ns.map D.int) rfl
      exact ⟨p, us, rfl, .inl ⟨h3, fun l hl => q _ _ (S1.newT h2 hl)⟩⟩
    | _ => cases e
theorem ed_tuple {p : Pos} (c : CF X K W k) (hg : ∀ i, Gl (X i) "tuple") (hm : K.mg "tuple" = none) (ha : AM X K W [a] g []) (he : ∀ i, starEach [a] (X i).env = (false, eval a (X i).env) :: starEach [] (X i).env := by intro _; rfl) (hpl : ∀ i, (backTo pos (starEach [] (X i).env)).any (·.1) = false := by intro _; rfl) :
    ED X K W (.Call (.Name "tuple" p) [a] [] pos) (eBi tupleD g) := ed_ty (r := fun xs H Q => ∃ p ys, xs = [.ref p] ∧ ((SqL K.K H p ys ∧ ∀ l, H l = none → Q (.ref l) (upd H l (.tup ys))) ∨ (SqT K.K H p ys ∧ Q (.ref p) H))) c (fun i => by rw [← c.kk i]; exact call_tuple_of) cas_tuple hg hm (by decide +kernel) ha (by decide) (by decide) he hpl
def listD : List D → Option D
  | [d] => (items d).map fun ds => .lst true ds
  | _ => none
theorem cas_list : CaS K (fun xs H Q => ∃ p ys, xs = [.ref p] ∧ (SqL K.K H p ys ∨ SqT K.K H p ys) ∧ ∀ l, H l = none → Q (.ref l) (upd H l (.lst ys))) listD := by
  intro fr ρ σ H ds vs d Q hl S e q
  have one : ∃ d0, ds = [d0] := by
    unfold listD at e
    split at e
    · exact ⟨_, rfl⟩
    · cases e
  obtain ⟨d0, rfl⟩ := one
  · obtain ⟨v, rfl⟩ := one_of hl rfl
    have S : Sim K fr (some d0 :: ρ) (some v :: σ) H := S
    have e : (items d0).map (fun ds => D.lst true ds) = some d := e
    cases hi : items d0 with
    | none => rw [hi] at e; cases e
    | some xs =>
      rw [hi] at e
      cases e
      obtain ⟨p, us, rfl, h2, h3, _, S1⟩ := S.explode hi
      refine ⟨p, us, rfl, ?_, fun l hl => q _ _ (S1.newL h2 hl)⟩
      by_cases hk : isL d0 = true
      · rw [if_pos hk] at h3; exact .inl h3
      · rw [if_neg hk] at h3; exact .inr h3
theorem ed_list {p : Pos} (c : CF X K W k) (hg : ∀ i, Gl (X i) "list") (hm : K.mg "list" = none) (ha : AM X K W [a] g []) (he : ∀ i, starEach [a] (X i).env = (false, eval a (X i).env) :: starEach [] (X i).env := by intro _; rfl) (hpl : ∀ i, (backTo pos (starEach [] (X i).env)).any (·.1) = false := by intro _; rfl) :
    ED X K W (.Call (.Name "list" p) [a] [] pos) (eBi listD g) := ed_ty (r := fun xs H Q => ∃ p ys, xs = [.ref p] ∧ (SqL K.K H p ys ∨ SqT K.K H p ys) ∧ ∀ l, H l = none → Q (.ref l) (upd H l (.lst ys))) c (fun i => by rw [← c.kk i]; exact call_list_of) cas_list hg hm (by decide +kernel) ha (by decide) (by decide) he hpl
/-! two intsL -/
def max2D : List D → Option D
  | [.int i, .int j] => some (.int (if j > i then j else i))
  | _ => none
def min2D : List D → Option D
  | [.int i, .int j] => some (.int (if j < i then j else i))
  | _ => none
def absD : List D → Option D
  | [.int i] => some (.int (if i < 0 then -i else i))
  | _ => none
theorem two_ints {fr : Fr} {ρ : Env} {σ : L2.St} {H : Hp} {i j : Int} {vs : List V} (hl : vs.length = [D.int i, D.int j].length) (S : Sim K fr ([D.int i, D.int j].map some ++ ρ) (vs.map some ++ σ) H) : vs = [.int i, .int j] ∧ Sim K fr ρ σ H := by
  match vs, hl with
  | [u, v], _ =>
    have S : Sim K fr (some (.int i) :: some (.int j) :: ρ) (some u :: some v :: σ) H := S
    rw [S.topF rfl, S.drop.topF rfl]
    exact ⟨rfl, S.drop.drop⟩
theorem cas_max2 : CaS K (fun xs H Q => ∃ i j, xs = [.int i, .int j] ∧ Q (.int (if j > i then j else i)) H) max2D := by
  intro fr ρ σ H ds vs d Q hl S e q
  unfold max2D at e
  split at e
  rotate_left
  · cases e
  · rename_i i j
    cases e
    obtain ⟨rfl, S'⟩ := two_ints hl S
    exact ⟨i, j, rfl, q _ H (S'.pushF rfl)⟩
theorem cas_min2 : CaS K (fun xs H Q => ∃ i j, xs = [.int i, .int j] ∧ Q (.int (if j < i then j else i)) H) min2D := by
  intro fr ρ σ H ds vs d Q hl S e q
  unfold min2D at e
  split at e
  rotate_left
  · cases e
  · rename_i i j
    cases e
    obtain ⟨rfl, S'⟩ := two_ints hl S
    exact ⟨i, j, rfl, q _ H (S'.pushF rfl)⟩
theorem cas_abs : CaS K (fun xs H Q => ∃ i, xs = [.int i] ∧ Q (.int (if i < 0 then -i else i)) H) absD := by
  intro fr ρ σ H ds vs d Q hl S e q
  unfold absD at e
  split at e
  rotate_left
  · cases e
  · rename_i i
    obtain ⟨v, rfl⟩ := one_of hl rfl
    have S : Sim K fr (some (.int i) :: ρ) (some v :: σ) H := S
    cases e
    exact ⟨i, by rw [S.topF rfl], q _ H (S.drop.pushF rfl)⟩
theorem ed_max2 {p : Pos} (c : CF X K W k) (hg : ∀ i, Gl (X i) "max") (hm : K.mg "max" = none) (ha : AM X K W [a, b] g []) (he : ∀ i, starEach [a, b] (X i).env = (false, eval a (X i).env) :: starEach [b] (X i).env := by intro _; rfl) (hpl : ∀ i, (backTo pos (starEach [b] (X i).env)).any (·.1) = false := by intro _; rfl) :
    ED X K W (.Call (.Name "max" p) [a, b] [] pos) (eBi max2D g) := ed_bi c (fun i => call_max2 (c.calm i)) cas_max2 hg hm (by decide +kernel) ha (by decide) (by decide) he hpl
theorem ed_min2 {p : Pos} (c : CF X K W k) (hg : ∀ i, Gl (X i) "min") (hm : K.mg "min" = none) (ha : AM X K W [a, b] g []) (he : ∀ i, starEach [a, b] (X i).env = (false, eval a (X i).env) :: starEach [b] (X i).env := by intro _; rfl) (hpl : ∀ i, (backTo pos (starEach [b] (X i).env)).any (·.1) = false := by intro _; rfl) :
    ED X K W (.Call (.Name "min" p) [a, b] [] pos) (eBi min2D g) := ed_bi c (fun i => call_min2 (c.calm i)) cas_min2 hg hm (by decide +kernel) ha (by decide) (by decide) he hpl
theorem ed_abs {p : Pos} (c : CF X K W k) (hg : ∀ i, Gl (X i) "abs") (hm : K.mg "abs" = none) (ha : AM X K W [a] g []) (he : ∀ i, starEach [a] (X i).env = (false, eval a (X i).env) :: starEach [] (X i).env := by intro _; rfl) (hpl : ∀ i, (backTo pos (starEach [] (X i).env)).any (·.1) = false := by intro _; rfl) :
    ED X K W (.Call (.Name "abs" p) [a] [] pos) (eBi absD g) := ed_bi c (fun i => call_abs) cas_abs hg hm (by decide +kernel) ha (by decide) (by decide) he hpl
/-! lists of boolsL, of intsL -/
def boolsL : List D → Option (List Bool)
  | [] => some []
  | .bl b :: ds => (boolsL ds).map fun bs => b :: bs
  | _ => none
def intsL : List D → Option (List Int)
  | [] => some []
  | .int i :: ds => (intsL ds).map fun is => i :: is
  | _ => none
theorem bools_rep {F H : Hp} : ∀ {ds : List D} {bs : List Bool} {vs : List V} {A : List Addr}, boolsL ds = some bs → RepL K F H ds vs A → vs = bs.map V.bl
  | [], bs, vs, A, e, r => by cases e; exact r.1
  | d :: ds, bs, vs, A, e, r => by
    obtain ⟨v, ws, B, C, rfl, rfl, r1, r2⟩ := r
    cases d with
    | bl b =>
      unfold boolsL at e
      cases e1 : boolsL ds with
      | none => rw [e1] at e; cases e
      | some bs' =>
        rw [e1] at e
        cases e
        rw [r1.1, bools_rep e1 r2]
        rfl
    | _ => cases e
theorem ints_rep {F H : Hp} : ∀ {ds : List D} {bs : List Int} {vs : List V} {A : List Addr}, intsL ds = some bs → RepL K F H ds vs A → vs = bs.map V.int
  | [], bs, vs, A, e, r => by cases e; exact r.1
  | d :: ds, bs, vs, A, e, r => by
    obtain ⟨v, ws, B, C, rfl, rfl, r1, r2⟩ := r
    cases d with
    | int b =>
      unfold intsL at e
      cases e1 : intsL ds with
      | none => rw [e1] at e; cases e
      | some bs' =>
        rw [e1] at e
        cases e
        rw [r1.1, ints_rep e1 r2]
        rfl
    | _ => cases e
/-- a list's reps -/
theorem Sim.lstRep {fr : Fr} {ρ : Env} {σ : L2.St} {H : Hp} {o : Bool} {ds : List D} {v : V} (S : Sim K fr (some (.lst o ds) :: ρ) (some v :: σ) H) : ∃ a xs F B, v = .ref a ∧ H a = some (.lst xs) ∧ RepL K F H ds xs B := by
  obtain ⟨F, B, r, kk⟩ := S.top
  cases o with
  | false => obtain ⟨_, a, xs, rfl, s, r⟩ := r; exact ⟨a, xs, F, [], rfl, kk _ _ s, r⟩
  | true => obtain ⟨a, xs, B, rfl, _, s, r⟩ := r; exact ⟨a, xs, F, B, rfl, s, r⟩
def allD : List D → Option D
  | [.lst _ ds] => (boolsL ds).map fun bs => .bl (bs.all id)
  | _ => none
def anyD : List D → Option D
  | [.lst _ ds] => (boolsL ds).map fun bs => .bl (bs.any id)
  | _ => none
def sumD : List D → Option D
  | [.lst _ ds] => (intsL ds).map fun is => .int is.sum
  | _ => none
theorem cas_all : CaS K (rAll K.K) allD := by
  intro fr ρ σ H ds vs d Q hl S e q
  unfold allD at e
  split at e
  rotate_left
  · cases e
  · rename_i o xs
    obtain ⟨v, rfl⟩ := one_of hl rfl
    have S : Sim K fr (some (.lst o xs) :: ρ) (some v :: σ) H := S
    cases hb : boolsL xs with
    | none => rw [hb] at e; cases e
    | some bs =>
      rw [hb] at e
      cases e
      obtain ⟨a, us, F, B, rfl, s, r⟩ := S.lstRep
      rw [bools_rep hb r] at s
      exact ⟨a, bs, rfl, SqL.of s, q _ H (S.drop.pushF rfl)⟩
theorem cas_any : CaS K (rAny K.K) anyD := by
  intro fr ρ σ H ds vs d Q hl S e q
  unfold anyD at e
  split at e
  rotate_left
  · cases e
  · rename_i o xs
    obtain ⟨v, rfl⟩ := one_of hl rfl
    have S : Sim K fr (some (.lst o xs) :: ρ) (some v :: σ) H := S
    cases hb : boolsL xs with
    | none => rw [hb] at e; cases e
    | some bs =>
      rw [hb] at e
      cases e
      obtain ⟨a, us, F, B, rfl, s, r⟩ := S.lstRep
      rw [bools_rep hb r] at s
      exact ⟨a, bs, rfl, SqL.of s, q _ H (S.drop.pushF rfl)⟩
theorem cas_sum : CaS K (rSum K.K) sumD := by
  intro fr ρ σ H ds vs d Q hl S e q
  unfold sumD at e
  split at e
  rotate_left
  · cases e
  · rename_i o xs
    obtain ⟨v, rfl⟩ := one_of hl rfl
    have S : Sim K fr (some (.lst o xs) :: ρ) (some v :: σ) H := S
    cases hb : intsL xs with
    | none => rw [hb] at e; cases e
    | some bs =>
      rw [hb] at e
      cases e
      obtain ⟨a, us, F, B, rfl, s, r⟩ := S.lstRep
      rw [ints_rep hb r] at s
      exact ⟨a, bs, rfl, SqL.of s, q _ H (S.drop.pushF rfl)⟩
theorem ed_all {p : Pos} (c : CF X K W k) (hg : ∀ i, Gl (X i) "all") (hm : K.mg "all" = none) (ha : AM X K W [a] g []) (he : ∀ i, starEach [a] (X i).env = (false, eval a (X i).env) :: starEach [] (X i).env := by intro _; rfl) (hpl : ∀ i, (backTo pos (starEach [] (X i).env)).any (·.1) = false := by intro _; rfl) :
    ED X K W (.Call (.Name "all" p) [a] [] pos) (eBi allD g) := ed_bi (r := rAll K.K) c (fun i => by rw [← c.kk i]; exact cr_all (c.calm i)) cas_all hg hm (by decide +kernel) ha (by decide) (by decide) he hpl
theorem ed_any {p : Pos} (c : CF X K W k) (hg : ∀ i, Gl (X i) "any") (hm : K.mg "any" = none) (ha : AM X K W [a] g []) (he : ∀ i, starEach [a] (X i).env = (false, eval a (X i).env) :: starEach [] (X i).env := by intro _; rfl) (hpl : ∀ i, (backTo pos (starEach [] (X i).env)).any (·.1) = false := by intro _; rfl) :
    ED X K W (.Call (.Name "any" p) [a] [] pos) (eBi anyD g) := ed_bi (r := rAny K.K) c (fun i => by rw [← c.kk i]; exact cr_any (c.calm i)) cas_any hg hm (by decide +kernel) ha (by decide) (by decide) he hpl
theorem ed_sum {p : Pos} (c : CF X K W k) (hg : ∀ i, Gl (X i) "sum") (hm : K.mg "sum" = none) (ha : AM X K W [a] g []) (he : ∀ i, starEach [a] (X i).env = (false, eval a (X i).env) :: starEach [] (X i).env := by intro _; rfl) (hpl : ∀ i, (backTo pos (starEach [] (X i).env)).any (·.1) = false := by intro _; rfl) :
    ED X K W (.Call (.Name "sum" p) [a] [] pos) (eBi sumD g) := ed_bi (r := rSum K.K) c (fun i => by rw [← c.kk i]; exact cr_sum (c.calm i)) cas_sum hg hm (by decide +kernel) ha (by decide) (by decide) he hpl
/-! tuple(range(..)), list(range(..)) -/
def rgD (a b : Int) : List D := (List.range (b - a).toNat).map fun i => .int (a + (i : Nat))
def rgOk (a b : Int) : Bool := decide (-(2 ^ 62) ≤ a ∧ a < 2 ^ 62 ∧ -(2 ^ 62) ≤ b ∧ b < 2 ^ 62 ∧ (b - a).toNat ≤ 2 ^ 24)
/-- a range's ends -/
structure RD {ι : Type} (X : ι → Cx) (K : RC) (W : WX) (e : Expr) (f : M (Int × Int)) : Prop where
  ex : ∃ t, (∀ i, PRg (X i) e t) ∧ ∀ fr ρ σ H (Q : Int → Int → Hp → Prop), Sim K fr ρ σ H → QR K W fr σ (f ρ) (fun p ρ' => ∀ H', Sim K fr ρ' σ H' → Q p.1 p.2 H') → t σ H Q
def rg1 (f : M D) : M (Int × Int) := mbind f fun d => mbind (mlift (isI d)) fun n => mret (0, n)
def rg2 (f g : M D) : M (Int × Int) := mbind f fun d => mbind g fun d' => mbind (mlift (isI d)) fun m => mbind (mlift (isI d')) fun n => mret (m, n)
theorem isI_eq {d : D} {i : Int} (h : isI d = some i) : d = .int i := by
  cases d <;> simp [isI] at h
  rw [h]
theorem rd_1 {p : Pos} (c : CF X K W k) (hg : ∀ i, Gl (X i) "range") (hm : K.mg "range" = none) (ha : ED X K W a fa) (na : ∀ i, starEach [a] (X i).env = (false, eval a (X i).env) :: starEach [] (X i).env := by intro _; rfl) : RD X K W (.Call (.Name "range" p) [a] [] pos) (rg1 fa) := by
  obtain ⟨t, pa, s⟩ := ha.ex
  refine ⟨tRg1 t, (fun i => prg_1 (hg i) (by rw [c.mg i]; exact hm) (pa i) (na i)), fun fr ρ σ H Q S q => s fr ρ σ H _ S ((QR.bind q).mono fun d ρ1 q1 v H1 S1 => ?_)⟩
  obtain ⟨n, e, q2⟩ := QR.lift (QR.bind q1)
  have := isI_eq e
  subst this
  exact ⟨n, S1.topF rfl, q2 H1 S1.drop⟩
theorem rd_2 {p : Pos} (c : CF X K W k) (hg : ∀ i, Gl (X i) "range") (hm : K.mg "range" = none) (ha : ED X K W a fa) (hb : ED X K W b fb) (na : ∀ i, starEach [a, b] (X i).env = (false, eval a (X i).env) :: starEach [b] (X i).env := by intro _; rfl)
    (nb : ∀ i, starEach [b] (X i).env = (false, eval b (X i).env) :: starEach [] (X i).env := by intro _; rfl) (hp : ∀ i, (backTo pos (starEach [b] (X i).env)).any (·.1) = false := by intro _; rfl) : RD X K W (.Call (.Name "range" p) [a, b] [] pos) (rg2 fa fb) := by
  obtain ⟨t, pa, s⟩ := ha.ex
  obtain ⟨u, pb, s2⟩ := hb.ex
  refine ⟨tRg2 t u, (fun i => prg_2 (hg i) (by rw [c.mg i]; exact hm) (pa i) (pb i) (na i) (nb i) (hp i)), fun fr ρ σ H Q S q => s fr ρ σ H _ S ((QR.bind q).mono fun d ρ1 q1 v H1 S1 => ?_)⟩
  refine two S1 s2 (QR.bind q1) fun dy ρ2 vy H2 q2 S2 => ?_
  obtain ⟨m, e, q3⟩ := QR.lift (QR.bind q2)
  obtain ⟨n, e2, q4⟩ := QR.lift (QR.bind q3)
  have := isI_eq e
  subst this
  have := isI_eq e2
  subst this
  exact ⟨m, n, S2.drop.topF rfl, S2.topF rfl, q4 H2 S2.drop.drop⟩
theorem rgD_rep {F H : Hp} (a b : Int) : RepL K F H (rgD a b) (rgV a b) [] := by
  have go : ∀ l : List Nat, RepL K F H (l.map fun i => D.int (a + (i : Nat))) (l.map fun i => V.int (a + (i : Nat))) [] := fun l => by
    induction l with
    | nil => exact ⟨rfl, rfl⟩
    | cons n l ih => exact ⟨_, _, [], [], rfl, rfl, ⟨rfl, rfl⟩, ih⟩
  exact go _
theorem rgD_len (a b : Int) : (rgD a b).length = (b - a).toNat := by unfold rgD; rw [List.length_map, List.length_range]
theorem Sim.rgs {fr : Fr} {ρ : Env} {σ : L2.St} {H : Hp} (S : Sim K fr ρ σ H) (a b : Int) : Sim K fr ((rgD a b).map some ++ ρ) ((rgV a b).map some ++ σ) H := by
  obtain ⟨A, S⟩ := S
  exact ⟨A, Sl.app (rgD_rep a b).sl S.sl, S.nd, S.off, S.keep, S.tr⟩
def eTupRg (f : M (Int × Int)) : M D := mbind f fun p => if rgOk p.1 p.2 = true then mret (.tup (rgD p.1 p.2)) else mlift none
def eLstRg (f : M (Int × Int)) : M D := mbind f fun p => if rgOk p.1 p.2 = true then mret (.lst true (rgD p.1 p.2)) else mlift none
theorem frz_rg (K : RC) (a b : Int) : frzL (rgD a b) = rgD a b := RepL.frz_id (K := K) (F := fun _ => none) (H := fun _ => none) _ _ (rgD_rep a b)
theorem ed_tupRg {p : Pos} {f : M (Int × Int)} (c : CF X K W k) (hg : ∀ i, Gl (X i) "tuple") (hm : K.mg "tuple" = none) (h : RD X K W e f) (na : ∀ i, starEach [e] (X i).env = (false, eval e (X i).env) :: starEach [] (X i).env := by intro _; rfl) : ED X K W (.Call (.Name "tuple" p) [e] [] pos) (eTupRg f) := by
  obtain ⟨t, pa, s⟩ := h.ex
  refine ⟨tTupRg t, (fun i => pe_tupRg (c.calm i) (hg i) (by rw [c.mg i]; exact hm) (pa i) (na i)), fun fr ρ σ H Q S q => s fr ρ σ H _ S ((QR.bind q).mono fun pr ρ1 q1 H1 S1 => ?_)⟩
  by_cases ho : rgOk pr.1 pr.2 = true
  · rw [if_pos ho] at q1
    refine ⟨of_decide_eq_true (p := -(2 ^ 62) ≤ pr.1 ∧ pr.1 < 2 ^ 62 ∧ -(2 ^ 62) ≤ pr.2 ∧ pr.2 < 2 ^ 62 ∧ (pr.2 - pr.1).toNat ≤ 2 ^ 24) ho, fun l hl => q1 _ _ ?_⟩
    have z := (S1.rgs pr.1 pr.2).newT (by rw [rgV_length, rgD_len]) hl
    rw [frz_rg K] at z
    exact z
  · rw [if_neg ho] at q1
    exact q1.elim
theorem ed_lstRg {p : Pos} {f : M (Int × Int)} (c : CF X K W k) (hg : ∀ i, Gl (X i) "list") (hm : K.mg "list" = none) (h : RD X K W e f) (na : ∀ i, starEach [e] (X i).env = (false, eval e (X i).env) :: starEach [] (X i).env := by intro _; rfl) : ED X K W (.Call (.Name "list" p) [e] [] pos) (eLstRg f) := by
  obtain ⟨t, pa, s⟩ := h.ex
  refine ⟨tLstRg t, (fun i => pe_listRg (c.calm i) (hg i) (by rw [c.mg i]; exact hm) (pa i) (na i)), fun fr ρ σ H Q S q => s fr ρ σ H _ S ((QR.bind q).mono fun pr ρ1 q1 H1 S1 => ?_)⟩
  by_cases ho : rgOk pr.1 pr.2 = true
  · rw [if_pos ho] at q1
    exact ⟨of_decide_eq_true (p := -(2 ^ 62) ≤ pr.1 ∧ pr.1 < 2 ^ 62 ∧ -(2 ^ 62) ≤ pr.2 ∧ pr.2 < 2 ^ 62 ∧ (pr.2 - pr.1).toNat ≤ 2 ^ 24) ho, fun l hl => q1 _ _ ((S1.rgs pr.1 pr.2).newL (by rw [rgV_length, rgD_len]) hl)⟩
  · rw [if_neg ho] at q1
    exact q1.elim
end
end DL

set_option Elab.async false
set_option linter.all false
set_option maxRecDepth 100000
set_option maxHeartbeats 4000000
namespace DL
open PySem PySem.Spec L2
/-! ### what is walked -/
theorem RepL.get {K : RC} {F H : Hp} : ∀ {ds : List D} {xs : List V} {i : Nat} {d : D}, RepL K F H ds xs [] → ds[i]? = some d → ∃ x, xs[i]? = some x ∧ Rep K F H d x []
  | [], _, _, _, _, e => by simp at e
  | d :: ds, xs, i, d', r, e => by
    obtain ⟨v, ws, B, C, rfl, eA, r1, r2⟩ := r
    have e1 := (List.append_eq_nil_iff.mp eA.symm).1
    have e2 := (List.append_eq_nil_iff.mp eA.symm).2
    subst e1 e2
    cases i with
    | zero =>
      have : d = d' := by simpa using e
      subst this
      exact ⟨v, rfl, r1⟩
    | succ i =>
      obtain ⟨x, h1, h2⟩ := RepL.get (i := i) r2 (by simpa using e)
      exact ⟨x, by simpa using h1, h2⟩
section
variable {K : RC} {fr : Fr} {ds : List D} {xs : List V} {H0 : Hp} {a : Addr}
theorem Inv2.inj : True := trivial
theorem yields_list (hs : SqL K.K (VF fr) a xs) (r : RepL K (VF fr) H0 ds xs []) : Yields K (Itl K.K a) fr ds where
  go := fun i H ρ σ S hi => by
    obtain ⟨x, hx, _⟩ := r.get (List.getElem?_eq_getElem hi)
    exact ⟨xs, x, SqL.mono S.vfH hs, hx⟩
  stop := fun i H ρ σ S hi => ⟨xs, SqL.mono S.vfH hs, by rw [r.len]; exact hi⟩
  yld := fun i H x H' ρ σ d S e hy => by
    obtain ⟨rfl, h⟩ := hy
    obtain ⟨x', hx, q⟩ := r.get e
    have := h xs (SqL.mono S.vfH hs)
    rw [hx] at this
    cases this
    exact S.pushG q
theorem yields_tup (hs : SqT K.K (VF fr) a xs) (r : RepL K (VF fr) H0 ds xs []) : Yields K (Itt K.K a) fr ds where
  go := fun i H ρ σ S hi => by
    obtain ⟨x, hx, _⟩ := r.get (List.getElem?_eq_getElem hi)
    exact ⟨xs, x, SqT.mono S.vfH hs, hx⟩
  stop := fun i H ρ σ S hi => ⟨xs, SqT.mono S.vfH hs, by rw [r.len]; exact hi⟩
  yld := fun i H x H' ρ σ d S e hy => by
    obtain ⟨rfl, h⟩ := hy
    obtain ⟨x', hx, q⟩ := r.get e
    have := h xs (SqT.mono S.vfH hs)
    rw [hx] at this
    cases this
    exact S.pushG q
theorem rgD_get {a b : Int} {i : Nat} {d : D} (h : (rgD a b)[i]? = some d) : d = .int (a + (i : Nat)) := by
  unfold rgD at h
  rw [List.getElem?_map] at h
  cases e : (List.range (b - a).toNat)[i]? with
  | none => rw [e] at h; cases h
  | some n =>
    rw [e] at h
    obtain ⟨_, e⟩ := List.getElem?_eq_some_iff.mp e
    rw [List.getElem_range] at e
    subst e
    cases h
    rfl
theorem yields_rg (lo hi : Int) : Yields K (Itr lo (hi - lo).toNat) fr (rgD lo hi) where
  go := fun i H ρ σ S h => by rw [rgD_len] at h; exact h
  stop := fun i H ρ σ S h => by rw [rgD_len] at h; exact h
  yld := fun i H x H' ρ σ d S e hy => by
    obtain ⟨rfl, rfl⟩ := hy
    rw [rgD_get e]
    exact S.pushF rfl
end
/-- a frozen list or tuple, walked -/
def seqOf (d : D) : Option (List D) := items (frz d)
section
open PyProof.Rows in
theorem pi_seqA {X : Cx} {tg l : Expr} {tl : TE} (hl : PE X l tl) : PI X tg l (fun σ H R => tl σ H fun x H1 => (∃ a, x = .ref a ∧ (∃ xs, SqL X.K H1 a xs) ∧ R (Itl X.K a) H1) ∨ (∃ a, x = .ref a ∧ (∃ xs, SqT X.K H1 a xs) ∧ R (Itt X.K a) H1)) := by
  refine ⟨fun pins s σ H R I h => ?_⟩
  refine thn (hl.run pins s σ H _ I h) fun v s1 ⟨x, H1, I1, r1, q1⟩ => ?_
  rcases q1 with ⟨a, e, ⟨xs, hq⟩, q⟩ | ⟨a, e, ⟨xs, hq⟩, q⟩
  · subst e
    cases r1
    obtain ⟨its, rv, p, hz⟩ := I1.list hq
    refine wpAny_pyIter_list p.isList ?_
    refine ⟨s1.heap.objs.size, [s1.heap.objs.size], _, _, H1, rfl, I1.kept (t' := s1.toks) fun b o e => Heap.get?_push_of_some _ e, turn_list a _, ⟨_, Heap.get?_push_size _ rfl, rfl, rfl⟩, fun b hb => ?_, q⟩
    have e : b = s1.heap.objs.size := by simpa using hb
    subst e
    exact I1.fpOk (Nat.le_refl _) (I1.hok.fresh (Nat.le_refl _))
  · subst e
    cases r1
    obtain ⟨its, rv, p, hz⟩ := I1.tuple hq
    refine wpAny_pyIter_tuple (show s1.heap.IsTuple a its.toArray from p) ?_
    refine ⟨s1.heap.objs.size, [s1.heap.objs.size], _, _, H1, rfl, I1.kept (t' := s1.toks) fun b o e => Heap.get?_push_of_some _ e, turn_tuple a _, ⟨_, Heap.get?_push_size _ rfl, rfl, rfl⟩, fun b hb => ?_, q⟩
    have e : b = s1.heap.objs.size := by simpa using hb
    subst e
    exact I1.fpOk (Nat.le_refl _) (I1.hok.fresh (Nat.le_refl _))
end
theorem frz_frz_items {d : D} {ds : List D} (h : items (frz d) = some ds) : ∃ d', frz d = d' ∧ items d' = some ds := ⟨_, rfl, h⟩
def iSeq (f : M D) : M (List D) := mbind f fun d => mlift (seqOf d)
def iRg1 (g : M (List D)) : M (List D) := mbind g fun ds => match ds with
  | [.int j] => if -(2 ^ 62) ≤ j ∧ j < 2 ^ 62 then mret (rgD 0 j) else mlift none
  | _ => mlift none
def iRg2 (g : M (List D)) : M (List D) := mbind g fun ds => match ds with
  | [.int i, .int j] => if -(2 ^ 62) ≤ i ∧ i < 2 ^ 62 ∧ -(2 ^ 62) ≤ j ∧ j < 2 ^ 62 then mret (rgD i j) else mlift none
  | _ => mlift none
section
variable {ι : Type} {X : ι → Cx} {K : RC} {W : WX} {k : Nat} {e a b tg : Expr} {es : List Expr} {f fa fb : M D} {g : M (List D)} {pos : Pos} {pr : List Nat}
theorem id_seq (c : CF X K W k) (h : ED X K W e f) : ID X K W tg e (iSeq f) := by
  obtain ⟨t, p, s⟩ := h.ex
  refine ⟨fun σ H R => t σ H fun x H1 => (∃ a, x = .ref a ∧ (∃ xs, SqL K.K H1 a xs) ∧ R (Itl K.K a) H1) ∨ (∃ a, x = .ref a ∧ (∃ xs, SqT K.K H1 a xs) ∧ R (Itt K.K a) H1), (fun i => by rw [← c.kk i]; exact pi_seqA (p i)), fun fr ρ σ H R S q => s fr ρ σ H _ S ((QR.bind q).mono fun d ρ1 q1 v H1 S1 => ?_)⟩
  obtain ⟨ds, e1, q2⟩ := QR.lift q1
  obtain ⟨fr', S2, r, back⟩ := S1.frz.holdF (fro_frz d)
  unfold seqOf at e1
  cases ed : frz d with
  | tup es =>
    rw [ed] at e1 r
    cases e1
    obtain ⟨_, a, xs, rfl, hs, r⟩ := r
    exact .inr ⟨a, rfl, ⟨xs, SqT.mono S2.vfH (SqT.of hs)⟩, q2 _ H1 fr' S2 back (yields_tup (SqT.of hs) r)⟩
  | lst o es =>
    rw [ed] at e1 r
    cases e1
    cases o with
    | true =>
      have := fro_frz d
      rw [ed] at this
      cases this
    | false =>
      obtain ⟨_, a, xs, rfl, hs, r⟩ := r
      exact .inl ⟨a, rfl, ⟨xs, SqL.mono S2.vfH (SqL.of hs)⟩, q2 _ H1 fr' S2 back (yields_list (SqL.of hs) r)⟩
  | scr ns =>
    rw [ed] at e1 r
    cases e1
    obtain ⟨_, a, rfl, hs⟩ := r
    exact .inl ⟨a, rfl, ⟨_, SqL.mono S2.vfH hs⟩, q2 _ H1 fr' S2 back (yields_list (H0 := H1) hs (rep_ints ns))⟩
  | _ => rw [ed] at e1; cases e1
theorem id_rg1 {p : Pos} (c : CF X K W k) (hg : ∀ i, Gl (X i) "range") (hm : K.mg "range" = none) (ha : AM X K W [a] g []) (hs : ∀ i, starEach [a] (X i).env = [(false, eval a (X i).env)] := by intro _; rfl) : ID X K W tg (.Call (.Name "range" p) [a] [] pos) (iRg1 g) := by
  obtain ⟨t, pa, s⟩ := ha.ex
  refine ⟨iRng1 t, (fun i => pi_range1 (hg i) (by rw [c.mg i]; exact hm) (pa i) (hs i)), fun fr ρ σ H R S q => s fr ρ σ H _ S ((QR.bind q).mono fun ds ρ1 q1 vs H1 hl _ S1 => ?_)⟩
  split at q1
  · rename_i j
    obtain ⟨v, rfl⟩ := one_of hl rfl
    have S1 : Sim K fr (some (.int j) :: ρ1) (some v :: σ) H1 := S1
    by_cases hz : -(2 ^ 62) ≤ j ∧ j < 2 ^ 62
    · rw [if_pos hz] at q1
      refine ⟨j, by rw [S1.topF rfl], hz.1, hz.2, ?_⟩
      have z := q1 (Itr 0 (j - 0).toNat) H1 fr S1.drop (fun _ _ _ h => h) (yields_rg 0 j)
      rw [Int.sub_zero] at z
      exact z
    · rw [if_neg hz] at q1
      exact q1.elim
  · exact q1.elim
theorem id_rg2 {p : Pos} (c : CF X K W k) (hg : ∀ i, Gl (X i) "range") (hm : K.mg "range" = none) (ha : AM X K W [a, b] g []) (hs : ∀ i, starEach [a, b] (X i).env = [(false, eval a (X i).env), (false, eval b (X i).env)] := by intro _; rfl) (hs2 : ∀ i, starEach [b] (X i).env = [(false, eval b (X i).env)] := by intro _; rfl) : ID X K W tg (.Call (.Name "range" p) [a, b] [] pos) (iRg2 g) := by
  obtain ⟨t, pa, s⟩ := ha.ex
  refine ⟨iRng2 t, (fun i => pi_range2 (hg i) (by rw [c.mg i]; exact hm) (pa i) (hs i) (hs2 i)), fun fr ρ σ H R S q => s fr ρ σ H _ S ((QR.bind q).mono fun ds ρ1 q1 vs H1 hl _ S1 => ?_)⟩
  split at q1
  · rename_i i j
    obtain ⟨rfl, S2⟩ := two_ints hl S1
    by_cases hz : -(2 ^ 62) ≤ i ∧ i < 2 ^ 62 ∧ -(2 ^ 62) ≤ j ∧ j < 2 ^ 62
    · rw [if_pos hz] at q1
      exact ⟨i, j, rfl, hz, q1 _ H1 fr S2 (fun _ _ _ h => h) (yields_rg i j)⟩
    · rw [if_neg hz] at q1
      exact q1.elim
  · exact q1.elim
/-! ### a list of one's own: append, a store -/
def eApp (i : Nat) (f : M D) : M D := fun ρ => match ρ[i]? with
  | some (some (.lst true _)) => mbind f (fun d ρ1 => match ρ1[i]? with
    | some (some (.lst true ds)) => if ds.length < sizeLine then .ok .non (ρ1.set i (some (.lst true (ds ++ [d])))) else .stuck
    | _ => .stuck) ρ
  | _ => .stuck
theorem own_get {ρ : Env} {i : Nat} {P : List D → Prop} (h : match ρ[i]? with | some (some (.lst true ds)) => P ds | _ => False) : ∃ ds, ρ[i]? = some (some (.lst true ds)) ∧ P ds := by
  split at h
  · rename_i ds e
    exact ⟨ds, e, h⟩
  · exact h.elim
theorem Sim.lst_at {fr : Fr} {ρ : Env} {σ : L2.St} {H : Hp} {i : Nat} {ds : List D} (S : Sim K fr ρ σ H) (e : ρ[i]? = some (some (.lst true ds))) : ∃ p xs, σ[i]? = some (some (.ref p)) ∧ H p = some (.lst xs) ∧ xs.length = ds.length := by
  obtain ⟨v, hv, S1⟩ := S.move e
  obtain ⟨F, B, r, _⟩ := S1.top
  obtain ⟨p, xs, B', rfl, _, hx, r⟩ := r
  exact ⟨p, xs, hv, hx, r.len⟩
theorem ed_app (i : Nat) {x : Str} {p0 apos cpos : Pos} (h : ∀ j, PE (X j) (.Name x p0) (tVar i)) (ha : ED X K W e f) (c : CF X K W k)
    (hs : ∀ i, starEach [e] (X i).env = (false, eval e (X i).env) :: starEach [] (X i).env := by intro _; rfl) (hline : (apos.endLine == cpos.line) = true := by rfl)
    (hfew : ∀ i, ((backTo cpos (starEach [e] (X i).env)).all (fun x => !x.1) && (backToKw cpos (keywordEach [] (X i).env)).all (fun x => x.1.isSome) && decide ([e].length + ([] : List Keyword).length + (if ([] : List Keyword).isEmpty then 0 else 1) < 30)) = true := by intro _; rfl) :
    ED X K W (.Call (.Attribute (.Name x p0) "append" apos) [e] [] cpos) (eApp i f) := by
  obtain ⟨t, pa, s⟩ := ha.ex
  refine ⟨tBM K.K "list" rAppend (tVar i) (tCons t tNil), (fun j => ?_), fun fr ρ σ H Q S q => ?_⟩
  · rw [← c.kk j]
    exact pe_bm PySem.F.plainAttrs_list PySem.F.slot_list_append PySem.F.type_list_append mt_append (h j) (pa_cons (pa j) pa_nil (hs j)) rfl (hfew j) hline (hs j) rfl
  · unfold eApp at q
    split at q
    · rename_i ds0 e0
      obtain ⟨p, xs, hv, hx, _⟩ := S.lst_at e0
      refine ⟨.ref p, hv, .inl ⟨rfl, xs, SqL.of hx⟩, ?_⟩
      refine s fr ρ σ H _ S ((QR.bind q).mono fun d ρ1 q1 v1 H1 S1 => ?_)
      split at q1
      · rename_i ds e1
        by_cases hz : ds.length < sizeLine
        · rw [if_pos hz] at q1
          obtain ⟨v, hv2, S2⟩ := S1.move (i := i + 1) (show (some d :: ρ1)[i + 1]? = _ from by simpa using e1)
          have hv3 : σ[i]? = some (some v) := by simpa using hv2
          rw [hv] at hv3
          cases hv3
          have S2 : Sim K fr (some (.lst true ds) :: some d :: ρ1.set i none) (some (.ref p) :: some v1 :: σ) H1 := S2
          obtain ⟨ys, hy, hl, S3⟩ := S2.append
          have S4 := S3.back hv
          rw [set_set_] at S4
          exact ⟨p, ys, v1, rfl, rfl, hy, by omega, q1 _ _ (S4.pushF rfl)⟩
        · rw [if_neg hz] at q1
          exact q1.elim
      · exact q1.elim
    · exact q.elim
/-- x[j] = .. of a list of one's own -/
def gItem (i : Nat) (fj : M D) : D → Env → Option Env := fun d ρ => match ρ[i]? with
  | some (some (.lst true _)) => match fj ρ with
    | .ok (.int j) ρ1 => match ρ1[i]? with
      | some (some (.lst true ds)) => if ρ1.length = ρ.length then (ixN ds.length j).map fun n => ρ1.set i (some (.lst true (ds.set n d))) else none
      | _ => none
    | _ => none
  | _ => none
theorem Sim.put {fr : Fr} {ρ : Env} {σ : L2.St} {H : Hp} {ds : List D} {d : D} {p : Addr} {v : V} {n : Nat} (S : Sim K fr (some (.lst true ds) :: some d :: ρ) (some (.ref p) :: some v :: σ) H) (hn : n < ds.length) :
    ∃ xs, H p = some (.lst xs) ∧ xs.length = ds.length ∧ Sim K fr (some (.lst true (ds.set n d)) :: ρ) (some (.ref p) :: σ) (upd H p (.lst (xs.set n v))) := by
  obtain ⟨A, S⟩ := S
  obtain ⟨s1, τ1, B1, C1, e1, rfl, ⟨v1, ev, r1⟩, r2⟩ := S.sl
  injection e1 with e1 e2
  subst e1 e2
  cases ev
  obtain ⟨s2, τ2, B2, C2, e3, rfl, ⟨v2, ev, r3⟩, r4⟩ := r2
  injection e3 with e3 e4
  subst e3 e4
  cases ev
  obtain ⟨a, xs, B, ea, rfl, hx, r1⟩ := r1
  cases ea
  obtain ⟨s0, A1, B0, A2, es, rfl, ⟨v0, _, r0⟩, put⟩ := r1.sl.at (i := n) (x := some ds[n]) (by rw [List.getElem?_map, List.getElem?_eq_getElem hn]; rfl)
  refine ⟨xs, hx, r1.len, p :: (A1 ++ (B2 ++ A2)) ++ C2, ?_⟩
  have sub : ∀ a ∈ p :: (A1 ++ (B2 ++ A2)) ++ C2, a ∈ p :: (A1 ++ (B0 ++ A2)) ++ (B2 ++ C2) ∨ H a = none := fun a z => .inl (by
    simp only [List.cons_append, List.append_assoc, List.mem_cons, List.mem_append] at z ⊢
    rcases z with z | z | z | z | z
    · exact .inl z
    · exact .inr (.inl z)
    · exact .inr (.inr (.inr (.inr (.inl z))))
    · exact .inr (.inr (.inr (.inl z)))
    · exact .inr (.inr (.inr (.inr (.inr z)))))
  have nd0 := S.nd
  have pn : p ∉ (A1 ++ (B0 ++ A2)) ++ (B2 ++ C2) := by
    rw [List.cons_append] at nd0
    exact (List.nodup_cons.mp nd0).1
  have nd : (p :: (A1 ++ (B2 ++ A2)) ++ C2).Nodup := by
    have h1 : ((A1 ++ (B0 ++ A2)) ++ (B2 ++ C2)).Nodup := by
      rw [List.cons_append] at nd0
      exact (List.nodup_cons.mp nd0).2
    rw [List.cons_append]
    refine List.nodup_cons.mpr ⟨fun z => pn ?_, ?_⟩
    · simp only [List.append_assoc, List.mem_append] at z ⊢
      rcases z with z | z | z | z
      · exact .inl z
      · exact .inr (.inr (.inr (.inl z)))
      · exact .inr (.inr (.inl z))
      · exact .inr (.inr (.inr (.inr z)))
    · have h2 : ((A1 ++ A2) ++ (B2 ++ C2)).Nodup := by
        refine List.Nodup.sublist ?_ h1
        refine List.Sublist.append ?_ (List.Sublist.refl _)
        exact (List.append_sublist_append_left A1).mpr (List.sublist_append_right B0 A2)
      have pm : ((A1 ++ A2) ++ (B2 ++ C2)).Perm ((A1 ++ (B2 ++ A2)) ++ C2) := by
        have q1 : (A2 ++ (B2 ++ C2)).Perm (B2 ++ (A2 ++ C2)) := List.perm_append_comm_assoc A2 B2 C2
        have q2 := List.Perm.append_left A1 q1
        simpa [List.append_assoc] using q2
      exact pm.nodup h2
  have kp : ∀ a o, a ≠ p → H a = some o → upd H p (.lst (xs.set n v)) a = some o := fun a o n e => by rw [upd_ne n]; exact e
  have kpA : ∀ a o, a ∉ p :: (A1 ++ (B0 ++ A2)) ++ (B2 ++ C2) → H a = some o → upd H p (.lst (xs.set n v)) a = some o := fun a o n e => kp a o (fun z => n (by simp [z])) e
  have f := S.fro sub (H' := upd H p (.lst (xs.set n v))) kpA
  have ne : ∀ a, a ∈ (A1 ++ (B0 ++ A2)) ++ (B2 ++ C2) → a ≠ p := fun a z e => pn (e ▸ z)
  have q := put (x' := some d) (s' := some v) (B' := B2) f (fun a z o e => kp a o (ne a (by
    rcases List.mem_append.mp z with z | z
    · simp [z]
    · simp [z])) e) ⟨v, rfl, Rep.mono f _ _ _ (fun a z o e => kp a o (ne a (by simp [z])) e) r3⟩
  have q' : RepL K (hid (p :: (A1 ++ (B2 ++ A2)) ++ C2 ++ fr.N) (upd H p (.lst (xs.set n v)))) (upd H p (.lst (xs.set n v))) (ds.set n d) (xs.set n v) (A1 ++ (B2 ++ A2)) := by
    refine Sl.repL ?_
    rw [← List.map_set, ← List.map_set] at q
    exact q
  exact S.next sub nd kpA ⟨some (.ref p), _, p :: (A1 ++ (B2 ++ A2)), C2, rfl, rfl, ⟨.ref p, rfl, p, xs.set n v, _, rfl, rfl, upd_same, q'⟩, r4.mono f fun a z o e => kp a o (ne a (by simp [z])) e⟩
theorem gd_item (i : Nat) {x : Str} {p0 : Pos} {je : Expr} {fj : M D} (c : CF X K W k) (h : ∀ j, PE (X j) (.Name x p0) (tVar i)) (hj : ED X K W0 je fj)
    (ha : ∀ i v, assign (.Subscript (.Name x p0) je pos) (X i).env v = (do
      let ov ← holding [v] (eval (.Name x p0) (X i).env)
      let iv ← holding [v, ov] (eval je (X i).env)
      standAt pos
      holding [v, ov, iv] (setItem ov iv v)
      release [v, ov, iv] []) := by intro _ _; rfl) : GD X K pr (.Subscript (.Name x p0) je pos) (gItem i fj) := by
  obtain ⟨t, pj, s⟩ := hj.ex
  refine ⟨⟨gSub (tVar i) t rSetL, (fun j => pg_sub (h j) (pj j) set_list (ha j)), fun fr ρ σ H d v ρ' Q S e q => ?_⟩, fun d ρ ρ' e => ?_⟩
  · unfold gItem at e
    split at e
    rotate_left
    · cases e
    rename_i ds0 e0
    split at e
    rotate_left
    · cases e
    rename_i j ρ1 e1
    split at e
    rotate_left
    · cases e
    rename_i ds e2
    by_cases hlen : ρ1.length = ρ.length
    · rw [if_pos hlen] at e
      cases hn : ixN ds.length j with
      | none => rw [hn] at e; cases e
      | some n =>
        rw [hn] at e
        cases e
        -- the value is held while the index is asked
        obtain ⟨fr', S1, back⟩ := S.hold
        have hn2 : n < ds.length := by
          unfold ixN at hn
          split at hn
          · split at hn
            · cases hn; omega
            · cases hn
          · split at hn
            · cases hn; omega
            · cases hn
        obtain ⟨p, _, hv0, _, _⟩ := S1.lst_at e0
        refine ⟨.ref p, hv0, ?_⟩
        refine s fr' ρ σ H _ S1 ?_
        rw [e1]
        intro v2 H2 S2
        have S3 := back _ _ _ S2.drop
        obtain ⟨u, hu, S4⟩ := S3.move (i := i + 1) (show (some d :: ρ1)[i + 1]? = _ from by simpa using e2)
        have hu : σ[i]? = some (some u) := by simpa using hu
        rw [hv0] at hu
        cases hu
        have S4 : Sim K fr (some (.lst true ds) :: some d :: ρ1.set i none) (some (.ref p) :: some v :: σ) H2 := S4
        obtain ⟨ys, hy, hl2, S5⟩ := S4.put hn2
        have S6 := S5.back hv0
        rw [set_set_] at S6
        exact ⟨p, ys, j, n, rfl, S2.topF rfl, hy, by rw [hl2]; exact hn, q σ _ .refl S6⟩
    · rw [if_neg hlen] at e
      cases e
  · unfold gItem at e
    split at e
    rotate_left
    · cases e
    split at e
    rotate_left
    · cases e
    split at e
    rotate_left
    · cases e
    rename_i ρ1 _ _ ds _
    split at e
    · rename_i hlen
      cases hn : ixN ds.length _ with
      | none => rw [hn] at e; cases e
      | some n =>
        rw [hn] at e
        cases e
        rw [List.length_set, hlen]
    · cases e
end
end DL

set_option Elab.async false
set_option linter.all false
set_option maxRecDepth 100000
set_option maxHeartbeats 4000000
namespace DL
open PySem PySem.Spec L2
/-! ### products -/
instance {i j : Int} : Decidable (CMulX i j) := by unfold CMulX; exact inferInstance
def repD (k : Int) (ds : List D) : List D := (List.replicate k.toNat ds).flatten
def mulD : D → D → Option D
  | .int i, .int j => if CMulX i j then some (.int (i * j)) else none
  | .lst _ ds, .int k => if -(2 ^ 63) ≤ k ∧ k < 2 ^ 63 ∧ ds.length * k.toNat ≤ sizeLine then some (.lst true (repD k (frzL ds))) else none
  | .tup ds, .int k => if ds ≠ [] ∧ 2 ≤ k ∧ k ≤ 1000 ∧ ds.length ≤ 1000 then some (.tup (repD k ds)) else none
  | _, _ => none
def rMulA (K : PySem.W.Frag) : R2 := fun x y H Q => rI CMulX (fun i j => .int (i * j)) x y H Q ∨ (rRep x y H Q ∨ rRepT K x y H Q)
theorem op_mulA {X : Cx} : OpR X (binaryOp .Mult) (rMulA X.K) := OpR.or op_mulX (OpR.or op_rep op_repT)
theorem repL_rep {K : RC} {F H : Hp} {ds : List D} {vs : List V} (r : RepL K F H ds vs []) : ∀ n : Nat, RepL K F H (List.replicate n ds).flatten (List.replicate n vs).flatten []
  | 0 => ⟨rfl, rfl⟩
  | n + 1 => by
    rw [List.replicate_succ, List.replicate_succ, List.flatten_cons, List.flatten_cons]
    exact RepL.app (A := []) (B := []) r (repL_rep r n)
theorem frzL_len : ∀ ds : List D, (frzL ds).length = ds.length
  | [] => rfl
  | d :: ds => by show (frz d :: frzL ds).length = _; rw [List.length_cons, frzL_len ds]; rfl
theorem frzL_rep (ds : List D) : ∀ n : Nat, frzL (List.replicate n ds).flatten = (List.replicate n (frzL ds)).flatten
  | 0 => rfl
  | n + 1 => by rw [List.replicate_succ, List.replicate_succ, List.flatten_cons, List.flatten_cons, frzL_app, frzL_rep ds n]
section
variable {K : RC} {fr : Fr} {ρ : Env} {σ : L2.St} {H : Hp}
/-- frozen items, several times -/
theorem Sim.times {d : D} {v : V} {ds : List D} (S : Sim K fr (some d :: ρ) (some v :: σ) H) (hf : fro d = true) (e : items d = some ds) : ∃ p xs, v = .ref p ∧ xs.length = ds.length ∧ (if isL d = true then SqL K.K H p xs else SqT K.K H p xs) ∧ (∀ o es, d = .lst o es → H p = some (.lst xs)) ∧
    ∀ n : Nat, Sim K fr ((List.replicate n ds).flatten.map some ++ ρ) ((List.replicate n xs).flatten.map some ++ σ) H := by
  obtain ⟨A, S⟩ := S
  obtain ⟨s', τ, B, C, e0, rfl, ⟨v', e1, r1⟩, r2⟩ := S.sl
  injection e0 with e2 e3
  subst e2 e3
  cases e1
  have := fro_rep hf r1
  subst this
  have hH : ∀ a o, hid ([] ++ C ++ fr.N) H a = some o → H a = some o := fun a o e => (hid_some.mp e).2
  have go : ∀ xs, RepL K (hid ([] ++ C ++ fr.N) H) H ds xs [] → ∀ n : Nat, Sim K fr ((List.replicate n ds).flatten.map some ++ ρ) ((List.replicate n xs).flatten.map some ++ σ) H := fun xs r n =>
    ⟨C, Sl.app (A1 := []) (repL_rep r n).sl r2, S.nd, S.off, S.keep, S.tr⟩
  cases d with
  | tup es =>
    cases e
    obtain ⟨_, a, xs, rfl, s, r⟩ := r1
    exact ⟨a, xs, rfl, r.len, SqT.mono hH (SqT.of s), (fun _ _ z => nomatch z), go xs r⟩
  | lst o es =>
    cases e
    cases o with
    | false =>
      obtain ⟨_, a, xs, rfl, s, r⟩ := r1
      exact ⟨a, xs, rfl, r.len, SqL.of (hH _ _ s), (fun _ _ _ => hH _ _ s), go xs r⟩
    | true => cases hf
  | scr ns =>
    cases e
    obtain ⟨_, a, rfl, s⟩ := r1
    exact ⟨a, _, rfl, by simp, SqL.mono hH s, (fun _ _ z => nomatch z), go _ (rep_ints ns)⟩
  | _ => cases e
theorem ops_mul : OpS K (rMulA K.K) mulD := by
  intro fr ρ σ H dx dy vx vy d Q S e q
  cases dx with
  | int i => cases dy with
    | int j =>
      unfold mulD at e
      by_cases hc : CMulX i j
      · simp only [hc, if_true] at e
        cases e
        exact .inl ⟨i, j, S.drop.topF rfl, S.topF rfl, hc, q _ H (S.drop.drop.pushF rfl)⟩
      · simp only [hc, if_false] at e
        cases e
    | _ => cases e
  | lst o ds => cases dy with
    | int k =>
      unfold mulD at e
      by_cases hc : -(2 ^ 63) ≤ k ∧ k < 2 ^ 63 ∧ ds.length * k.toNat ≤ sizeLine
      · simp only [hc, and_self, if_true] at e
        cases e
        have hk := S.topF rfl
        subst hk
        obtain ⟨p, xs, rfl, h2, _, h4, g⟩ := S.drop.frz.times (fro_frz _) (ds := frzL ds) rfl
        have hl2 := frzL_len ds
        refine .inr (.inl ⟨p, k, xs, rfl, rfl, h4 _ _ rfl, hc.1, hc.2.1, by rw [h2, hl2]; exact hc.2.2, fun l hl => q _ _ ?_⟩)
        exact (g k.toNat).newL (by simp [List.length_flatten, h2]) hl
      · simp only [hc, if_false] at e
        cases e
    | _ => cases e
  | tup ds => cases dy with
    | int k =>
      have e : (if ds ≠ [] ∧ 2 ≤ k ∧ k ≤ 1000 ∧ ds.length ≤ 1000 then some (D.tup (repD k ds)) else none) = some d := e
      by_cases hc : ds ≠ [] ∧ 2 ≤ k ∧ k ≤ 1000 ∧ ds.length ≤ 1000
      · rw [if_pos hc] at e
        cases e
        have hk := S.topF rfl
        subst hk
        have hz := S.drop.tup_frz
        obtain ⟨p, xs, rfl, h2, h3, _, g⟩ := S.drop.times (ds := ds) rfl rfl
        refine .inr (.inr ⟨p, k, xs, rfl, rfl, h3, fun e => hc.1 (List.length_eq_zero_iff.mp (by rw [← h2, e]; rfl)), hc.2.1, hc.2.2.1, by rw [h2]; exact hc.2.2.2, fun l hl => q _ _ ?_⟩)
        have z := (g k.toNat).newT (by simp [List.length_flatten, h2]) hl
        rw [frzL_rep, hz] at z
        exact z
      · rw [if_neg hc] at e
        cases e
    | _ => cases e
  | _ => cases e
end
section
variable {ι : Type} {X : ι → Cx} {K : RC} {W : WX} {k : Nat} {e a b : Expr} {f fa fb : M D} {pos : Pos} {pr : List Nat}
theorem rMulA_K {X : Cx} (h : X.K = K.K) : OpR X (binaryOp .Mult) (rMulA K.K) := by rw [← h]; exact op_mulA
theorem ed_mul (c : CF X K W k) (ha : ED X K W a fa) (hb : ED X K W b fb) : ED X K W (.BinOp a .Mult b pos) (e2 mulD fa fb) := ed_op (fun i => rMulA_K (c.kk i)) ops_mul ha hb
/-! ### raise -/
structure ExF (K : RC) (c : Str) : Prop where
  ex : ∃ C, K.mg c = some (.ref C) ∧ PySem.W.excIn K.K C He.veBase "ValueError.__new__" = true ∧ PySem.W.keepIn K.K (.ref C) = true ∧ PySem.W.subIn K.K (.ref C) (.type "BaseException") = some true ∧ PySem.W.typeIn K.K (.ref C) = some (.type "type")
def sRaise (c : Str) : SF := fun ρ => .exc c [] ρ
theorem sd_raise0 {x : Str} {p pos' : Pos} (c : CF X K W k) (h : ExF K x) (hg : ∀ i, Gl (X i) x) (hdb : (x == ("__debug__" : Str)) = false := by decide) : SD X K W pr (.Raise (some (.Call (.Name x p) [] [] pos)) none pos') (sRaise x) := by
  obtain ⟨C, hm, h1, h2, h3, h4⟩ := h.ex
  refine ⟨_, (fun i => ps_raise (c.calm i) (c.tk i) (pmk_own0 PySem.F.excBase_ValueError (by rw [c.kk i]; exact h1) (by rw [c.mg i]; exact hm) (by rw [c.kk i]; exact h2) (raises_own (by rw [c.kk i]; exact h3) (by rw [c.kk i]; exact h4)) (hg i) hdb)), fun fr ρ σ H Dn S q => ?_⟩
  exact q _ _ σ H .refl ⟨C, hm, rfl, .inl ⟨rfl, rfl⟩⟩ S
/-! ### try -/
abbrev TrI {ι : Type} (X : ι → Cx) (W' : WX) : Type := { j : ι × List (Addr × Obj) × (Value → Shared → Prop) // Takes ((X j.1).tr j.2.1 j.2.2) W' ∧ PassesOwn (model (X j.1).prog (X j.1).w) (X j.1).A (X j.1).env j.2.2 }
abbrev trF {ι : Type} (X : ι → Cx) (W' : WX) : TrI X W' → Cx := fun j => (X j.1.1).tr j.1.2.1 j.1.2.2
abbrev SuI {ι : Type} (X : ι → Cx) (C : Addr) (d : Option Addr) : Type := { j : ι × Obj × List (Addr × Obj) // Zc (.ref C) d j.2.1 ∧ ∃ vs, j.2.1.data = .fields vs }
abbrev suF {ι : Type} (X : ι → Cx) (a C : Addr) (d : Option Addr) : SuI X C d → Cx := fun j => (X j.1.1).suite a ((a, j.1.2.1) :: j.1.2.2)
theorem CF.tr (c : CF X K W k) (W' : WX) : CF (trF X W') K W' k where
  K := fun j => c.K j.1.1
  calm := fun j => c.calm j.1.1
  room := fun j => c.room j.1.1
  tk := fun j => j.2.1
  nd := fun j => c.nd j.1.1
/-- the class that an except clause names: whether it takes an exception of class c -/
def ExmF (K : RC) (x : Str) (m : Str → Option Bool) : Prop := ∀ c b, m c = some b → ∃ C Y, K.mg c = some (.ref C) ∧ K.mg x = some (.ref Y) ∧ PySem.W.exmOne K.K (.ref C) (.ref Y) = some b
def clr (i : Nat) : RS → RS
  | .nx ρ => .nx (ρ.set i none)
  | .ret d ρ => .ret d (ρ.set i none)
  | .brk ρ => .brk (ρ.set i none)
  | .cnt ρ => .cnt (ρ.set i none)
  | .exc _ _ _ => .stuck
  | .stuck => .stuck
open Classical in
noncomputable def suite (i : Nat) (G : Addr → SF) (ρ : Env) : RS := if h : ∃ r, ∀ a, clr i (G a (ρ.set i (some (.adr a)))) = r then h.choose else .stuck
theorem suite_eq {i : Nat} {G : Addr → SF} {ρ : Env} {r : RS} (h : ∀ a, clr i (G a (ρ.set i (some (.adr a)))) = r) : suite i G ρ = r := by
  have ex : ∃ r, ∀ a, clr i (G a (ρ.set i (some (.adr a)))) = r := ⟨r, h⟩
  unfold suite
  rw [dif_pos ex, ← ex.choose_spec 0, h 0]
noncomputable def sTryAs (F : SF) (m : Str → Option Bool) (i : Nat) (G : Str → List (Str × D) → Addr → SF) : SF := fun ρ => match F ρ with
  | .exc c fs ρ' => (match m c with
    | some true => if i < ρ'.length then suite i (G c fs) ρ' else .stuck
    | some false => .exc c fs ρ'
    | none => .stuck)
  | r => r
theorem Sim.slot {K : RC} {fr : Fr} {ρ : Env} {σ : L2.St} {H : Hp} {i : Nat} {d : D} {v : V} (S : Sim K fr ρ σ H) (hf : flat d = some v) (hi : i < ρ.length) : Sim K fr (ρ.set i (some d)) (σ.set i (some v)) H := (S.pushF hf).store hi
theorem Sim.clear0 {K : RC} {fr : Fr} {ρ : Env} {σ : L2.St} {H : Hp} {i : Nat} (S : Sim K fr ρ σ H) : Sim K fr (ρ.set i none) σ H := by
  cases e : σ[i]? with
  | none =>
    have z := S.clear (i := i) none
    rw [List.set_eq_of_length_le (l := σ) (by
      rw [List.getElem?_eq_none_iff] at e
      exact e)] at z
    exact z
  | some s =>
    have z := S.clear (i := i) s
    rw [set_self e] at z
    exact z
theorem pss_ex {X : Cx} {sts : List Stmt} {P : Type} {t : P → TS} (h : ∀ p, PSs X sts (t p)) : PSs X sts (fun D σ H => ∃ p, t p D σ H) := ⟨fun pins s σ H D I ⟨p, q⟩ => (h p).run pins s σ H D I q⟩
def ErrD (fs : List (Str × D)) (d : Option Addr) : Prop := (fs = [] ∧ d = none) ∨ (fs ≠ [] ∧ ∃ a, d = some a)
theorem sd_try_as {x n : Str} {i : Nat} {body suite : List Stmt} {b₀ : Stmt} {np pos' : Pos} {F : SF} {m : Str → Option Bool} {G : Str → List (Str × D) → Addr → SF} (c : CF X K W k) (hs : ∀ j, (X j).stack = (X j).env :: (X j).outer) (hfr : ∀ j, (X j).env.frame = some (X j).env.locals)
    (hi : ∀ j, (X j).N[i]? = some n) (hln : ∀ j, (X j).env.kindOf n = some .local) (hg : ∀ j, Gl (X j) x) (hm : ExmF K x m) {Y : Addr} (hY : K.mg x = some (.ref Y)) (hp : i ∉ pr)
    (hb : ∀ W', SDs (trF X W') K W' pr body F) (hsu : ∀ c fs a C d, K.mg c = some (.ref C) → ErrD fs d → SDs (suF X a C d) K W0 pr (b₀ :: suite) (G c fs a)) (hdb : (x == ("__debug__" : Str)) = false := by decide) :
    SD X K W pr (.Try body [.ExceptHandler (some (.Name x np)) (some n) (b₀ :: suite) pos'] [] [] pos) (sTryAs F m i G) := by
  let ts : Addr → Value → Option Addr → TS := fun a cls d Dn σ H => ∃ p : { p : Str × List (Str × D) × Addr // cls = .ref p.2.2 ∧ K.mg p.1 = some (.ref p.2.2) ∧ ErrD p.2.1 d }, (hsu p.1.1 p.1.2.1 a p.1.2.2 d p.2.2.1 p.2.2.2).ex.choose Dn σ H
  let tb : WX → TS := fun W' => (hb W').ex.choose
  refine ⟨fun D σ H => tb (wAs K.K (.ref Y) i ts W D) D σ H, (fun j => ?_), fun fr ρ σ H Dn S q => ?_⟩
  · rw [← c.kk j]
    refine ps_try_as (tb := tb) (ts := ts) (hs j) (hfr j) (c.nd j) (hi j) (hln j) ⟨hg j, hdb, .inl (by rw [c.mg j]; exact hY)⟩ (c.tk j) (fun W' pn xe tk po => ?_) (fun a oe cls d pn hz hf => ?_)
    · exact (hb W').ex.choose_spec.1 ⟨(j, pn, xe), tk, po⟩
    · refine pss_ex fun p => ?_
      obtain ⟨⟨c', fs, C⟩, h1, h2, h3⟩ := p
      dsimp only at h1 h2 h3 ⊢
      subst h1
      exact (hsu c' fs a C d h2 h3).ex.choose_spec.1 ⟨(j, oe, pn), hz, hf⟩
  · refine (hb _).ex.choose_spec.2 fr ρ σ H _ S ?_
    unfold sTryAs at q
    cases e : F ρ with
    | exc c' fs ρ' =>
      rw [e] at q
      intro cls dd σ' H' ks hx S'
      obtain ⟨C, h1, h2, h3⟩ := hx
      cases em : m c' with
      | none => simp only [em] at q; exact q.elim
      | some b =>
        obtain ⟨C', Y', h4, h5, h6⟩ := hm c' b em
        rw [h1] at h4
        cases h4
        rw [hY] at h5
        cases h5
        subst h2
        refine ⟨b, h6, fun hbt a ha => ?_, fun hbf => ?_⟩
        · subst hbt
          simp only [em] at q
          by_cases hil : i < ρ'.length
          · rw [if_pos hil] at q
            have hE : ErrD fs dd := by
              rcases h3 with h3 | ⟨hn, a, h3, _⟩
              · exact .inl h3
              · exact .inr ⟨hn, a, h3⟩
            refine ⟨⟨(c', fs, C), rfl, h1, hE⟩, ?_⟩
            refine (hsu c' fs a C dd h1 hE).ex.choose_spec.2 fr _ _ H' _ (S'.slot (d := .adr a) rfl hil) ?_
            by_cases hex : ∃ r, ∀ a, clr i (G c' fs a (ρ'.set i (some (.adr a)))) = r
            · obtain ⟨r, hr⟩ := hex
              rw [suite_eq hr] at q
              have hra := hr a
              have kk : KeepS pr σ (σ'.set i (some (.ref a))) := ks.trans (KeepS.set hp)
              cases eg : G c' fs a (ρ'.set i (some (.adr a))) with
              | nx ρ2 =>
                rw [eg] at hra
                subst hra
                exact fun σ2 H2 k2 S2 => q _ H2 ((kk.trans k2).trans (KeepS.set hp)) (S2.clear none)
              | brk ρ2 =>
                rw [eg] at hra
                subst hra
                exact fun σ2 H2 k2 S2 => q _ H2 ((kk.trans k2).trans (KeepS.set hp)) (S2.clear none)
              | cnt ρ2 =>
                rw [eg] at hra
                subst hra
                exact fun σ2 H2 k2 S2 => q _ H2 ((kk.trans k2).trans (KeepS.set hp)) (S2.clear none)
              | ret d ρ2 =>
                rw [eg] at hra
                subst hra
                exact fun v σ2 H2 k2 S2 => q v σ2 H2 (kk.trans k2) (S2.clear0 (i := i + 1))
              | exc _ _ _ =>
                rw [eg] at hra
                subst hra
                exact q.elim
              | stuck =>
                rw [eg] at hra
                subst hra
                exact q.elim
            · unfold DL.suite at q
              rw [dif_neg hex] at q
              exact q.elim
          · rw [if_neg hil] at q
            exact q.elim
        · subst hbf
          simp only [em] at q
          exact q _ _ σ' H' ks ⟨C, h1, rfl, h3⟩ S'
    | nx ρ' => rw [e] at q; exact q
    | ret d ρ' => rw [e] at q; exact q
    | brk ρ' => rw [e] at q; exact q
    | cnt ρ' => rw [e] at q; exact q
    | stuck => rw [e] at q; exact q.elim
/-! ### isinstance of the exception at hand -/
structure IsF (K : RC) (y : Str) (m : Str → Option Bool) : Prop where
  is_ : ∀ c b, m c = some b → ∃ C Y, K.mg c = some (.ref C) ∧ K.mg y = some (.ref Y) ∧ ExcC K.K C ∧ PySem.W.kitOne K.K (.ref C) (.ref Y) = some b
def eIsE (a : Addr) (o : Option Bool) (f : M D) : M D := match o with
  | some b => mbind f fun d => match d with
    | .adr a' => if a' = a then mret (.bl b) else mlift none
    | _ => mlift none
  | none => fun _ => .stuck
theorem ed_isE {y : Str} {m : Str → Option Bool} {p p2 : Pos} {a' C : Addr} {cn : Str} {fs : List (Str × D)} {d : Option Addr} (c : CF X K W k) (h : IsF K y m) (hC : K.mg cn = some (.ref C)) (hE : ErrD fs d) (hg : ∀ i, Gl (X i) "isinstance") (hm : K.mg "isinstance" = none) (hg2 : ∀ i, Gl (X i) y)
    (ha : ED (suF X a' C d) K W0 a fa) (hdb : (y == ("__debug__" : Str)) = false := by decide) (he : ∀ i : SuI X C d, starEach (a :: [.Name y p2]) (suF X a' C d i).env = (false, eval a (suF X a' C d i).env) :: starEach [.Name y p2] (suF X a' C d i).env := by intro _; rfl) (he2 : ∀ i : SuI X C d, starEach [.Name y p2] (suF X a' C d i).env = (false, eval (.Name y p2) (suF X a' C d i).env) :: starEach [] (suF X a' C d i).env := by intro _; rfl)
    (hpl : ∀ i : SuI X C d, (backTo pos (starEach [.Name y p2] (suF X a' C d i).env)).any (·.1) = false := by intro _; rfl) : ED (suF X a' C d) K W0 (.Call (.Name "isinstance" p) [a, .Name y p2] [] pos) (eIsE a' (if fs = [] then m cn else none) fa) := by
  obtain ⟨t, pa, s⟩ := ha.ex
  by_cases hf : fs = []
  · rw [if_pos hf]
    cases hb : m cn with
    | none => exact ⟨fun _ _ _ => False, (fun i => ⟨fun _ _ _ _ _ _ z => z.elim⟩), fun fr ρ σ H Q S q => q.elim⟩
    | some b =>
      have hd : d = none := by
        rcases hE with ⟨_, e⟩ | ⟨e, _⟩
        · exact e
        · exact absurd hf e
      obtain ⟨C', Y, h1, h2, h3, h4⟩ := h.is_ cn b hb
      rw [hC] at h1
      cases h1
      subst hd
      refine ⟨tCB (rIsE K.K C a') (tCons t (tCons (tC (.ref Y)) tNil)), (fun i => ?_), fun fr ρ σ H Q S q => s fr ρ σ H _ S ((QR.bind q).mono fun dv ρ1 q1 v H1 S1 => ?_)⟩
      · have h := pe_callB (X := suF X a' C none i) (p := p) (pos := pos) (call_isE (X := X i.1.1) (a := a') (pn := i.1.2.2) (C := by rw [c.kk]; exact h3) i.2.1 i.2.2) (hg i.1.1) (by rw [c.mg]; exact hm) (by decide +kernel) (pa_cons (pa i) (pa_cons (pe_glob (X := suF X a' C none i) (pos := p2) (hg2 i.1.1) (by rw [c.mg]; exact h2) (show RelV (.ref Y) (.ref Y) from rfl) hdb) pa_nil (he2 i)) (he i)) (by decide) (by decide) (he i) (hpl i)
        rw [c.kk] at h
        exact h
      · split at q1
        · rename_i a2
          by_cases ha2 : a2 = a'
          · rw [if_pos ha2] at q1
            subst ha2
            have := S1.topF rfl
            subst this
            exact ⟨.ref Y, .ref Y, b, rfl, (fun u r => r), h4, q1 _ H1 (S1.drop.pushF rfl)⟩
          · rw [if_neg ha2] at q1
            exact q1.elim
        · exact q1.elim
  · rw [if_neg hf]
    exact ⟨fun _ _ _ => False, (fun i => ⟨fun _ _ _ _ _ _ z => z.elim⟩), fun fr ρ σ H Q S q => q.elim⟩
end
end DL

set_option Elab.async false
set_option linter.all false
set_option maxRecDepth 100000
set_option maxHeartbeats 4000000
namespace DL
open PySem PySem.Spec L2
def ALen (g : M (List D)) (n : Nat) : Prop := ∀ ρ ds ρ', g ρ = .ok ds ρ' → ds.length = n
theorem al_nil : ALen aNil 0 := fun ρ ds ρ' e => by cases e; rfl
theorem al_cons {f : M D} {g : M (List D)} {n : Nat} (h : ALen g n) : ALen (aCons f g) (n + 1) := fun ρ ds ρ' e => by
  obtain ⟨d, ρ1, e1, e2⟩ := mbind_ok e
  obtain ⟨ds', ρ2, e3, e4⟩ := mbind_ok e2
  cases e4
  rw [List.length_cons, h _ _ _ e3]
section
variable {ι : Type} {X : ι → Cx} {K : RC} {W : WX} {k : Nat} {e a b : Expr} {es : List Expr} {f fa fb : M D} {g : M (List D)} {rs : List (Nat × Nat)} {pos : Pos} {pr : List Nat}
theorem ed_gint {x : Str} {i : Int} (c : CF X K W k) (h : ∃ t, K.mg x = some (.int i t)) (hg : ∀ j, Gl (X j) x) (hd : (x == ("__debug__" : Str)) = false := by decide) : ED X K W (.Name x pos) (eC (.int i)) := by
  obtain ⟨t, h⟩ := h
  exact ed_const rfl fun j => pe_glob (hg j) (by rw [c.mg j]; exact h) ⟨t, rfl⟩ hd
theorem ed_fn {j n m : Nat} {x : Str} {F : List D → Res D} {dfl : List D} {p : Pos} (c : CF X K W k) (h : ∀ i, FnX (X i) j x n dfl F) (hj : j ≤ k) (hg : ∀ i, Gl (X i) x) (ha : AM X K W (e :: es) g rs)
    (hl : ALen g m) (hn : m + dfl.length = n := by rfl) (hdb : (x == ("__debug__" : Str)) = false := by decide) (hd : ∀ d ∈ dfl, (flat d).isSome = true := by simp [flat])
    (he : ∀ i, starEach (e :: es) (X i).env = (false, eval e (X i).env) :: starEach es (X i).env := by intro _; rfl) (hpl : ∀ i, (backTo pos (starEach es (X i).env)).any (·.1) = false := by intro _; rfl) : ED X K W (.Call (.Name x p) (e :: es) [] pos) (eCall F g dfl rs) :=
  ed_call h c.K (fun i => (c.room i).mono hj) hg c.tk ha (fun ρ ds ρ' e => by rw [List.length_append, hl _ _ _ e]; exact hn) hdb hd he hpl
theorem ed_fn0 {j n : Nat} {x : Str} {F : List D → Res D} {dfl : List D} {p : Pos} (c : CF X K W k) (h : ∀ i, FnX (X i) j x n dfl F) (hj : j ≤ k) (hg : ∀ i, Gl (X i) x)
    (hn : dfl.length = n := by rfl) (hdb : (x == ("__debug__" : Str)) = false := by decide) (hd : ∀ d ∈ dfl, (flat d).isSome = true := by simp [flat]) : ED X K W (.Call (.Name x p) [] [] pos) (eCall F aNil dfl []) :=
  ed_call0 h c.K (fun i => (c.room i).mono hj) hg c.tk hn hdb hd
end
section
variable {P : Program} {w : World} {K : PySem.W.Frag} {mg : Str → Option Value} {base : Heap} {f : Addr} {fd : FuncData} {x y qual : Str} {params : Arguments} {body : List Stmt} {scope : Scope} {dvs : List V} {kws : List (Str × V)} {ps : List Str} {k : Nat} {Fn : List D → Res D}
theorem fnd_n (F : FunD K x qual params body scope dvs kws f fd) (hm : mg y = some (.ref f)) (b : Binds K fd ps []) (ok : FnOk P w K mg base (L2.CX P w) k f fd ps (spD ⟨K, mg⟩ ps.length Fn)) : FnD P w K mg base k y ps.length [] Fn :=
  ⟨f, fd, ps, [], hm, F.kp, b, .nil, (fun _ z => nomatch z), rfl, ok⟩
theorem fnd_d (F : FunD K x qual params body scope dvs kws f fd) (hm : mg y = some (.ref f)) (dfl : List D) {j : Nat} (b : ∃ ds, Vals (dvs.drop j) ds ∧ Binds K fd ps ds) (hd : dfl.map toV = dvs.drop j) (hf : ∀ d ∈ dfl, (flat d).isSome = true) (ok : FnOk P w K mg base (L2.CX P w) k f fd ps (spD ⟨K, mg⟩ ps.length Fn)) : FnD P w K mg base k y ps.length dfl Fn := by
  obtain ⟨ds, h1, h2⟩ := b
  exact ⟨f, fd, ps, ds, hm, F.kp, h2, by rw [hd]; exact h1, hf, rfl, ok⟩
/-- a def's context -/
theorem cf_of {N : List Str} {f : Addr} {cdv : Value} {A : Around} {outer : List PySem.Env} {s : Shared} {H : Hp} {E : XK} {ps : List Str} (S : FnScope N ps scope) (hr : Room k (A.deeper (PyProof.Rows.envOfC qual scope s.heap.objs.size f cdv))) :
    CF (fun _ : Unit => cxOf (L2.CX P w) P w K mg base N qual scope f cdv A outer s H E) ⟨K, mg⟩ (fun cls d _ H => E cls d H) k where
  K := fun _ => rfl
  calm := fun _ => rfl
  room := fun _ => hr
  tk := fun _ => takes_of rfl rfl rfl rfl
  nd := fun _ => S.nd
end
/-! ### facts of the text -/
theorem exf_of {K : PySem.W.Frag} {h : Heap} {mg : Str → Option Value} {x : Str} (X : K.In h) (G : h.Ns mainGlobals mg) (g : (He.Fa.glo x).ok K = true) (e : (He.Fa.exc x).ok K = true) : ExF ⟨K, mg⟩ x :=
  ⟨_, He.glo_ok X G g, He.exc_ok e⟩
def inL {α : Type} (P : α → Prop) : List α → Prop
  | [] => True
  | a :: l => P a ∧ inL P l
theorem inL_mem {α : Type} {P : α → Prop} {a : α} : ∀ {l : List α}, inL P l → a ∈ l → P a
  | b :: l, h, z => by
    rcases List.mem_cons.mp z with z | z
    · subst z; exact h.1
    · exact inL_mem h.2 z
theorem look_mem {l : List (Str × Bool)} {c : Str} {b : Bool} (h : l.lookup c = some b) : (c, b) ∈ l := by
  induction l with
  | nil => cases h
  | cons p l ih =>
    obtain ⟨x, y⟩ := p
    unfold List.lookup at h
    split at h
    · rename_i e
      cases h
      rw [beq_iff_eq.mp e]
      exact List.mem_cons_self
    · exact List.mem_cons_of_mem _ (ih h)
/-- the class y against the classes of l -/
def exmB (K : PySem.W.Frag) (y : Str) (l : List (Str × Bool)) : Bool := He.Fa.ok K (.glo y) && l.all fun p => He.Fa.ok K (.glo p.1) && He.Fa.ok K (.exm p.1 y p.2)
theorem exmF_of {K : PySem.W.Frag} {h : Heap} {mg : Str → Option Value} {y : Str} {l : List (Str × Bool)} (X : K.In h) (G : h.Ns mainGlobals mg) (e : exmB K y l = true) : ExmF ⟨K, mg⟩ y (fun c => l.lookup c) := fun c b hb => by
  obtain ⟨h1, h2⟩ := He.ba e
  have h3 := List.all_eq_true.mp h2 (c, b) (look_mem hb)
  obtain ⟨h4, h5⟩ := He.ba h3
  exact ⟨_, _, He.glo_ok X G h4, He.glo_ok X G h1, He.exm_ok h5⟩
def excC (K : PySem.W.Frag) (D : Addr) : Bool := decide (PySem.W.findIn K (.ref D) "__getattribute__" = some (some (.builtin "BaseException.__getattribute__"))) && (decide (PySem.W.findIn K (.ref D) "__getattr__" = some none) && (decide (PySem.W.subIn K (.ref D) (.type "BaseException") = some true) && (PySem.W.hasDictIn K D &&
  (decide (PySem.W.findIn K (.ref D) "__class__" = some (some (.builtin "object.__class__"))) && (decide (PySem.W.specialIn K (.builtin "object.__class__") "__get__" = some (some (.builtin "getset_descriptor.__get__"))) && (decide (PySem.W.takesIn K (.builtin "object.__class__") = some true) && decide (PySem.W.mroIn K D (.type "object") = some true)))))))
theorem excC_ok {K : PySem.W.Frag} {D : Addr} (h : excC K D = true) : ExcC K D := by
  obtain ⟨h1, h⟩ := He.ba h
  obtain ⟨h2, h⟩ := He.ba h
  obtain ⟨h3, h⟩ := He.ba h
  obtain ⟨h4, h⟩ := He.ba h
  obtain ⟨h5, h⟩ := He.ba h
  obtain ⟨h6, h⟩ := He.ba h
  obtain ⟨h7, h8⟩ := He.ba h
  exact ⟨of_decide_eq_true h1, of_decide_eq_true h2, of_decide_eq_true h3, h4, of_decide_eq_true h5, of_decide_eq_true h6, of_decide_eq_true h7, of_decide_eq_true h8⟩
def isB1 (K : PySem.W.Frag) (y : Str) (l : List (Str × Bool)) : Bool := He.Fa.ok K (.glo y) && l.all fun p => He.Fa.ok K (.glo p.1) && (excC K (He.ga K p.1) && decide (PySem.W.kitOne K (.ref (He.ga K p.1)) (.ref (He.ga K y)) = some p.2))
theorem isF_of {K : PySem.W.Frag} {h : Heap} {mg : Str → Option Value} {y : Str} {l : List (Str × Bool)} (X : K.In h) (G : h.Ns mainGlobals mg) (e : isB1 K y l = true) : IsF ⟨K, mg⟩ y (fun c => l.lookup c) := ⟨fun c b hb => by
  obtain ⟨h1, h2⟩ := He.ba e
  have h3 := List.all_eq_true.mp h2 (c, b) (look_mem hb)
  obtain ⟨h4, h5⟩ := He.ba h3
  obtain ⟨h6, h7⟩ := He.ba h5
  exact ⟨_, _, He.glo_ok X G h4, He.glo_ok X G h1, excC_ok h6, of_decide_eq_true h7⟩⟩
/-! ### the head with one more Bool -/
abbrev AlE : Type := He.AlD × Bool
def obsE (fa : List He.Fa) (fn : List He.DefD) (ex : PySem.W.Frag → Bool) (K : PySem.W.Frag) : AlE := (He.obsD fa fn K, ex K)
def SaysE (fa : List He.Fa) (fn : List He.DefD) (ex : PySem.W.Frag → Bool) (K : PySem.W.Frag) : Prop := obsE fa fn ex K = (He.valD fn, true)
def obsEG (n : Nat) (fa : List He.Fa) (fn : List He.DefD) (ex : PySem.W.Frag → Bool) (g : Addr → Option Obj) : AlE := obsE fa fn ex (He.frG g (He.asD g n))
def hookE (n : Nat) (fa : List He.Fa) (fn : List He.DefD) (ex : PySem.W.Frag → Bool) : PySem.W.Hook where
  α := AlE
  obs := fun s => obsEG n fa fn ex s.heap.get?
  val := fun _ => (He.valD fn, true)
  says := fun _ h => ∃ K : PySem.W.Frag, K.In h ∧ SaysE fa fn ex K
  of := fun _ _ e => ⟨_, He.frG_in, e⟩
  keeps := fun _ _ _ ⟨K, hK, c⟩ k => ⟨K, PySem.W.Frag.In.keeps hK k, c⟩
theorem obsEG_eq {n : Nat} {fa : List He.Fa} {fn : List He.DefD} {ex : PySem.W.Frag → Bool} {g : Addr → Option Obj} {s : Shared} (h : ∀ a, g a = s.heap.get? a) : obsEG n fa fn ex g = (hookE n fa fn ex).obs s := by
  have e : g = s.heap.get? := funext h
  rw [e] <;> rfl
section
variable {fa : List He.Fa} {fn : List He.DefD} {ex : PySem.W.Frag → Bool} {K : PySem.W.Frag}
theorem SaysE.d (c : SaysE fa fn ex K) : He.SaysD fa fn K := congrArg Prod.fst c
theorem SaysE.e (c : SaysE fa fn ex K) : ex K = true := congrArg Prod.snd c
end
/-! ### the end of a law -/
theorem spLaw_of {K : PySem.W.Frag} {mg : Str → Option Value} {F : List D → Res D} {n : Nat} (h : ∀ ns : List Int, ns.length ≤ n → ∃ os, F [.scr ns] = .ok (.bl true) os) (H : Hp) (a : Addr) (ns : List Int) (hl : ns.length ≤ n) (hS : SqL K H a (ns.map V.int)) :
    spD ⟨K, mg⟩ 1 F [.ref a] H (fun v _ => v = .bl true) fun _ _ _ => False := by
  obtain ⟨os, e⟩ := h ns hl
  refine ⟨⟨H, []⟩, [.scr ns], rfl, rfl, ⟨[], ⟨some (.ref a), [], [], [], rfl, rfl, ⟨.ref a, rfl, rfl, a, rfl, ?_⟩, rfl, rfl⟩, .nil, (fun _ z => nomatch z), (fun _ _ e => e), fun _ z => nomatch z⟩, ?_⟩
  · refine SqL.mono (fun b o e => ?_) hS
    exact hid_some.mpr ⟨(fun z => nomatch z), e⟩
  · rw [e]
    exact fun v H' S => S.topF rfl
end DL

set_option Elab.async false
set_option linter.all false
set_option maxRecDepth 100000
set_option maxHeartbeats 4000000
namespace DL
open PySem PySem.Spec L2
/-! ### an item of a variable that stays -/
theorem RepL.getA {K : RC} {F H : Hp} : ∀ {ds : List D} {xs : List V} {A : List Addr} {i : Nat} {d : D}, RepL K F H ds xs A → ds[i]? = some d → ∃ x B, xs[i]? = some x ∧ Rep K F H d x B
  | [], _, _, _, _, _, e => by simp at e
  | d :: ds, xs, A, i, d', r, e => by
    obtain ⟨v, ws, B, C, rfl, eA, r1, r2⟩ := r
    cases i with
    | zero =>
      have : d = d' := by simpa using e
      subst this
      exact ⟨v, B, rfl, r1⟩
    | succ i =>
      obtain ⟨x, B', h1, h2⟩ := RepL.getA (i := i) r2 (by simpa using e)
      exact ⟨x, B', by simpa using h1, h2⟩
section
variable {K : RC} {fr : Fr} {ρ : Env} {σ : L2.St} {H : Hp}
theorem Sim.pushB {i : Nat} {d : D} {x : V} (S : Sim K fr ρ σ H) {A : List Addr} (T : SimA K fr ρ σ H A) (r : Rep K (hid (A ++ fr.N) H) H d x []) : Sim K fr (some d :: ρ) (some x :: σ) H :=
  ⟨A, T.next (fun a z => .inl z) T.nd (fun a o _ e => e) ⟨some x, σ, [], A, rfl, rfl, ⟨x, rfl, r⟩, T.sl⟩⟩
theorem Sim.look {i j : Nat} {d e : D} {ds : List D} (S : Sim K fr ρ σ H) (h : ρ[i]? = some (some d)) (hi : items d = some ds) (hj : ds[j]? = some e) (hf : fro e = true) :
    ∃ p xs v, σ[i]? = some (some (.ref p)) ∧ (if isL d = true then SqL K.K H p xs else SqT K.K H p xs) ∧ xs.length = ds.length ∧ xs[j]? = some v ∧ Sim K fr (some e :: ρ) (some v :: σ) H := by
  obtain ⟨A, T⟩ := id S
  obtain ⟨s, A1, B, A2, e1, eA, ⟨v, rfl, r⟩, _⟩ := T.sl.at h
  have hH : ∀ a o, hid (A ++ fr.N) H a = some o → H a = some o := fun a o e => (hid_some.mp e).2
  have go : ∀ xs B', RepL K (hid (A ++ fr.N) H) H ds xs B' → ∃ v, xs[j]? = some v ∧ Sim K fr (some e :: ρ) (some v :: σ) H := fun xs B' r => by
    obtain ⟨x, B'', h1, h2⟩ := r.getA hj
    have := fro_rep hf h2
    subst this
    exact ⟨x, h1, S.pushB (i := i) T h2⟩
  cases d with
  | tup es =>
    cases hi
    obtain ⟨_, a, xs, rfl, s, r⟩ := r
    obtain ⟨x, h1, h2⟩ := go xs _ r
    exact ⟨a, xs, x, e1, SqT.mono hH (SqT.of s), r.len, h1, h2⟩
  | lst o es =>
    cases hi
    cases o with
    | false =>
      obtain ⟨_, a, xs, rfl, s, r⟩ := r
      obtain ⟨x, h1, h2⟩ := go xs _ r
      exact ⟨a, xs, x, e1, SqL.of (hH _ _ s), r.len, h1, h2⟩
    | true =>
      obtain ⟨a, xs, B1, rfl, _, s, r⟩ := r
      obtain ⟨x, h1, h2⟩ := go xs _ r
      exact ⟨a, xs, x, e1, SqL.of s, r.len, h1, h2⟩
  | scr ns =>
    cases hi
    obtain ⟨_, a, rfl, s⟩ := r
    obtain ⟨x, h1, h2⟩ := go _ _ (rep_ints ns)
    exact ⟨a, _, x, e1, SqL.mono hH s, by simp, h1, h2⟩
  | _ => cases hi
end
def eVix (i : Nat) (fj : M D) : M D := fun ρ => match ρ[i]? with
  | some (some _) => mbind fj (fun y ρ1 => match y with
    | .int j => (match ρ1[i]? with
      | some (some d) => (match (items d).bind fun ds => atI ds j with
        | some e => if fro e = true then .ok e ρ1 else .stuck
        | none => .stuck)
      | _ => .stuck)
    | _ => .stuck) ρ
  | _ => .stuck
section
variable {ι : Type} {X : ι → Cx} {K : RC} {W : WX} {k : Nat} {b : Expr} {fb : M D} {pos : Pos}
theorem Sim.slotV {fr : Fr} {ρ : Env} {σ : L2.St} {H : Hp} {i : Nat} {d : D} (S : Sim K fr ρ σ H) (h : ρ[i]? = some (some d)) : ∃ v, σ[i]? = some (some v) := by
  obtain ⟨v, e, _⟩ := S.move h
  exact ⟨v, e⟩
theorem ed_vix (i : Nat) {x : Str} {p0 : Pos} (c : CF X K W k) (h : ∀ j, PE (X j) (.Name x p0) (tVar i)) (hb : ED X K W b fb) (hs : PlainIx b := by exact fun _ _ => rfl) : ED X K W (.Subscript (.Name x p0) b pos) (eVix i fb) := by
  obtain ⟨tb, pb, sb⟩ := hb.ex
  refine ⟨tOp (rIx K.K) (tVar i) tb, (fun j => pe_ix (by rw [← c.kk j]; exact ix_seq) (h j) (pb j) hs), fun fr ρ σ H Q S q => ?_⟩
  unfold eVix at q
  split at q
  rotate_left
  · exact q.elim
  rename_i d0 e0
  obtain ⟨v0, hv0⟩ := S.slotV e0
  refine ⟨v0, hv0, ?_⟩
  refine sb fr ρ σ H _ S ((QR.bind q).mono fun y ρ1 q1 vy H1 S1 => ?_)
  split at q1
  rotate_left
  · exact q1.elim
  rename_i j
  split at q1
  rotate_left
  · exact q1.elim
  rename_i d e1
  have hy := S1.topF rfl
  subst hy
  cases hit : items d with
  | none => rw [hit] at q1; exact q1.elim
  | some ds =>
    rw [hit] at q1
    simp only [Option.bind_some] at q1
    cases ha : atI ds j with
    | none => rw [ha] at q1; exact q1.elim
    | some e =>
      rw [ha] at q1
      by_cases hf : fro e = true
      · simp only [hf, if_true] at q1
        have hj : ∃ n : Nat, ds[n]? = some e := by
          unfold atI at ha
          cases hn : ixN ds.length j with
          | none => rw [hn] at ha; cases ha
          | some n => rw [hn] at ha; exact ⟨n, ha⟩
        obtain ⟨n, hn, hx⟩ : ∃ n : Nat, ds[n]? = some e ∧ ∀ (α : Type) (xs : List α) (x : α), xs.length = ds.length → xs[n]? = some x → atI xs j = some x := by
          unfold atI at ha ⊢
          cases hn : ixN ds.length j with
          | none => rw [hn] at ha; cases ha
          | some n => rw [hn] at ha; exact ⟨n, ha, fun α xs x hl hx => by rw [hl, hn]; exact hx⟩
        obtain ⟨p, xs, v, h1, h2, h3, h4, S2⟩ := S1.drop.look e1 hit hn hf
        rw [hv0] at h1
        cases h1
        have hL := hx V xs v h3 h4
        by_cases hk : isL d = true
        · rw [if_pos hk] at h2
          exact .inl ⟨p, xs, j, v, rfl, rfl, h2, hL, q1 v H1 S2⟩
        · rw [if_neg hk] at h2
          exact .inr (.inl ⟨p, xs, j, v, rfl, rfl, h2, hL, q1 v H1 S2⟩)
      · simp only [hf] at q1
        exact q1.elim
end
end DL

set_option Elab.async false
set_option linter.all false
set_option maxRecDepth 100000
set_option maxHeartbeats 4000000
namespace DL
open PySem PySem.Spec L2
/-! ### dict displays, constant keys -/
theorem putK_new {k : Key} {v : V} {kvs : List (Key × V)} (h : k ∉ kvs.map Prod.fst) : putK kvs k v = kvs ++ [(k, v)] := by
  unfold putK
  rw [if_neg]
  intro h'
  obtain ⟨kv, h1, h2⟩ := List.any_eq_true.mp h'
  exact h (List.mem_map.mpr ⟨kv, h1, of_decide_eq_true h2⟩)
theorem mergeK_app : ∀ {more kvs : List (Key × V)}, (kvs.map Prod.fst ++ more.map Prod.fst).Nodup → mergeK kvs more = kvs ++ more
  | [], kvs, _ => by rw [List.append_nil]; rfl
  | (k, v) :: r, kvs, h => by
    show mergeK (putK kvs k v) r = _
    have hk : k ∉ kvs.map Prod.fst := fun z => (List.nodup_append.mp h).2.2 k z k List.mem_cons_self rfl
    rw [putK_new hk, mergeK_app (by
      rw [List.map_append, List.append_assoc]
      exact h), List.append_assoc]
    rfl
section
variable {K : RC} {fr : Fr} {ρ : Env} {σ : L2.St} {H : Hp} {ds : List D} {vs : List V} {ks : List Key} {p : Addr}
theorem Sim.newDk (S : Sim K fr ρ σ H) (hp : H p = none) : Sim K fr (some (.dk true [] []) :: ρ) (some (.ref p) :: σ) (upd H p (.dK [])) := by
  obtain ⟨A, S⟩ := S
  have tr := S.sl.tr
  have sub : ∀ a ∈ p :: A, a ∈ A ∨ H a = none := fun a z => by
    rcases List.mem_cons.mp z with z | z
    · subst z; exact .inr hp
    · exact .inl z
  have kp : ∀ a o, H a = some o → upd H p (.dK []) a = some o := fun a o e => by rw [upd_ne (ne_of_none e hp)]; exact e
  have f := S.fro sub (H' := upd H p (.dK [])) fun a o _ e => kp a o e
  exact ⟨p :: A, S.next sub (nodup_cons_fresh S.nd hp tr) (fun a o _ e => kp a o e) ⟨some (.ref p), σ, [p], A, rfl, rfl, ⟨.ref p, rfl, p, [], [], rfl, rfl, upd_same, rfl, rfl, rfl⟩, S.sl.mono f fun a _ o e => kp a o e⟩⟩
theorem zip_fst : ∀ {ks : List Key} {vs : List V}, ks.length = vs.length → (ks.zip vs).map Prod.fst = ks
  | [], [], _ => rfl
  | k :: ks, v :: vs, h => by
    show k :: ((ks.zip vs).map Prod.fst) = _
    rw [zip_fst (by simpa using h)]
theorem zip_snd : ∀ {ks : List Key} {vs : List V}, ks.length = vs.length → (ks.zip vs).map Prod.snd = vs
  | [], [], _ => rfl
  | k :: ks, v :: vs, h => by
    show v :: ((ks.zip vs).map Prod.snd) = _
    rw [zip_snd (by simpa using h)]
theorem Sim.fillD (S : Sim K fr (some (.dk true [] []) :: (ds.map some ++ ρ)) (some (.ref p) :: (vs.map some ++ σ)) H) (hl : vs.length = ds.length) (hk : ks.length = ds.length) : H p = some (.dK []) ∧ Sim K fr (some (.dk true ks ds) :: ρ) (some (.ref p) :: σ) (upd H p (.dK (ks.zip vs))) := by
  obtain ⟨A, S⟩ := S
  obtain ⟨s1, τ1, B1, C1, e1, rfl, ⟨v1, ev, r1⟩, r2⟩ := S.sl
  injection e1 with e1 e2
  subst e1 e2
  cases ev
  obtain ⟨a, kvs, B, ea, rfl, hx, hks, r1⟩ := r1
  cases ea
  have hkv : kvs = [] := by simpa using hks
  subst hkv
  have hB : B = [] := r1.2
  subst hB
  obtain ⟨A1, A2, rfl, q1, q2⟩ := Sl.cut (by simpa using hl) r2
  refine ⟨hx, p :: (A1 ++ A2), ?_⟩
  have sub : ∀ b ∈ p :: (A1 ++ A2), b ∈ p :: [] ++ (A1 ++ A2) ∨ H b = none := fun b z => .inl z
  have nd0 : (p :: (A1 ++ A2)).Nodup := S.nd
  have pn : p ∉ A1 ++ A2 := (List.nodup_cons.mp nd0).1
  have kp : ∀ b o, b ≠ p → H b = some o → upd H p (.dK (ks.zip vs)) b = some o := fun b o n e => by rw [upd_ne n]; exact e
  have kpA : ∀ b o, b ∉ p :: [] ++ (A1 ++ A2) → H b = some o → upd H p (.dK (ks.zip vs)) b = some o := fun b o n e => kp b o (fun z => n (by simp [z])) e
  have f := S.fro sub (H' := upd H p (.dK (ks.zip vs))) kpA
  have ne : ∀ b, b ∈ A1 ++ A2 → b ≠ p := fun b z e => pn (e ▸ z)
  have hlk : ks.length = vs.length := by rw [hk, hl]
  refine S.next sub nd0 kpA ⟨some (.ref p), _, p :: A1, A2, rfl, rfl, ⟨.ref p, rfl, p, ks.zip vs, A1, rfl, rfl, upd_same, zip_fst hlk, ?_⟩, q2.mono f fun b z o e => kp b o (ne b (by simp [z])) e⟩
  rw [zip_snd hlk]
  exact q1.repL.mono f _ _ _ fun b z o e => kp b o (ne b (by simp [z])) e
end
structure PD {ι : Type} (X : ι → Cx) (K : RC) (W : WX) (pos : Pos) (keys : List (Option Expr)) (values : List Expr) (ks : List Key) (f : M (List D)) : Prop where
  ex : ∃ trs, (∀ i, PPs (X i) pos keys values trs) ∧ ∀ fr ρ σ H Q, Sim K fr ρ σ H → QR K W fr σ (f ρ) (fun ds ρ' => ∀ vs H', vs.length = ds.length → ks.length = ds.length → Sim K fr (ds.map some ++ ρ') (vs.map some ++ σ) H' → Q ((ks.zip vs).map fun kv => (kV kv.1, kv.2)) H') → tPairs trs σ H Q
def eDict (ks : List Key) (f : M (List D)) : M D := mbind f fun ds => if ks.Nodup ∧ ks.length ≤ 15 then mret (.dk true ks ds) else mlift none
section
variable {ι : Type} {X : ι → Cx} {K : RC} {W : WX} {k : Nat} {e : Expr} {f : M D} {g : M (List D)} {pos : Pos} {ks : List Key} {keys : List (Option Expr)} {values : List Expr}
theorem pd_nil : PD X K W pos [] [] [] aNil := ⟨[], (fun _ => pps_nil), fun fr ρ σ H Q S q => q [] H rfl rfl S⟩
theorem pd_cons {ke : Expr} {y : Key} (hk : ∀ i, PE (X i) ke (tC (kV y))) (h : ED X K W e f) (hr : PD X K W pos keys values ks g) : PD X K W pos (some ke :: keys) (e :: values) (y :: ks) (aCons f g) := by
  obtain ⟨t, p, s⟩ := h.ex
  obtain ⟨u, p2, s2⟩ := hr.ex
  refine ⟨(tC (kV y), t) :: u, (fun i => pps_cons (hk i) (p i) (p2 i)), fun fr ρ σ H Q S q => ?_⟩
  refine s fr ρ σ H _ S ((QR.bind q).mono fun d ρ1 q1 v H1 S1 => ?_)
  obtain ⟨fr', S', back⟩ := S1.hold
  refine s2 fr' ρ1 σ H1 _ S' (((QR.bind q1).frame fun ρ H s => (back ρ σ H s).drop).mono fun ds ρ2 q2 vs H2 hl hk S2 => ?_)
  exact q2 (v :: vs) H2 (by simp [hl]) (by simp [hk]) (back _ _ H2 S2)
theorem ed_dict0 : ED X K W (.Dict [] [] pos) (eC (.dk true [] [])) := ⟨tDNewK, (fun _ => pe_dnewK), fun fr ρ σ H Q S q p hp => q _ _ (S.newDk hp)⟩
theorem ed_dict {y : Key} {ke : Option Expr} (h : PD X K W pos (ke :: keys) values (y :: ks) g) (hall : (ke :: keys).all (·.isSome) = true := by rfl) (hl : (ke :: keys).length = values.length := by rfl) (h15 : (ke :: keys).length ≤ 15 := by decide) : ED X K W (.Dict (ke :: keys) values pos) (eDict (y :: ks) g) := by
  obtain ⟨u, p, s⟩ := h.ex
  refine ⟨tDisp u, (fun i => pe_disp (p i) hall hl (by intro z; cases z) h15), fun fr ρ σ H Q S q a ha => ?_⟩
  have S1 := S.newDk ha
  obtain ⟨fr', S', back⟩ := S1.hold
  refine s fr' ρ σ _ _ S' (((QR.bind q).frame fun ρ H s => (back ρ σ H s).drop).mono fun ds ρ2 q2 vs H2 hlv hk S2 => ?_)
  by_cases hz : (y :: ks).Nodup ∧ (y :: ks).length ≤ 15
  · rw [if_pos hz] at q2
    obtain ⟨h1, h2⟩ := (back _ _ _ S2).fillD hlv hk
    have hlk : (y :: ks).length = vs.length := by rw [hk, hlv]
    refine ⟨h1, (y :: ks).zip vs, rfl, by rw [List.length_zip, hlk, Nat.min_self, ← hlk]; exact hz.2, ?_⟩
    rw [mergeK_app (kvs := []) (by
      rw [List.map_nil, List.nil_append, zip_fst hlk]
      exact hz.1)]
    exact q2 _ _ h2
  · rw [if_neg hz] at q2
    exact q2.elim
end
def tBor (f : M Bool) : M Bool := fun ρ => match f (ρ.map (Option.map frz)) with
  | .ok b _ => .ok b ρ
  | .exc c fs _ => .exc c fs ρ
  | .stuck => .stuck
def keepsW : True := trivial
theorem CF.w0 {ι : Type} {X : ι → Cx} {K : RC} {W : WX} {k : Nat} (c : CF X K W k) : CF X K W0 k := ⟨c.K, c.calm, c.room, (fun _ => takes0), c.nd⟩
end DL

set_option Elab.async false
set_option linter.all false
set_option maxRecDepth 100000
set_option maxHeartbeats 4000000
namespace DL
open PySem PySem.Spec L2
theorem walk_ofEW {l : PySem.W.OpenLaw} {n k : Nat} {q : Program} {loose : List Str} {XP : (Str → Option Value) → Heap → Prop} {YP : World → Heap → Prop} {d : DefRec} {CX : World → CXT} {x : Str}
    (hn : l.most = some n) (hn2 : n ≤ sizeLine) (hdf : d.params.defaults = []) (hr : Room k callerA)
    (F : ∀ (w : World) (mg : Str → Option Value) (fa : Addr) (h : Heap), YP w h → h.Ns mainGlobals mg → mg d.name = some (.ref fa) →
      ∃ (K : PySem.W.Frag) (fd : FuncData) (sp : Sp), K.In h ∧ (∀ (s : Shared) (u : Value), BindsTo s fd ⟨[u], []⟩ [(x, u)]) ∧
        (∀ (H : Hp) (a : Addr) (ns : List Int), ns.length ≤ n → Only H → SqL K H a (ns.map V.int) → sp [.ref a] H (fun v _ => v = .bl true) fun _ _ _ => False) ∧
        ∀ base : Heap, K.In base → base.Ns mainGlobals mg → FnOk l.prog w K mg base (CX w) k fa fd [x] sp)
    (hCX : ∀ (w : World) (H : Hp) (s : Shared) (e : Value) (s' : Shared), CX w [] H s (fun _ _ _ => False) e s' → False) :
    PySem.W.WalkO q loose XP YP l.row.toRowW d [] (fun f vs => PySem.call f vs) := by
  refine Att.attach_call hn hdf fun w s₀ s₁ mg mb fa o pm cd doc a vs ns G Y ho hd hcd hmg hobj hints hlen hg => ?_
  obtain ⟨K, fd, sp, KX, hb, hsp, hF⟩ := F w mg fa _ Y G.T.g hmg
  exact law_call KX G.T.g G.T.b G.T.builtins G.T.nolimit hg hobj hints (Nat.le_trans hlen hn2) hr hF hb (fun H hO hS => hsp H a ns hlen hO hS) fun H e s' => hCX w H s₁ e s'
theorem cx_no {P : Program} (w : World) (H : Hp) (s : Shared) (e : Value) (s' : Shared) (x : L2.CX P w [] H s (fun _ _ _ => False) e s') : False := by
  obtain ⟨a, B, H', cls, d, _, _, _, _, _, _, _, z⟩ := x
  exact z
end DL

set_option Elab.async false
set_option linter.all false
set_option maxRecDepth 100000
set_option maxHeartbeats 4000000
set_option exponentiation.threshold 9000
namespace DL
open PySem PySem.Spec L2
/-! ## plain evaluation of readings -/
theorem eqv_ii (i j : Int) : PyData.eqv (.int i) (.int j) = (i == j) := by rw [PyData.eqv]
theorem shaped_int (i : Int) : SeqAt.shaped (.int i) = true := by rfl
theorem eqB_int (i j : Int) : eqB (.int i) (.int j) = some (decide (i = j)) := by
  unfold eqB
  simp only [toPy, Option.bind_some, shaped_int, and_self, if_true, eqv_ii]
  by_cases h : i = j <;> simp [h]
theorem lt300 {n b : Nat} (hb : b ≤ 300) (h : n < 2 ^ b) : n < 2 ^ 300 := Nat.lt_of_lt_of_le h (Nat.pow_le_pow_right (by decide) hb)
theorem mulD_ok {i j : Int} (hi : i.natAbs < 2 ^ 300) (hj : j.natAbs < 2 ^ 300) : mulD (.int i) (.int j) = some (.int (i * j)) := by
  have := mulx_ok hi hj (by decide)
  simp [mulD, this]
theorem mulD_ok2 {i j : Int} (hi : -(2 ^ 80 : Int) < i ∧ i < 2 ^ 80) (hj : -(2 ^ 80 : Int) < j ∧ j < 2 ^ 80) : mulD (.int i) (.int j) = some (.int (i * j)) :=
  mulD_ok (lt300 (b := 80) (by decide) (by omega)) (lt300 (b := 80) (by decide) (by omega))
theorem fdivD_ok {i j : Int} (h1 : 0 < j) (h2 : j < 2 ^ 62) : fdivD (.int i) (.int j) = some (.int (i / j)) := by
  have : j.natAbs < 2 ^ 8000 := Nat.lt_trans (show j.natAbs < 2 ^ 62 by omega) (by decide)
  simp [fdivD, ii, h1, this]
theorem modD_ok {i j : Int} (h1 : 0 < j) : modD (.int i) (.int j) = some (.int (i % j)) := by simp [modD, ii, h1]
theorem powD_ok {i j : Int} (h1 : 0 ≤ j) (h2 : j ≤ 1000000) (h3 : i.natAbs < 2 ^ 64) : powD (.int i) (.int j) = some (.int (i ^ j.toNat)) := by simp [powD, ii, h1, h2, h3]
section
variable {α β : Type} {m : M α} {F G : SF} {ρ ρ1 ρ2 ρ3 : DL.Env} {f fa fb fc : M D} {g : M (List D)} {d x y z : D} {ds os : _} {c c2 : M Bool} {i j : Int}
theorem mbind_of {m : M α} {k : α → M β} {a : α} (h : m ρ = .ok a ρ1) : mbind m k ρ = k a ρ1 := by unfold mbind; rw [h]
theorem sE_of {m : M α} {k : α → SF} {a : α} (h : m ρ = .ok a ρ1) : sE m k ρ = k a ρ1 := by unfold sE; rw [h]
theorem e2_ok {op : D → D → Option D} (h1 : fa ρ = .ok x ρ1) (h2 : fb ρ1 = .ok y ρ2) (h3 : op x y = some d) : e2 op fa fb ρ = .ok d ρ2 := by
  unfold e2; rw [mbind_of h1, mbind_of h2, h3]; rfl
theorem e1_ok {op : D → Option D} (h1 : fa ρ = .ok x ρ1) (h3 : op x = some d) : e1 op fa ρ = .ok d ρ1 := by
  unfold e1; rw [mbind_of h1, h3]; rfl
theorem eBi_ok {op : List D → Option D} {ds : List D} (h1 : g ρ = .ok ds ρ1) (h3 : op ds = some d) : eBi op g ρ = .ok d ρ1 := by
  unfold eBi; rw [mbind_of h1, h3]; rfl
theorem aCons_ok {ds : List D} (h1 : f ρ = .ok d ρ1) (h2 : g ρ1 = .ok ds ρ2) : aCons f g ρ = .ok (d :: ds) ρ2 := by
  unfold aCons; rw [mbind_of h1, mbind_of h2]; rfl
theorem eFrz_ok (h1 : f ρ = .ok d ρ1) : eFrz f ρ = .ok (frz d) ρ1 := by
  unfold eFrz; rw [mbind_of h1]; rfl
theorem eFrz_int (h1 : f ρ = .ok (.int i) ρ1) : eFrz f ρ = .ok (.int i) ρ1 := eFrz_ok h1
theorem eBor_int (h1 : f (ρ.map (Option.map frz)) = .ok (.int i) ρ1) : eBor f ρ = .ok (.int i) ρ := by
  unfold eBor; rw [h1]; rfl
theorem eBor_bl {b : Bool} (h1 : f (ρ.map (Option.map frz)) = .ok (.bl b) ρ1) : eBor f ρ = .ok (.bl b) ρ := by
  unfold eBor; rw [h1]; rfl
theorem tBor_ok {b : Bool} (h1 : c (ρ.map (Option.map frz)) = .ok b ρ1) : tBor c ρ = .ok b ρ := by
  unfold tBor; rw [h1]
theorem sAsg_ok {k : D → DL.Env → Option DL.Env} (h1 : f ρ = .ok d ρ1) (h2 : k d ρ1 = some ρ2) : sAsg f k ρ = .nx ρ2 := by
  unfold sAsg; rw [sE_of h1]; simp only [h2]
theorem sRet_ok (h1 : f ρ = .ok d ρ1) : sRet f ρ = .ret d ρ1 := by
  unfold sRet; rw [sE_of h1]
theorem sDrop_ok (h1 : f ρ = .ok d ρ1) : sDrop f ρ = .nx ρ1 := by
  unfold sDrop; rw [sE_of h1]
theorem sIf_t (h1 : c ρ = .ok true ρ1) : sIf c F G ρ = F ρ1 := by
  unfold sIf; rw [sE_of h1]; rfl
theorem sIf_f (h1 : c ρ = .ok false ρ1) : sIf c F G ρ = G ρ1 := by
  unfold sIf; rw [sE_of h1]; rfl
theorem seq_nx (h : F ρ = .nx ρ1) : sSeq F G ρ = G ρ1 := by unfold sSeq; rw [h]
theorem seq_ret (h : F ρ = .ret d ρ1) : sSeq F G ρ = .ret d ρ1 := by unfold sSeq; rw [h]
theorem seq_exc {cn : Str} {fs : List (Str × D)} (h : F ρ = .exc cn fs ρ1) : sSeq F G ρ = .exc cn fs ρ1 := by unfold sSeq; rw [h]
theorem eCall_ok {Fn : List D → Res D} {dfl : List D} {rs : List (Nat × Nat)} {ds : List D} {os : DL.Env} (h1 : g ρ = .ok ds ρ1) (h2 : Fn (ds ++ dfl) = .ok d os) : eCall Fn g dfl rs ρ = .ok d (restore rs os ρ1) := by
  unfold eCall; rw [mbind_of h1, h2]
theorem eCall_exc {Fn : List D → Res D} {dfl : List D} {rs : List (Nat × Nat)} {ds : List D} {os : DL.Env} {cn : Str} {fs : List (Str × D)} (h1 : g ρ = .ok ds ρ1) (h2 : Fn (ds ++ dfl) = .exc cn fs os) : eCall Fn g dfl rs ρ = .exc cn fs (restore rs os ρ1) := by
  unfold eCall; rw [mbind_of h1, h2]
theorem eCall_of {Fn : List D → Res D} {dfl : List D} {rs : List (Nat × Nat)} {ds es : List D} {os : DL.Env} (h1 : g ρ = .ok ds ρ1) (hd : ds ++ dfl = es) (h2 : Fn es = .ok d os) (h3 : restore rs os ρ1 = ρ2) : eCall Fn g dfl rs ρ = .ok d ρ2 := by subst hd h3; exact eCall_ok h1 h2
theorem eCall_xof {Fn : List D → Res D} {dfl : List D} {rs : List (Nat × Nat)} {ds es : List D} {os : DL.Env} {cn : Str} {fs : List (Str × D)} (h1 : g ρ = .ok ds ρ1) (hd : ds ++ dfl = es) (h2 : Fn es = .exc cn fs os) (h3 : restore rs os ρ1 = ρ2) : eCall Fn g dfl rs ρ = .exc cn fs ρ2 := by subst hd h3; exact eCall_exc h1 h2
theorem run_ok {pr : List Nat} {n L : Nat} {b : SF} {ds : List D} {os ρ0 : DL.Env} (h : b ρ0 = .ret d ρ) (h0 : ds.map some ++ List.replicate (L - ds.length) none = ρ0) (hl : n ≤ ρ.length) (ho : outs pr n ρ = os) : runS pr n L b ds = .ok d os := by
  subst h0 ho
  unfold runS; rw [h]; exact if_pos hl
theorem run_nx {pr : List Nat} {n L : Nat} {b : SF} {ds : List D} {os ρ0 : DL.Env} (h : b ρ0 = .nx ρ) (h0 : ds.map some ++ List.replicate (L - ds.length) none = ρ0) (hl : n ≤ ρ.length) (ho : outs pr n ρ = os) : runS pr n L b ds = .ok .non os := by
  subst h0 ho
  unfold runS; rw [h]; exact if_pos hl
theorem run_exc {pr : List Nat} {n L : Nat} {b : SF} {ds : List D} {os ρ0 : DL.Env} {cn : Str} {fs : List (Str × D)} (h : b ρ0 = .exc cn fs ρ) (h0 : ds.map some ++ List.replicate (L - ds.length) none = ρ0) (hl : n ≤ ρ.length) (ho : outs pr n ρ = os) : runS pr n L b ds = .exc cn fs os := by
  subst h0 ho
  unfold runS; rw [h]; exact if_pos hl
theorem eFrz_exc {cn : Str} {fs : List (Str × D)} (h1 : f ρ = .exc cn fs ρ1) : eFrz f ρ = .exc cn fs ρ1 := by unfold eFrz mbind; rw [h1]
theorem sAsg_exc {k : D → DL.Env → Option DL.Env} {cn : Str} {fs : List (Str × D)} (h1 : f ρ = .exc cn fs ρ1) : sAsg f k ρ = .exc cn fs ρ1 := by unfold sAsg sE; rw [h1]
theorem sTry_exc {m : Str → Option Bool} {i : Nat} {G : Str → List (Str × D) → Addr → SF} {cn : Str} {fs : List (Str × D)} {r : RS} (h : F ρ = .exc cn fs ρ1) (hm : m cn = some true) (hi : i < ρ1.length) (hs : ∀ a, clr i (G cn fs a (ρ1.set i (some (.adr a)))) = r) : sTryAs F m i G ρ = r := by
  unfold sTryAs; rw [h]; simp only [hm, hi, if_true]; exact suite_eq hs
theorem sTry_nx {m : Str → Option Bool} {i : Nat} {G : Str → List (Str × D) → Addr → SF} (h : F ρ = .nx ρ1) : sTryAs F m i G ρ = .nx ρ1 := by
  unfold sTryAs; rw [h]
theorem sTry_ret {m : Str → Option Bool} {i : Nat} {G : Str → List (Str × D) → Addr → SF} (h : F ρ = .ret d ρ1) : sTryAs F m i G ρ = .ret d ρ1 := by
  unfold sTryAs; rw [h]
theorem eIsE_ok {a : Addr} {b : Bool} (h : f ρ = .ok (.adr a) ρ1) : eIsE a (some b) f ρ = .ok (.bl b) ρ1 := by
  unfold eIsE; simp only [mbind_of h, if_true]; rfl
theorem len_scr (ns : List Int) : lenD [.scr ns] = some (.int ns.length) := by simp [lenD, items]
theorem ix_scr {ns : List Int} {k : Int} (h0 : 0 ≤ k) (h1 : k < ns.length) : ∃ x, ixD (.scr ns) (.int k) = some (.int x) := by
  have hk : k.toNat < ns.length := by omega
  refine ⟨ns[k.toNat], ?_⟩
  simp [ixD, items, atI, ixN, h0, h1, hk]
theorem map_mem {α β : Type} {l : List α} {f g : α → β} (h : l.map f = l.map g) : ∀ a ∈ l, f a = g a := List.map_inj_left.mp h
theorem eB_ok {b : Bool} (h1 : f ρ = .ok (.bl b) ρ1) : eB f ρ = .ok b ρ1 := by
  unfold eB; rw [mbind_of h1]; rfl
theorem mAnd_t {b : Bool} (h1 : c ρ = .ok true ρ1) (h2 : c2 ρ1 = .ok b ρ2) : mAnd c c2 ρ = .ok b ρ2 := by
  unfold mAnd; rw [mbind_of h1, if_pos rfl, h2]
theorem mAnd_f (h1 : c ρ = .ok false ρ1) : mAnd c c2 ρ = .ok false ρ1 := by
  unfold mAnd; rw [mbind_of h1]; rfl
theorem mOr_f {b : Bool} (h1 : c ρ = .ok false ρ1) (h2 : c2 ρ1 = .ok b ρ2) : mOr c c2 ρ = .ok b ρ2 := by
  unfold mOr; rw [mbind_of h1, if_neg Bool.false_ne_true, h2]
theorem mOr_t (h1 : c ρ = .ok true ρ1) : mOr c c2 ρ = .ok true ρ1 := by
  unfold mOr; rw [mbind_of h1]; rfl
theorem mNot_ok {b : Bool} (h1 : c ρ = .ok b ρ1) : mNot c ρ = .ok (!b) ρ1 := by
  unfold mNot; rw [mbind_of h1]; rfl
theorem eAnd_t (h1 : fa ρ = .ok (.bl true) ρ1) (h2 : fb ρ1 = .ok d ρ2) : eAnd fa fb ρ = .ok d ρ2 := by
  unfold eAnd; rw [mbind_of h1]; exact h2
theorem eAnd_f (h1 : fa ρ = .ok (.bl false) ρ1) : eAnd fa fb ρ = .ok (.bl false) ρ1 := by
  unfold eAnd; rw [mbind_of h1]; rfl
theorem eOr_f (h1 : fa ρ = .ok (.bl false) ρ1) (h2 : fb ρ1 = .ok d ρ2) : eOr fa fb ρ = .ok d ρ2 := by
  unfold eOr; rw [mbind_of h1]; exact h2
theorem eOr_t (h1 : fa ρ = .ok (.bl true) ρ1) : eOr fa fb ρ = .ok (.bl true) ρ1 := by
  unfold eOr; rw [mbind_of h1]; rfl
theorem eNot_ok {b : Bool} (h1 : fa ρ = .ok (.bl b) ρ1) : eNot fa ρ = .ok (.bl !b) ρ1 := by
  unfold eNot; rw [mbind_of h1]; rfl
theorem eIf_t (h1 : c ρ = .ok true ρ1) (h2 : fa ρ1 = .ok d ρ2) : eIf c fa fb ρ = .ok d ρ2 := by
  unfold eIf; rw [mbind_of h1, if_pos rfl, h2]
theorem eIf_f (h1 : c ρ = .ok false ρ1) (h2 : fb ρ1 = .ok d ρ2) : eIf c fa fb ρ = .ok d ρ2 := by
  unfold eIf; rw [mbind_of h1, if_neg Bool.false_ne_true, h2]
theorem eTup_ok {ds : List D} (h1 : g ρ = .ok ds ρ1) (h : ds.length ≤ 1000) : eTup g ρ = .ok (.tup (frzL ds)) ρ1 := by
  unfold eTup; rw [mbind_of h1, if_pos (Nat.le_trans h (by rw [sizeLine_eq]; decide))]; rfl
theorem eLst_ok {ds : List D} (h1 : g ρ = .ok ds ρ1) (h : ds.length ≤ 1000) : eLst g ρ = .ok (.lst true ds) ρ1 := by
  unfold eLst; rw [mbind_of h1, if_pos (Nat.le_trans h (by rw [sizeLine_eq]; decide))]; rfl
theorem eInst_ok {T : Ty} {b : Bool} (h1 : f ρ = .ok d ρ1) (h : instB T d = some b) : eInst T f ρ = .ok (.bl b) ρ1 := by
  unfold eInst; rw [mbind_of h1, h]; rfl
theorem add_ok (h1 : fa ρ = .ok (.int i) ρ1) (h2 : fb ρ1 = .ok (.int j) ρ2) : e2 addD fa fb ρ = .ok (.int (i + j)) ρ2 := e2_ok h1 h2 rfl
theorem sub_ok (h1 : fa ρ = .ok (.int i) ρ1) (h2 : fb ρ1 = .ok (.int j) ρ2) : e2 subD fa fb ρ = .ok (.int (i - j)) ρ2 := e2_ok h1 h2 rfl
theorem mul_ok {k : Int} (h1 : fa ρ = .ok (.int i) ρ1) (h2 : fb ρ1 = .ok (.int j) ρ2) (h3 : mulD (.int i) (.int j) = some (.int k)) : e2 mulD fa fb ρ = .ok (.int k) ρ2 := e2_ok h1 h2 h3
theorem mod_ok {k : Int} (h1 : fa ρ = .ok (.int i) ρ1) (h2 : fb ρ1 = .ok (.int j) ρ2) (h3 : modD (.int i) (.int j) = some (.int k)) : e2 modD fa fb ρ = .ok (.int k) ρ2 := e2_ok h1 h2 h3
theorem fdiv_ok {k : Int} (h1 : fa ρ = .ok (.int i) ρ1) (h2 : fb ρ1 = .ok (.int j) ρ2) (h3 : fdivD (.int i) (.int j) = some (.int k)) : e2 fdivD fa fb ρ = .ok (.int k) ρ2 := e2_ok h1 h2 h3
theorem ix_int (h1 : fa ρ = .ok x ρ1) (h2 : fb ρ1 = .ok y ρ2) (h3 : ixD x y = some (.int i)) : e2 ixD fa fb ρ = .ok (.int i) ρ2 := e2_ok h1 h2 h3
theorem int_ok (h1 : g ρ = .ok [.int i] ρ1) : eBi intD g ρ = .ok (.int i) ρ1 := eBi_ok h1 rfl
/-! tests of ints -/
theorem lt_ok (h1 : fa ρ = .ok (.int i) ρ1) (h2 : fb ρ1 = .ok (.int j) ρ2) {b : Bool} (h : decide (i < j) = b) : e2 ltD fa fb ρ = .ok (.bl b) ρ2 := e2_ok h1 h2 (by rw [← h]; rfl)
theorem gt_ok (h1 : fa ρ = .ok (.int i) ρ1) (h2 : fb ρ1 = .ok (.int j) ρ2) {b : Bool} (h : decide (j < i) = b) : e2 gtD fa fb ρ = .ok (.bl b) ρ2 := e2_ok h1 h2 (by rw [← h]; rfl)
theorem le_ok (h1 : fa ρ = .ok (.int i) ρ1) (h2 : fb ρ1 = .ok (.int j) ρ2) {b : Bool} (h : decide (i ≤ j) = b) : e2 lebD fa fb ρ = .ok (.bl b) ρ2 := e2_ok h1 h2 (by rw [← h]; rfl)
theorem ge_ok (h1 : fa ρ = .ok (.int i) ρ1) (h2 : fb ρ1 = .ok (.int j) ρ2) {b : Bool} (h : decide (j ≤ i) = b) : e2 geD fa fb ρ = .ok (.bl b) ρ2 := e2_ok h1 h2 (by rw [← h]; rfl)
theorem eqi_ok (h1 : fa ρ = .ok (.int i) ρ1) (h2 : fb ρ1 = .ok (.int j) ρ2) {b : Bool} (h : decide (i = j) = b) : e2 eqD fa fb ρ = .ok (.bl b) ρ2 := e2_ok h1 h2 (by unfold eqD; rw [eqB_int, ← h]; rfl)
theorem nei_ok (h1 : fa ρ = .ok (.int i) ρ1) (h2 : fb ρ1 = .ok (.int j) ρ2) {b : Bool} (h : (!decide (i = j)) = b) : e2 neD fa fb ρ = .ok (.bl b) ρ2 := e2_ok h1 h2 (by unfold neD; rw [eqB_int, ← h]; rfl)
/-- a range of tests a <= x <= b -/
theorem chain_ok {k l : Int} (h1 : fa ρ = .ok (.int i) ρ1) (h2 : fb ρ1 = .ok (.int j) ρ2) (h3 : fc ρ2 = .ok (.int k) ρ3) (hp : ρ3 = ρ2) {b : Bool} (h : decide (i ≤ j ∧ j ≤ k) = b) : eChain lebD lebD fa fb fc ρ = .ok (.bl b) ρ2 := by
  subst hp
  unfold eChain
  rw [mbind_of h1, mbind_of h2]
  by_cases c1 : i ≤ j
  · have e : lebD (.int i) (.int j) = some (.bl true) := by simp [lebD, ii, c1]
    rw [e]
    show mbind fc (fun z => mlift (lebD (.int j) z)) _ = _
    rw [mbind_of h3, ← h]
    simp [lebD, ii, mlift, c1]
  · have e : lebD (.int i) (.int j) = some (.bl false) := by simp [lebD, ii, c1]
    rw [e, ← h]
    simp [mbind, mlift, isB, mret, c1]
theorem forGo_inv {k : D → DL.Env → Option DL.Env} {b : SF} (I : DL.Env → Prop) : ∀ (ds : List D) (ρ : DL.Env), (∀ d ∈ ds, ∀ ρ, I ρ → ∃ ρ1 ρ2, k d ρ = some ρ1 ∧ b ρ1 = .nx ρ2 ∧ I ρ2) → I ρ → ∃ ρ', forGo k b ds ρ = .nx ρ' ∧ I ρ'
  | [], ρ, _, hI => ⟨ρ, rfl, hI⟩
  | d :: ds, ρ, h, hI => by
    obtain ⟨ρ1, ρ2, e1, e2, hI2⟩ := h d List.mem_cons_self ρ hI
    obtain ⟨ρ', e3, hI3⟩ := forGo_inv I ds ρ2 (fun d hd => h d (List.mem_cons_of_mem _ hd)) hI2
    refine ⟨ρ', ?_, hI3⟩
    unfold forGo
    simp only [e1, e2, e3]
theorem sFor_inv {fi : M (List D)} {k : D → DL.Env → Option DL.Env} {b : SF} {ds : List D} (I : DL.Env → Prop) (h1 : fi ρ = .ok ds ρ1) (h0 : I ρ1) (h : ∀ d ∈ ds, ∀ ρ, I ρ → ∃ ρ1 ρ2, k d ρ = some ρ1 ∧ b ρ1 = .nx ρ2 ∧ I ρ2) : ∃ ρ', sFor fi k b ρ = .nx ρ' ∧ I ρ' := by
  unfold sFor
  rw [sE_of h1]
  exact forGo_inv I ds ρ1 h h0
theorem for_then {fi : M (List D)} {k : D → DL.Env → Option DL.Env} {b : SF} {ds : List D} (I : DL.Env → Prop) (h1 : fi ρ = .ok ds ρ1) (h0 : I ρ1) (h : ∀ d ∈ ds, ∀ ρ, I ρ → ∃ ρ1 ρ2, k d ρ = some ρ1 ∧ b ρ1 = .nx ρ2 ∧ I ρ2) (h2 : ∀ ρ', I ρ' → ∃ ρ2, G ρ' = .ret d ρ2 ∧ I ρ2) : ∃ ρ2, sSeq (sFor fi k b) G ρ = .ret d ρ2 ∧ I ρ2 := by
  obtain ⟨ρ', e, hI⟩ := sFor_inv I h1 h0 h
  obtain ⟨ρ2, e2, hI2⟩ := h2 ρ' hI
  exact ⟨ρ2, (seq_nx e).trans e2, hI2⟩
theorem rgD_mem {a b : Int} {d : D} (h : d ∈ rgD a b) : ∃ i : Int, d = .int i ∧ a ≤ i ∧ i < b := by
  unfold rgD at h
  obtain ⟨n, hn, rfl⟩ := List.mem_map.mp h
  have := List.mem_range.mp hn
  exact ⟨_, rfl, by omega, by omega⟩
end
end DL

set_option Elab.async false
set_option linter.all false
set_option maxRecDepth 100000
set_option maxHeartbeats 4000000
namespace DL
open PySem PySem.Spec L2
section
variable {K : RC} {fr : Fr} {ρ : DL.Env} {σ : L2.St} {H : Hp}
theorem Sim.frzN : ∀ {ds : List D} {vs : List V} {ρ : DL.Env} {fr : Fr}, vs.length = ds.length → Sim K fr (ds.map some ++ ρ) (vs.map some ++ σ) H → Sim K fr ((frzL ds).map some ++ ρ) (vs.map some ++ σ) H
  | [], [], ρ, fr, _, S => S
  | d :: ds, v :: vs, ρ, fr, hl, S => by
    have S1 : Sim K fr (some d :: (ds.map some ++ ρ)) (some v :: (vs.map some ++ σ)) H := S
    obtain ⟨fr', S2, back⟩ := S1.frz.hold
    exact back _ _ _ (Sim.frzN (by simpa using hl) S2)
theorem repL_frz {F H : Hp} : ∀ {ds : List D} {vs : List V} {A : List Addr}, RepL K F H (frzL ds) vs A → A = []
  | [], vs, A, r => r.2
  | d :: ds, vs, A, r => by
    obtain ⟨v, ws, B, C, rfl, rfl, r1, r2⟩ := r
    rw [fro_rep (fro_frz d) r1, repL_frz r2]
    rfl
theorem Sim.holdFL {ds : List D} {vs : List V} (hl : vs.length = ds.length) (S0 : Sim K fr (ds.map some ++ ρ) (vs.map some ++ σ) H) : ∃ fr', Sim K fr' ρ σ H ∧ RepL K (VF fr') H (frzL ds) vs [] ∧ ∀ ρ' σ' H', Sim K fr' ρ' σ' H' → Sim K fr ρ' σ' H' := by
  obtain ⟨A, S⟩ := S0.frzN hl
  obtain ⟨A1, C, rfl, q1, r2⟩ := Sl.cut (by simp [hl, frzL_len]) S.sl
  have r1 := q1.repL
  have := repL_frz r1
  subst this
  refine ⟨⟨hid C H, fr.N⟩, ⟨C, r2, S.nd, fun a z => ⟨(S.off a z).1, by show hid C H a = none; unfold hid; rw [if_pos z]⟩, fun a o e => (hid_some.mp e).2, fun a z => ?_⟩, ?_, ?_⟩
  · obtain ⟨o, e, nt⟩ := S.tr a z
    exact ⟨o, hid_some.mpr ⟨fun w => (S.off a w).1 z, S.keep a o e⟩, nt⟩
  · refine RepL.mono (fun a o e => ?_) _ _ [] (fun _ z => nomatch z) r1
    obtain ⟨n, e⟩ := hid_some.mp e
    exact hid_some.mpr ⟨fun z => n (List.mem_append_right _ z), hid_some.mpr ⟨fun z => n (List.mem_append_left _ z), e⟩⟩
  · rintro ρ' σ' H' ⟨A', U⟩
    refine ⟨A', U.sl, U.nd, fun a z => ⟨(U.off a z).1, ?_⟩, fun a o e => ?_, S.tr⟩
    · cases g : fr.G a with
      | none => rfl
      | some o =>
        have q : hid C H a = none := (U.off a z).2
        have nC : a ∉ C := fun w => by rw [(S.off a w).2] at g; cases g
        rw [show hid C H a = some o from hid_some.mpr ⟨nC, S.keep a o g⟩] at q
        cases q
    · have nC : a ∉ C := fun w => by rw [(S.off a w).2] at e; cases e
      exact U.keep a o (hid_some.mpr ⟨nC, S.keep a o e⟩)
/-! ### reversed -/
theorem yields_revL {ds : List D} {xs : List V} {H0 : Hp} {a : Addr} (hs : SqL K.K (VF fr) a xs) (r : RepL K (VF fr) H0 ds xs []) : Yields K (Itv K.K a xs.length) fr ds.reverse where
  go := fun i H ρ σ S hi => by
    have hl := r.len
    rw [List.length_reverse] at hi
    refine ⟨by omega, xs, xs[xs.length - 1 - i]'(by omega), SqL.mono S.vfH hs, List.getElem?_eq_getElem _⟩
  stop := fun i H ρ σ S hi => by
    have hl := r.len
    rw [List.length_reverse] at hi
    show xs.length ≤ i
    omega
  yld := fun i H x H' ρ σ d S e hy => by
    obtain ⟨rfl, h⟩ := hy
    have hl := r.len
    have hi : i < ds.reverse.length := (List.getElem?_eq_some_iff.mp e).1
    rw [List.length_reverse] at hi
    rw [List.getElem?_reverse hi, ← hl] at e
    obtain ⟨x', hx, q⟩ := r.get e
    have := h xs (SqL.mono S.vfH hs)
    rw [hx] at this
    cases this
    exact S.pushG q
theorem yields_revT {ds : List D} {xs : List V} {H0 : Hp} {a : Addr} (hs : SqT K.K (VF fr) a xs) (r : RepL K (VF fr) H0 ds xs []) : Yields K (RT.ItvT K.K a xs.length) fr ds.reverse where
  go := fun i H ρ σ S hi => by
    have hl := r.len
    rw [List.length_reverse] at hi
    refine ⟨by omega, xs, xs[xs.length - 1 - i]'(by omega), SqT.mono S.vfH hs, List.getElem?_eq_getElem _⟩
  stop := fun i H ρ σ S hi => by
    have hl := r.len
    rw [List.length_reverse] at hi
    show xs.length ≤ i
    omega
  yld := fun i H x H' ρ σ d S e hy => by
    obtain ⟨rfl, h⟩ := hy
    have hl := r.len
    have hi : i < ds.reverse.length := (List.getElem?_eq_some_iff.mp e).1
    rw [List.length_reverse] at hi
    rw [List.getElem?_reverse hi, ← hl] at e
    obtain ⟨x', hx, q⟩ := r.get e
    have := h xs (SqT.mono S.vfH hs)
    rw [hx] at this
    cases this
    exact S.pushG q
/-! ### zip of two lists, of two tuples -/
def zipD : List D → List D → List D
  | x :: xs, y :: ys => .tup [x, y] :: zipD xs ys
  | _, _ => []
theorem zipD_get : ∀ {xs ys : List D} {i : Nat} {d : D}, (zipD xs ys)[i]? = some d → ∃ x y, xs[i]? = some x ∧ ys[i]? = some y ∧ d = .tup [x, y]
  | [], ys, i, d, h => by simp [zipD] at h
  | x :: xs, [], i, d, h => by simp [zipD] at h
  | x :: xs, y :: ys, 0, d, h => by
    have : D.tup [x, y] = d := by simpa [zipD] using h
    exact ⟨x, y, rfl, rfl, this.symm⟩
  | x :: xs, y :: ys, i + 1, d, h => by
    obtain ⟨a, b, h1, h2, h3⟩ := zipD_get (xs := xs) (ys := ys) (i := i) (d := d) (by simpa [zipD] using h)
    exact ⟨a, b, by simpa using h1, by simpa using h2, h3⟩
theorem zipD_len : ∀ xs ys : List D, (zipD xs ys).length = min xs.length ys.length
  | [], ys => by simp [zipD]
  | x :: xs, [] => by simp [zipD]
  | x :: xs, y :: ys => by simp [zipD, zipD_len xs ys]
theorem zip_yld {d1 d2 : D} {x y : V} {T : Addr} {ρ : DL.Env} {σ : L2.St} {H H0 : Hp} (S : Sim K fr ρ σ H) (r1 : Rep K (VF fr) H0 d1 x []) (r2 : Rep K (VF fr) H0 d2 y []) (hT : H T = none) : Sim K fr (some (.tup [d1, d2]) :: ρ) (some (.ref T) :: σ) (upd H T (.tup [x, y])) := by
  have S1 : Sim K fr ([d1, d2].map some ++ ρ) ([x, y].map some ++ σ) H := (S.pushG r2).pushG r1
  have z := S1.newT rfl hT
  have e1 := Rep.frz_id d1 x r1
  have e2 := Rep.frz_id d2 y r2
  rw [show frzL [d1, d2] = [frz d1, frz d2] from rfl, e1, e2] at z
  exact z
theorem yields_zipL {ds es : List D} {xs ys : List V} {H0 : Hp} {a b : Addr} (hs : SqL K.K (VF fr) a xs) (r : RepL K (VF fr) H0 ds xs []) (hs2 : SqL K.K (VF fr) b ys) (r2 : RepL K (VF fr) H0 es ys []) : Yields K (Itz K.K a b) fr (zipD ds es) where
  go := fun i H ρ σ S hi => by
    obtain ⟨x, y, h1, h2, _⟩ := zipD_get (List.getElem?_eq_getElem hi)
    obtain ⟨u, hu, _⟩ := r.get h1
    obtain ⟨v, hv, _⟩ := r2.get h2
    exact ⟨xs, ys, u, v, SqL.mono S.vfH hs, SqL.mono S.vfH hs2, hu, hv⟩
  stop := fun i H ρ σ S hi => by
    rw [zipD_len, ← r.len, ← r2.len] at hi
    exact ⟨xs, ys, SqL.mono S.vfH hs, SqL.mono S.vfH hs2, by omega⟩
  yld := fun i H x H' ρ σ d S e hy => by
    obtain ⟨T, u, v, rfl, hT, rfl, h1, h2⟩ := hy
    obtain ⟨p, q, hp, hq, rfl⟩ := zipD_get e
    obtain ⟨u', hu, ru⟩ := r.get hp
    obtain ⟨v', hv, rv⟩ := r2.get hq
    have e1 := h1 xs (SqL.mono S.vfH hs)
    have e2 := h2 ys (SqL.mono S.vfH hs2)
    rw [hu] at e1
    rw [hv] at e2
    cases e1
    cases e2
    exact zip_yld S ru rv hT
theorem yields_zipT {ds es : List D} {xs ys : List V} {H0 : Hp} {a b : Addr} (hs : SqT K.K (VF fr) a xs) (r : RepL K (VF fr) H0 ds xs []) (hs2 : SqT K.K (VF fr) b ys) (r2 : RepL K (VF fr) H0 es ys []) : Yields K (RZ.ItzT K.K a b) fr (zipD ds es) where
  go := fun i H ρ σ S hi => by
    obtain ⟨x, y, h1, h2, _⟩ := zipD_get (List.getElem?_eq_getElem hi)
    obtain ⟨u, hu, _⟩ := r.get h1
    obtain ⟨v, hv, _⟩ := r2.get h2
    exact ⟨xs, ys, u, v, SqT.mono S.vfH hs, SqT.mono S.vfH hs2, hu, hv⟩
  stop := fun i H ρ σ S hi => by
    rw [zipD_len, ← r.len, ← r2.len] at hi
    exact ⟨xs, ys, SqT.mono S.vfH hs, SqT.mono S.vfH hs2, by omega⟩
  yld := fun i H x H' ρ σ d S e hy => by
    obtain ⟨T, u, v, rfl, hT, rfl, h1, h2⟩ := hy
    obtain ⟨p, q, hp, hq, rfl⟩ := zipD_get e
    obtain ⟨u', hu, ru⟩ := r.get hp
    obtain ⟨v', hv, rv⟩ := r2.get hq
    have e1 := h1 xs (SqT.mono S.vfH hs)
    have e2 := h2 ys (SqT.mono S.vfH hs2)
    rw [hu] at e1
    rw [hv] at e2
    cases e1
    cases e2
    exact zip_yld S ru rv hT
/-! ### enumerate of a list -/
def enumD : Nat → List D → List D
  | _, [] => []
  | n, x :: xs => .tup [.int (n : Nat), x] :: enumD (n + 1) xs
theorem enumD_get : ∀ {xs : List D} {n i : Nat} {d : D}, (enumD n xs)[i]? = some d → ∃ x, xs[i]? = some x ∧ d = .tup [.int ((n + i : Nat) : Int), x]
  | [], n, i, d, h => by simp [enumD] at h
  | x :: xs, n, 0, d, h => by
    have : D.tup [.int (n : Nat), x] = d := by simpa [enumD] using h
    exact ⟨x, rfl, this.symm⟩
  | x :: xs, n, i + 1, d, h => by
    obtain ⟨a, h1, h2⟩ := enumD_get (xs := xs) (n := n + 1) (i := i) (d := d) (by simpa [enumD] using h)
    refine ⟨a, by simpa using h1, ?_⟩
    rw [h2, show n + 1 + i = n + (i + 1) by omega]
theorem enumD_len : ∀ (n : Nat) (xs : List D), (enumD n xs).length = xs.length
  | _, [] => rfl
  | n, x :: xs => by simp [enumD, enumD_len (n + 1) xs]
theorem yields_enum {ds : List D} {xs : List V} {H0 : Hp} {a : Addr} (hs : SqL K.K (VF fr) a xs) (r : RepL K (VF fr) H0 ds xs []) : Yields K (Ite K.K a) fr (enumD 0 ds) where
  go := fun i H ρ σ S hi => by
    obtain ⟨x, h1, _⟩ := enumD_get (List.getElem?_eq_getElem hi)
    obtain ⟨u, hu, _⟩ := r.get h1
    exact ⟨xs, u, SqL.mono S.vfH hs, hu⟩
  stop := fun i H ρ σ S hi => by
    rw [enumD_len, ← r.len] at hi
    exact ⟨xs, SqL.mono S.vfH hs, hi⟩
  yld := fun i H x H' ρ σ d S e hy => by
    obtain ⟨T, u, rfl, hT, rfl, h1⟩ := hy
    obtain ⟨p, hp, rfl⟩ := enumD_get e
    obtain ⟨u', hu, ru⟩ := r.get hp
    have e1 := h1 xs (SqL.mono S.vfH hs)
    rw [hu] at e1
    cases e1
    rw [Nat.zero_add]
    exact zip_yld S (show Rep K (VF fr) H0 (.int ((i : Nat) : Int)) (.int ((i : Nat) : Int)) [] from ⟨rfl, rfl⟩) ru hT
end
/-! ### the walks -/
def iRevD (f : M D) : M (List D) := mbind f fun d => mlift ((seqOf d).map List.reverse)
def zipOf : D → D → Option (List D)
  | .tup xs, .tup ys => some (zipD xs ys)
  | .lst _ xs, .lst _ ys => some (zipD xs ys)
  | _, _ => none
def enumOf : D → Option (List D)
  | .lst _ xs => some (enumD 0 xs)
  | .scr ns => some (enumD 0 (ns.map D.int))
  | _ => none
def zip2 : List D → Option (List D)
  | [x, y] => zipOf (frz x) (frz y)
  | _ => none
def enum1 : List D → Option (List D)
  | [x] => enumOf (frz x)
  | _ => none
theorem zip2_two {ds l : List D} (h : zip2 ds = some l) : ∃ x y, ds = [x, y] ∧ zipOf (frz x) (frz y) = some l := by
  unfold zip2 at h
  split at h
  · exact ⟨_, _, rfl, h⟩
  · cases h
theorem enum1_one {ds l : List D} (h : enum1 ds = some l) : ∃ x, ds = [x] ∧ enumOf (frz x) = some l := by
  unfold enum1 at h
  split at h
  · exact ⟨_, rfl, h⟩
  · cases h
theorem zipOf_cases {x y : D} {l : List D} (h : zipOf x y = some l) : (∃ xs ys, x = .tup xs ∧ y = .tup ys ∧ l = zipD xs ys) ∨ (∃ o xs o2 ys, x = .lst o xs ∧ y = .lst o2 ys ∧ l = zipD xs ys) := by
  unfold zipOf at h
  split at h
  · cases h; exact .inl ⟨_, _, rfl, rfl, rfl⟩
  · cases h; exact .inr ⟨_, _, _, _, rfl, rfl, rfl⟩
  · cases h
theorem enumOf_cases {x : D} {l : List D} (h : enumOf x = some l) : (∃ o xs, x = .lst o xs ∧ l = enumD 0 xs) ∨ (∃ ns, x = .scr ns ∧ l = enumD 0 (ns.map D.int)) := by
  unfold enumOf at h
  split at h
  · cases h; exact .inl ⟨_, _, rfl, rfl⟩
  · cases h; exact .inr ⟨_, rfl, rfl⟩
  · cases h
def iZipD (g : M (List D)) : M (List D) := mbind g fun ds => mlift (zip2 ds)
def iEnumD (g : M (List D)) : M (List D) := mbind g fun ds => mlift (enum1 ds)
section
variable {ι : Type} {X : ι → Cx} {K : RC} {W : WX} {k : Nat} {e a b tg : Expr} {es : List Expr} {f fa fb : M D} {g : M (List D)} {pos : Pos} {pr : List Nat}
theorem id_rev {p : Pos} (c : CF X K W k) (hg : ∀ i, Gl (X i) "reversed") (hm : K.mg "reversed" = none) (h : ED X K W e f) (hs : ∀ i, starEach [e] (X i).env = (false, eval e (X i).env) :: starEach [] (X i).env := by intro _; rfl) : ID X K W tg (.Call (.Name "reversed" p) [e] [] pos) (iRevD f) := by
  obtain ⟨t, pp, s⟩ := h.ex
  refine ⟨RT.iRevA K.K t, (fun i => by rw [← c.kk i]; exact RT.pi_revA (hg i) (by rw [c.mg i]; exact hm) (pp i) (hs i)), fun fr ρ σ H R S q => s fr ρ σ H _ S ((QR.bind q).mono fun d ρ1 q1 v H1 S1 => ?_)⟩
  obtain ⟨ds, e1, q2⟩ := QR.lift q1
  obtain ⟨fr', S2, r, back⟩ := S1.frz.holdF (fro_frz d)
  unfold seqOf at e1
  cases ed : frz d with
  | tup es =>
    rw [ed] at e1 r
    cases e1
    obtain ⟨_, a, xs, rfl, hs, r⟩ := r
    exact ⟨a, xs, rfl, .inr ⟨SqT.mono S2.vfH (SqT.of hs), q2 _ H1 fr' S2 back (yields_revT (SqT.of hs) r)⟩⟩
  | lst o es =>
    rw [ed] at e1 r
    cases e1
    cases o with
    | true =>
      have := fro_frz d
      rw [ed] at this
      cases this
    | false =>
      obtain ⟨_, a, xs, rfl, hs, r⟩ := r
      exact ⟨a, xs, rfl, .inl ⟨SqL.mono S2.vfH (SqL.of hs), q2 _ H1 fr' S2 back (yields_revL (SqL.of hs) r)⟩⟩
  | scr ns =>
    rw [ed] at e1 r
    cases e1
    obtain ⟨_, a, rfl, hs⟩ := r
    exact ⟨a, _, rfl, .inl ⟨SqL.mono S2.vfH hs, q2 _ H1 fr' S2 back (yields_revL (H0 := H1) hs (rep_ints ns))⟩⟩
  | _ => rw [ed] at e1; cases e1
theorem id_zip {p tpos : Pos} {elts : List Expr} {kk : Nat} (c : CF X K W k) (hg : ∀ i, Gl (X i) "zip") (hm : K.mg "zip" = none) (ha : AM X K W [a, b] g []) (hs : ∀ i, starEach [a, b] (X i).env = (false, eval a (X i).env) :: starEach [b] (X i).env := by intro _; rfl) (hpl : ∀ i, (backTo pos (starEach [b] (X i).env)).any (·.1) = false := by intro _; rfl) :
    ID X K W (.Tuple elts kk tpos) (.Call (.Name "zip" p) [a, b] [] pos) (iZipD g) := by
  obtain ⟨t, pa, s⟩ := ha.ex
  refine ⟨RZ.iZipA K.K t, (fun i => by rw [← c.kk i]; exact RZ.pi_zipA (hg i) (by rw [c.mg i]; exact hm) (pa i) (hs i) (hpl i)), fun fr ρ σ H R S q => s fr ρ σ H _ S ((QR.bind q).mono fun ds ρ1 q1 vs H1 hl _ S1 => ?_)⟩
  obtain ⟨l, el, q1⟩ := QR.lift q1
  obtain ⟨x, y, rfl, el⟩ := zip2_two el
  match vs, hl with
  | [vx, vy], _ =>
    obtain ⟨fr', S2, r, back⟩ := Sim.holdFL (ds := [x, y]) (vs := [vx, vy]) rfl S1
    obtain ⟨v1, w1, B, C, e1, e2, r1, v2, w2, B2, C2, e3, e4, r2, e5, e6⟩ := r
    cases e1
    cases e3
    have eB := (List.append_eq_nil_iff.mp e2.symm).1
    subst eB
    have eC := (List.append_eq_nil_iff.mp e2.symm).2
    subst eC
    have eB2 := (List.append_eq_nil_iff.mp e4.symm).1
    subst eB2
    rcases zipOf_cases el with ⟨xs, ys, h1, h2, rfl⟩ | ⟨o, xs, o2, ys, h1, h2, rfl⟩
    · rw [h1] at r1
      rw [h2] at r2
      obtain ⟨_, p, us, rfl, hs, rr⟩ := r1
      obtain ⟨_, p2, us2, rfl, hs2, rr2⟩ := r2
      exact ⟨p, p2, us, us2, rfl, .inr ⟨SqT.mono S2.vfH (SqT.of hs), SqT.mono S2.vfH (SqT.of hs2), q1 _ H1 fr' S2 back (yields_zipT (SqT.of hs) rr (SqT.of hs2) rr2)⟩⟩
    · rw [h1] at r1
      rw [h2] at r2
      have f1 := fro_frz x
      have f2 := fro_frz y
      rw [h1] at f1
      rw [h2] at f2
      cases o with
      | true => cases f1
      | false =>
        cases o2 with
        | true => cases f2
        | false =>
          obtain ⟨_, p, us, rfl, hs, rr⟩ := r1
          obtain ⟨_, p2, us2, rfl, hs2, rr2⟩ := r2
          exact ⟨p, p2, us, us2, rfl, .inl ⟨SqL.mono S2.vfH (SqL.of hs), SqL.mono S2.vfH (SqL.of hs2), q1 _ H1 fr' S2 back (yields_zipL (SqL.of hs) rr (SqL.of hs2) rr2)⟩⟩
theorem id_enum {p tpos : Pos} {elts : List Expr} {kk : Nat} (c : CF X K W k) (hg : ∀ i, Gl (X i) "enumerate") (hm : K.mg "enumerate" = none) (ha : AM X K W [a] g []) (hs : ∀ i, starEach [a] (X i).env = [(false, eval a (X i).env)] := by intro _; rfl) :
    ID X K W (.Tuple elts kk tpos) (.Call (.Name "enumerate" p) [a] [] pos) (iEnumD g) := by
  obtain ⟨t, pa, s⟩ := ha.ex
  refine ⟨iEnum K.K t, (fun i => by rw [← c.kk i]; exact pi_enum (hg i) (by rw [c.mg i]; exact hm) (pa i) (hs i)), fun fr ρ σ H R S q => s fr ρ σ H _ S ((QR.bind q).mono fun ds ρ1 q1 vs H1 hl _ S1 => ?_)⟩
  obtain ⟨l, el, q1⟩ := QR.lift q1
  obtain ⟨x, rfl, el⟩ := enum1_one el
  obtain ⟨v, rfl⟩ := one_of hl rfl
  have S1 : Sim K fr (some x :: ρ1) (some v :: σ) H1 := S1
  obtain ⟨fr', S2, r, back⟩ := S1.frz.holdF (fro_frz x)
  rcases enumOf_cases el with ⟨o, xs, h1, rfl⟩ | ⟨ns, h1, rfl⟩
  · rw [h1] at r
    have f1 := fro_frz x
    rw [h1] at f1
    cases o with
    | true => cases f1
    | false =>
      obtain ⟨_, p, us, rfl, hs, rr⟩ := r
      exact ⟨p, us, rfl, SqL.mono S2.vfH (SqL.of hs), q1 _ H1 fr' S2 back (yields_enum (SqL.of hs) rr)⟩
  · rw [h1] at r
    obtain ⟨_, p, rfl, hs⟩ := r
    exact ⟨p, _, rfl, SqL.mono S2.vfH hs, q1 _ H1 fr' S2 back (yields_enum (H0 := H1) hs (rep_ints ns))⟩
/-! ### tuple(reversed(x)), x a list -/
def eTupRev (f : M D) : M D := mbind f fun d => match d with
  | .lst _ ds => mret (.tup (frzL ds).reverse)
  | _ => mlift none
theorem frzL_rev (ds : List D) : frzL ds.reverse = (frzL ds).reverse := by
  induction ds with
  | nil => rfl
  | cons d ds ih => rw [List.reverse_cons, frzL_app, ih]; show _ = (frz d :: frzL ds).reverse; rw [List.reverse_cons]; rfl
/-! ### x op= e of ints -/
theorem ip_mulX {X : Cx} : PIp X .Mult (fun x y H Q => ∃ i j, x = .int i ∧ y = .int j ∧ CMulX i j ∧ Q (.int (i * j)) H) := by
  intro pins s σ H x y v u Q I r1 r2 h
  obtain ⟨i, j, e1, e2, hc, q⟩ := h
  subst e1; subst e2
  obtain ⟨t, rfl⟩ := r1
  obtain ⟨t', rfl⟩ := r2
  exact PyProof.Rows.imul_int ⟨.int _, H, I.tok _, ⟨_, rfl⟩, q⟩ hc.ok
def sAug (i : Nat) (F : D → D → Option D) (f : M D) : SF := fun ρ => match ρ[i]? with
  | some (some (.int n)) => sE f (fun y ρ1 => match F (.int n) y with
    | some d => if i < ρ1.length then .nx (ρ1.set i (some d)) else .stuck
    | none => .stuck) ρ
  | _ => .stuck
theorem sd_aug {op : Operator} {ti : TIp} {F : D → D → Option D} {i : Nat} {x : Str} {pos' : Pos} (hN : ∀ j, (X j).N.Nodup) (hi : ∀ j, (X j).N[i]? = some x) (hx : ∀ j, Loc (X j).env.scope x) (hf : ∀ j, (X j).fn x = true ∨ (X j).env.scope.names.lookup x = some .local) (ho : ∀ j, PIp (X j) op ti) (hp : i ∉ pr)
    (hs : ∀ n m d Q H, F (.int n) (.int m) = some d → (∃ w, flat d = some w ∧ Q w H) → ti (.int n) (.int m) H Q) (hI : ∀ n y d, F (.int n) y = some d → ∃ m, y = .int m) (hF : ∀ n m d, F (.int n) (.int m) = some d → (flat d).isSome = true) (h : ED X K W e f) : SD X K W pr (.AugAssign (.Name x pos') op e pos) (sAug i F f) := by
  obtain ⟨t, p, s⟩ := h.ex
  refine ⟨tAug i t ti, (fun j => ps_aug (hN j) (hi j) (hx j) (p j) (ho j) (hf j)), fun fr ρ σ H Dn S q => ?_⟩
  unfold sAug at q
  split at q
  rotate_left
  · exact q.elim
  rename_i n e0
  obtain ⟨v, hv, S0⟩ := S.dup e0 rfl
  have := S0.topF rfl
  subst this
  refine ⟨_, hv, s fr ρ σ H _ S (q.ofE.mono fun y ρ1 q1 vy H1 S1 => ?_)⟩
  cases ey : F (.int n) y with
  | none => rw [ey] at q1; exact q1.elim
  | some d =>
    rw [ey] at q1
    obtain ⟨m, rfl⟩ := hI n y d ey
    have := S1.topF rfl
    subst this
    obtain ⟨w, hw⟩ := Option.isSome_iff_exists.mp (hF n m d ey)
    refine hs n m d _ H1 ey ⟨w, hw, ?_⟩
    by_cases hil : i < ρ1.length
    · simp only [hil, if_true] at q1
      exact q1 _ H1 (KeepS.set hp) ((S1.drop.pushF hw).store hil)
    · simp only [hil, if_false] at q1
      exact q1.elim
end
end DL

set_option Elab.async false
set_option linter.all false
set_option maxRecDepth 100000
set_option maxHeartbeats 4000000
namespace DL
open PySem PySem.Spec L2
theorem RepL.rev {K : RC} {F H : Hp} : ∀ {ds : List D} {vs : List V}, RepL K F H ds vs [] → RepL K F H ds.reverse vs.reverse []
  | [], vs, r => by
    obtain ⟨rfl, _⟩ := r
    exact ⟨rfl, rfl⟩
  | d :: ds, vs, r => by
    obtain ⟨v, ws, B, C, rfl, e, r1, r2⟩ := r
    have e1 := (List.append_eq_nil_iff.mp e.symm).1
    have e2 := (List.append_eq_nil_iff.mp e.symm).2
    subst e1 e2
    rw [List.reverse_cons, List.reverse_cons]
    exact RepL.app (A := []) (B := []) (RepL.rev r2) ⟨v, [], [], [], rfl, rfl, r1, rfl, rfl⟩
section
variable {ι : Type} {X : ι → Cx} {K : RC} {W : WX} {k : Nat} {e : Expr} {f : M D} {pos : Pos} {pr : List Nat}
theorem ed_tupRev {p p2 pos2 : Pos} (c : CF X K W k) (hg : ∀ i, Gl (X i) "tuple") (hm : K.mg "tuple" = none) (hg2 : ∀ i, Gl (X i) "reversed") (hm2 : K.mg "reversed" = none) (h : ED X K W e f) (hs : ∀ i, starEach [e] (X i).env = (false, eval e (X i).env) :: starEach [] (X i).env := by intro _; rfl)
    (hs2 : ∀ i, starEach [.Call (.Name "reversed" p2) [e] [] pos2] (X i).env = (false, eval (.Call (.Name "reversed" p2) [e] [] pos2) (X i).env) :: starEach [] (X i).env := by intro _; rfl) :
    ED X K W (.Call (.Name "tuple" p) [.Call (.Name "reversed" p2) [e] [] pos2] [] pos) (eTupRev f) := by
  obtain ⟨t, pp, s⟩ := h.ex
  refine ⟨RT.tTupRev K.K t, (fun i => by rw [← c.kk i]; exact RT.pe_tupRev (c.calm i) (hg i) (by rw [c.mg i]; exact hm) (hg2 i) (by rw [c.mg i]; exact hm2) (pp i) (hs i) (hs2 i)), fun fr ρ σ H Q S q => s fr ρ σ H _ S ((QR.bind q).mono fun d ρ1 q1 v H1 S1 => ?_)⟩
  cases d with
  | lst o ds =>
    have S2 := S1.frz
    obtain ⟨A, T⟩ := S2
    obtain ⟨s', τ, B, C, e0, rfl, ⟨v', e1, r1⟩, r2⟩ := T.sl
    injection e0 with e2 e3
    subst e2 e3
    cases e1
    obtain ⟨hB, a, xs, rfl, hx, r⟩ := r1
    subst hB
    have hH : H1 a = some (.lst xs) := (hid_some.mp hx).2
    refine ⟨a, xs, rfl, SqL.of hH, fun l hl => q1 _ _ ?_⟩
    have S3 : Sim K fr ((frzL ds).reverse.map some ++ ρ1) (xs.reverse.map some ++ σ) H1 := ⟨C, Sl.app (A1 := []) (r.rev).sl r2, T.nd, T.off, T.keep, T.tr⟩
    have z := S3.newT (by simp [r.len]) hl
    have ef : frzL (frzL ds).reverse = (frzL ds).reverse := by rw [frzL_rev, RepL.frz_id _ _ r]
    rw [ef] at z
    exact z
  | _ => exact q1.elim
theorem sd_augA {i : Nat} {x : Str} {pos' : Pos} (hN : ∀ j, (X j).N.Nodup) (hi : ∀ j, (X j).N[i]? = some x) (hx : ∀ j, Loc (X j).env.scope x) (hf : ∀ j, (X j).fn x = true ∨ (X j).env.scope.names.lookup x = some .local) (hp : i ∉ pr) (h : ED X K W e f) : SD X K W pr (.AugAssign (.Name x pos') .Add e pos) (sAug i (ii (fun _ _ => true) fun i j => .int (i + j)) f) :=
  sd_aug hN hi hx hf (fun _ => ip_add) hp (fun n m d Q H e ⟨w, hw, q⟩ => by cases e; cases hw; exact ⟨n, m, rfl, rfl, q⟩) (fun n y d e => by
    cases y with
    | int m => exact ⟨m, rfl⟩
    | _ => cases e) (fun n m d e => by cases e; rfl) h
theorem sd_augS {i : Nat} {x : Str} {pos' : Pos} (hN : ∀ j, (X j).N.Nodup) (hi : ∀ j, (X j).N[i]? = some x) (hx : ∀ j, Loc (X j).env.scope x) (hf : ∀ j, (X j).fn x = true ∨ (X j).env.scope.names.lookup x = some .local) (hp : i ∉ pr) (h : ED X K W e f) : SD X K W pr (.AugAssign (.Name x pos') .Sub e pos) (sAug i subD f) :=
  sd_aug hN hi hx hf (fun _ => ip_sub) hp (fun n m d Q H e ⟨w, hw, q⟩ => by cases e; cases hw; exact ⟨n, m, rfl, rfl, q⟩) (fun n y d e => by
    cases y with
    | int m => exact ⟨m, rfl⟩
    | _ => cases e) (fun n m d e => by cases e; rfl) h
def mulI : D → D → Option D := ii (fun i j => decide (CMulX i j)) fun i j => .int (i * j)
theorem sd_augM {i : Nat} {x : Str} {pos' : Pos} (hN : ∀ j, (X j).N.Nodup) (hi : ∀ j, (X j).N[i]? = some x) (hx : ∀ j, Loc (X j).env.scope x) (hf : ∀ j, (X j).fn x = true ∨ (X j).env.scope.names.lookup x = some .local) (hp : i ∉ pr) (h : ED X K W e f) : SD X K W pr (.AugAssign (.Name x pos') .Mult e pos) (sAug i mulI f) :=
  sd_aug hN hi hx hf (fun _ => ip_mulX) hp (fun n m d Q H e ⟨w, hw, q⟩ => by
    have e : (if decide (CMulX n m) = true then some (D.int (n * m)) else none) = some d := e
    by_cases hc : CMulX n m
    · rw [if_pos (decide_eq_true hc)] at e
      cases e
      cases hw
      exact ⟨n, m, rfl, rfl, hc, q⟩
    · rw [if_neg (by simp [hc])] at e
      cases e) (fun n y d e => by
    cases y with
    | int m => exact ⟨m, rfl⟩
    | _ => cases e) (fun n m d e => by
    have e : (if decide (CMulX n m) = true then some (D.int (n * m)) else none) = some d := e
    by_cases hc : CMulX n m
    · rw [if_pos (decide_eq_true hc)] at e
      cases e
      rfl
    · rw [if_neg (by simp [hc])] at e
      cases e) h
end
end DL

set_option Elab.async false
set_option linter.all false
set_option maxRecDepth 100000
set_option maxHeartbeats 4000000
namespace DL
open PySem PySem.Spec L2
/-! ### in, not in: a list or a tuple of data -/
def seqP : PyData → Option (List PyData)
  | .list qs => some qs
  | .tuple qs => some qs
  | _ => none
def rInA (K : PySem.W.Frag) (neg : Bool) : R2 := fun x y H Q => ∃ d e ds, Dp K H x d ∧ Dp K H y e ∧ seqP e = some ds ∧ SeqAt.shaped d = true ∧ SeqAt.shaped e = true ∧ Q (.bl (if neg then !(ds.any fun z => PyData.eqv z d) else ds.any fun z => PyData.eqv z d)) H
theorem room_inS {A : Around} {xs : List PyData} {d : PyData} (hd : SeqAt.shaped d = true) (hu : A.units + 65 < cLine) : A.units + 1 + min (PyData.depthAll xs) d.depth < cLine := by
  have h1 := SeqAt.depth_of_shaped hd
  have h2 : min (PyData.depthAll xs) d.depth ≤ d.depth := Nat.min_le_right _ _
  omega
theorem op_inA {X : Cx} (hu : X.A.units + 65 < cLine) : OpR X (compareOp .In) (rInA X.K false) := by
  intro pins s σ H x y v u Q I rx ry h
  obtain ⟨d, e, ds, hd, he, hs, sd, se, q⟩ := h
  obtain ⟨as, r1⟩ := Dp.reads I d x v hd rx
  obtain ⟨bs, r2⟩ := Dp.reads I e y u he ry
  cases e with
  | list qs => cases hs; exact SeqAt.in_list_reads r2 r1 (SeqAt.canLay_of_shaped se) (SeqAt.canLay_of_shaped sd) (room_inS sd hu) ⟨.bl _, H, I, rfl, q⟩
  | tuple qs => cases hs; exact SeqAt.in_tuple_reads r2 r1 (SeqAt.canLay_of_shaped se) (SeqAt.canLay_of_shaped sd) (room_inS sd hu) ⟨.bl _, H, I, rfl, q⟩
  | _ => cases hs
theorem op_ninA {X : Cx} (hu : X.A.units + 65 < cLine) : OpR X (compareOp .NotIn) (rInA X.K true) := by
  intro pins s σ H x y v u Q I rx ry h
  obtain ⟨d, e, ds, hd, he, hs, sd, se, q⟩ := h
  obtain ⟨as, r1⟩ := Dp.reads I d x v hd rx
  obtain ⟨bs, r2⟩ := Dp.reads I e y u he ry
  cases e with
  | list qs => cases hs; exact SeqAt.notIn_list_reads r2 r1 (SeqAt.canLay_of_shaped se) (SeqAt.canLay_of_shaped sd) (room_inS sd hu) ⟨.bl _, H, I, rfl, q⟩
  | tuple qs => cases hs; exact SeqAt.notIn_tuple_reads r2 r1 (SeqAt.canLay_of_shaped se) (SeqAt.canLay_of_shaped sd) (room_inS sd hu) ⟨.bl _, H, I, rfl, q⟩
  | _ => cases hs
def inB (x y : D) : Option Bool := (toPy x).bind fun p => (toPy y).bind fun q => (seqP q).bind fun qs => if SeqAt.shaped p = true ∧ SeqAt.shaped q = true then some (qs.any fun z => PyData.eqv z p) else none
def inD (x y : D) : Option D := (inB x y).map D.bl
def ninD (x y : D) : Option D := (inB x y).map fun b => D.bl !b
theorem inB_some {x y : D} {b : Bool} (h : inB x y = some b) : ∃ p q qs, toPy x = some p ∧ toPy y = some q ∧ seqP q = some qs ∧ SeqAt.shaped p = true ∧ SeqAt.shaped q = true ∧ (qs.any fun z => PyData.eqv z p) = b := by
  unfold inB at h
  cases e1 : toPy x with
  | none => rw [e1] at h; cases h
  | some p =>
    cases e2 : toPy y with
    | none => rw [e1, e2] at h; cases h
    | some q =>
      cases e3 : seqP q with
      | none => rw [e1, e2] at h; simp [e3] at h
      | some qs =>
        rw [e1, e2] at h
        simp only [Option.bind_some, e3] at h
        by_cases hz : SeqAt.shaped p = true ∧ SeqAt.shaped q = true
        · rw [if_pos hz] at h
          exact ⟨p, q, qs, rfl, rfl, e3, hz.1, hz.2, Option.some.inj h⟩
        · rw [if_neg hz] at h
          cases h
section
variable {ι : Type} {X : ι → Cx} {K : RC} {W : WX} {k : Nat} {a b : Expr} {fa fb : M D} {pos : Pos}
theorem ops_in : OpS K (rInA K.K false) inD := by
  intro fr ρ σ H dx dy vx vy d Q S e q
  unfold inD at e
  cases e1 : inB dx dy with
  | none => rw [e1] at e; cases e
  | some b =>
    rw [e1] at e
    cases e
    obtain ⟨p, r, rs, h1, h2, h6, h3, h4, h5⟩ := inB_some e1
    obtain ⟨F1, B1, r1, k1⟩ := S.drop.top
    obtain ⟨F2, B2, r2, k2⟩ := S.top
    refine ⟨p, r, rs, rep_dp k1 _ _ _ _ r1 h1, rep_dp k2 _ _ _ _ r2 h2, h6, h3, h4, ?_⟩
    rw [h5]
    exact q _ H (S.drop.drop.pushF rfl)
theorem ops_nin : OpS K (rInA K.K true) ninD := by
  intro fr ρ σ H dx dy vx vy d Q S e q
  unfold ninD at e
  cases e1 : inB dx dy with
  | none => rw [e1] at e; cases e
  | some b =>
    rw [e1] at e
    cases e
    obtain ⟨p, r, rs, h1, h2, h6, h3, h4, h5⟩ := inB_some e1
    obtain ⟨F1, B1, r1, k1⟩ := S.drop.top
    obtain ⟨F2, B2, r2, k2⟩ := S.top
    refine ⟨p, r, rs, rep_dp k1 _ _ _ _ r1 h1, rep_dp k2 _ _ _ _ r2 h2, h6, h3, h4, ?_⟩
    rw [h5]
    exact q _ H (S.drop.drop.pushF rfl)
theorem CF.inD (c : CF X K W k) (i : ι) : OpR (X i) (compareOp .In) (rInA K.K false) := by rw [← c.kk i]; exact op_inA (by have := (c.room i).un; omega)
theorem CF.ninD (c : CF X K W k) (i : ι) : OpR (X i) (compareOp .NotIn) (rInA K.K true) := by rw [← c.kk i]; exact op_ninA (by have := (c.room i).un; omega)
theorem ed_in (c : CF X K W k) (ha : ED X K W a fa) (hb : ED X K W b fb) (hm : behindInMarks .In b = false := by rfl) : ED X K W (.Compare a [.In] [b] pos) (e2 inD fa fb) := ed_cmp (fun i => c.inD i) ops_in ha hb hm
theorem ed_nin (c : CF X K W k) (ha : ED X K W a fa) (hb : ED X K W b fb) (hm : behindInMarks .NotIn b = false := by rfl) : ED X K W (.Compare a [.NotIn] [b] pos) (e2 ninD fa fb) := ed_cmp (fun i => c.ninD i) ops_nin ha hb hm
theorem td_in (c : CF X K W k) (ha : ED X K W a fa) (hb : ED X K W b fb) (hm : behindInMarks .In b = false := by rfl) : TD X K W (.Compare a [.In] [b] pos) (eB (e2 inD fa fb)) := td_cmp (fun i => c.inD i) ops_in ha hb hm
theorem td_nin (c : CF X K W k) (ha : ED X K W a fa) (hb : ED X K W b fb) (hm : behindInMarks .NotIn b = false := by rfl) : TD X K W (.Compare a [.NotIn] [b] pos) (eB (e2 ninD fa fb)) := td_cmp (fun i => c.ninD i) ops_nin ha hb hm
end
end DL

set_option Elab.async false
set_option linter.all false
set_option maxRecDepth 100000
set_option maxHeartbeats 4000000
namespace DL
open PySem PySem.Spec L2
/-! ### slices of lists and tuples -/
def cutD (ds : List D) (lo hi : Option Int) : List D := (ds.drop (HT.sIx ds.length 0 lo)).take (HT.sIx ds.length ds.length hi - HT.sIx ds.length 0 lo)
def slD (d : D) (lo hi : Option Int) : Option D := match d with
  | .tup ds => some (.tup (cutD ds lo hi))
  | .lst _ ds => some (.lst true (cutD ds lo hi))
  | .scr ns => some (.lst true (cutD (ns.map D.int) lo hi))
  | _ => none
section
variable {K : RC} {fr : Fr} {ρ : DL.Env} {σ : L2.St} {H : Hp} {ds : List D} {vs : List V}
theorem Sim.cutS (S : Sim K fr (ds.map some ++ ρ) (vs.map some ++ σ) H) (hl : vs.length = ds.length) (a b : Nat) : Sim K fr (((ds.drop a).take b).map some ++ ρ) (((vs.drop a).take b).map some ++ σ) H := by
  have S1 : Sim K fr ((ds.take a).map some ++ ((ds.drop a).map some ++ ρ)) ((vs.take a).map some ++ ((vs.drop a).map some ++ σ)) H := by
    rw [← List.append_assoc, ← List.append_assoc, ← List.map_append, ← List.map_append, List.take_append_drop, List.take_append_drop]
    exact S
  have S2 := S1.dropN (by simp [hl])
  have S3 : Sim K fr (((ds.drop a).take b).map some ++ (((ds.drop a).drop b).map some ++ ρ)) (((vs.drop a).take b).map some ++ (((vs.drop a).drop b).map some ++ σ)) H := by
    rw [← List.append_assoc, ← List.append_assoc, ← List.map_append, ← List.map_append, List.take_append_drop, List.take_append_drop]
    exact S2
  obtain ⟨fr', S4, back⟩ := S3.holdN (by simp [hl])
  exact back _ _ _ (S4.dropN (by simp [hl]))
end
structure POD {ι : Type} (X : ι → Cx) (K : RC) (W : WX) (o : Option Expr) (f : M (Option Int)) : Prop where
  ex : ∃ t, (∀ i, PO (X i) o t) ∧ ∀ fr ρ σ H (Q : Option Int → Hp → Prop), Sim K fr ρ σ H → QR K W fr σ (f ρ) (fun p ρ' => ∀ H', Sim K fr ρ' σ H' → Q p H') → t σ H Q
def pNone : M (Option Int) := mret none
def pSome (f : M D) : M (Option Int) := mbind f fun d => mbind (mlift (isI d)) fun i => mret (some i)
def eSl (fa : M D) (fl fu : M (Option Int)) : M D := mbind fa fun x => mbind fl fun l => mbind fu fun u => mlift (slD x l u)
theorem frzL_take (ds : List D) : ∀ n, frzL (ds.take n) = (frzL ds).take n := by
  induction ds with
  | nil => intro n; simp [frzL]
  | cons d ds ih =>
    intro n
    cases n with
    | zero => simp [frzL]
    | succ n => simp [frzL, ih]
theorem frzL_drop (ds : List D) : ∀ n, frzL (ds.drop n) = (frzL ds).drop n := by
  induction ds with
  | nil => intro n; simp [frzL]
  | cons d ds ih =>
    intro n
    cases n with
    | zero => simp
    | succ n => simp [frzL, ih]
section
variable {ι : Type} {X : ι → Cx} {K : RC} {W : WX} {k : Nat} {a b : Expr} {fa fb : M D} {pos p2 : Pos} {lo hi : Option Expr} {fl fu : M (Option Int)}
theorem pod_none : POD X K W none pNone := ⟨tNoPart, (fun _ => po_none), fun fr ρ σ H Q S q => q H S⟩
theorem pod_some (h : ED X K W a fa) : POD X K W (some a) (pSome fa) := by
  obtain ⟨t, p, s⟩ := h.ex
  refine ⟨tPart t, (fun i => po_some (p i)), fun fr ρ σ H Q S q => s fr ρ σ H _ S ((QR.bind q).mono fun d ρ1 q1 v H1 S1 => ?_)⟩
  obtain ⟨n, e, q2⟩ := QR.lift (QR.bind q1)
  have := isI_eq e
  subst this
  exact ⟨n, S1.topF rfl, q2 H1 S1.drop⟩
def rSlAll (K : PySem.W.Frag) : V → Option Int → Option Int → Hp → VK → Prop := fun x lo hi H Q => rSlA K x lo hi H Q ∨ rSlL K x lo hi H Q
theorem sl_all {X : Cx} : SlR X (rSlAll X.K) := SlR.or sl_tupA sl_list
theorem cut_len {xs : List V} {ds : List D} (h : xs.length = ds.length) (l u : Option Int) : cutV xs l u = (xs.drop (HT.sIx ds.length 0 l)).take (HT.sIx ds.length ds.length u - HT.sIx ds.length 0 l) := by
  unfold cutV; rw [h]
theorem sl_sem {fr : Fr} {ρ : DL.Env} {σ : L2.St} {H : Hp} {Q : VK} {x d : D} {v : V} {l u : Option Int} (S : Sim K fr (some x :: ρ) (some v :: σ) H) (e : slD x l u = some d) (q : ∀ v H', Sim K fr (some d :: ρ) (some v :: σ) H' → Q v H') : rSlAll K.K v l u H Q := by
  cases x with
  | tup ds =>
    cases e
    have hf := S.tup_frz
    obtain ⟨a, xs, rfl, h2, h3, _, S1⟩ := S.explode (ds := ds) rfl
    refine .inl ⟨a, xs, rfl, h3, fun hw => ?_, fun _ p hp => ?_⟩
    · have hc : cutD ds l u = ds := by
        unfold cutD
        rw [← h2, hw.1, hw.2, Nat.sub_zero, List.drop_zero, h2, List.take_length]
      rw [hc] at q
      exact q _ H S
    · rw [cut_len h2]
      have z := (S1.cutS h2 (HT.sIx ds.length 0 l) (HT.sIx ds.length ds.length u - HT.sIx ds.length 0 l)).newT (by simp [h2]) hp
      rw [frzL_take, frzL_drop, hf] at z
      exact q _ _ z
  | lst o ds =>
    cases e
    obtain ⟨a, xs, rfl, h2, h3, _, S1⟩ := S.explode (ds := ds) rfl
    refine .inr ⟨a, xs, rfl, h3, fun p hp => ?_⟩
    rw [cut_len h2]
    exact q _ _ ((S1.cutS h2 (HT.sIx ds.length 0 l) (HT.sIx ds.length ds.length u - HT.sIx ds.length 0 l)).newL (by simp [h2]) hp)
  | scr ns =>
    cases e
    obtain ⟨a, xs, rfl, h2, h3, _, S1⟩ := S.explode (ds := ns.map D.int) rfl
    refine .inr ⟨a, xs, rfl, h3, fun p hp => ?_⟩
    rw [cut_len h2]
    exact q _ _ ((S1.cutS h2 (HT.sIx (ns.map D.int).length 0 l) (HT.sIx (ns.map D.int).length (ns.map D.int).length u - HT.sIx (ns.map D.int).length 0 l)).newL (by simp [h2]) hp)
  | _ => cases e
theorem ed_sl (c : CF X K W k) (ha : ED X K W a fa) (hl : POD X K W lo fl) (hu : POD X K W hi fu) : ED X K W (.Subscript a (.Slice lo hi none p2) pos) (eSl fa fl fu) := by
  obtain ⟨ta, pa, sa⟩ := ha.ex
  obtain ⟨tl, pl, sl⟩ := hl.ex
  obtain ⟨tu, pu, su⟩ := hu.ex
  refine ⟨tSl (rSlAll K.K) ta tl tu, (fun i => pe_slice (by rw [← c.kk i]; exact sl_all) (pa i) (pl i) (pu i)), fun fr ρ σ H Q S q => sa fr ρ σ H _ S ((QR.bind q).mono fun x ρ1 q1 v H1 S1 => ?_)⟩
  obtain ⟨fr', S2, back⟩ := S1.hold
  refine sl fr' ρ1 σ H1 _ S2 (((QR.bind q1).frame fun ρ H s => (back ρ σ H s).drop).mono fun l ρ2 q2 H2 S3 => ?_)
  refine su fr' ρ2 σ H2 _ S3 (((QR.bind q2).frame fun ρ H s => (back ρ σ H s).drop).mono fun u ρ3 q3 H3 S4 => ?_)
  obtain ⟨d, e, q4⟩ := QR.lift q3
  exact sl_sem (back _ _ _ S4) e q4
end
end DL

set_option Elab.async false
set_option linter.all false
set_option maxRecDepth 100000
set_option maxHeartbeats 4000000
namespace DL
open PySem PySem.Spec L2
/-! ### a module's tuple of constants: C[i], x in C -/
theorem rep_flats {K : RC} {F H : Hp} : ∀ {ds : List D} {vs : List V}, ds.map flat = vs.map some → RepL K F H ds vs []
  | [], [], _ => ⟨rfl, rfl⟩
  | [], v :: vs, e => by cases e
  | d :: ds, [], e => by cases e
  | d :: ds, v :: vs, e => by
    have e : flat d :: ds.map flat = some v :: vs.map some := e
    injection e with e1 e2
    exact ⟨v, vs, [], [], rfl, rfl, flat_rep e1, rep_flats e2⟩
theorem flats_get {ds : List D} {vs : List V} (h : ds.map flat = vs.map some) {j : Nat} {d : D} (e : ds[j]? = some d) : ∃ v, vs[j]? = some v ∧ flat d = some v := by
  have z := congrArg (fun l => l[j]?) h
  simp only [List.getElem?_map, e, Option.map_some] at z
  cases hv : vs[j]? with
  | none => rw [hv] at z; cases z
  | some v => rw [hv] at z; exact ⟨v, rfl, Option.some.inj z⟩
section
variable {ι : Type} {X : ι → Cx} {K : RC} {W : WX} {k : Nat} {pos : Pos} {e b : Expr} {f fb : M D}
theorem ed_gix {x : Str} {p0 : Pos} {a : Addr} {ds : List D} {vs : List V} (c : CF X K W k) (hm : K.mg x = some (.ref a)) (ht : ∀ F : Hp, SqT K.K F a vs) (hg : ∀ j, Gl (X j) x) (hb : ED X K W b fb) (hv : ds.map flat = vs.map some := by rfl) (hd : (x == ("__debug__" : Str)) = false := by decide) (hs : PlainIx b := by exact fun _ _ => rfl) : ED X K W (.Subscript (.Name x p0) b pos) (e2 ixD (eC (.tup ds)) fb) := by
  obtain ⟨tb, pb, sb⟩ := hb.ex
  refine ⟨tOp (rIx K.K) (tC (.ref a)) tb, (fun i => pe_ix (by rw [← c.kk i]; exact ix_seq) (pe_glob (hg i) (by rw [c.mg i]; exact hm) rfl hd) (pb i) hs), fun fr ρ σ H Q S q => ?_⟩
  show tb σ H fun y H2 => rIx K.K (.ref a) y H2 Q
  have q' : QE K W fr σ (mbind fb (fun y => mlift (ixD (.tup ds) y)) ρ) Q := q
  refine sb fr ρ σ H _ S ((QR.bind q').mono fun y ρ1 q1 v H1 S1 => ?_)
  obtain ⟨d, e, q2⟩ := QR.lift q1
  cases y with
  | int i =>
    have hy := S1.topF rfl
    subst hy
    have hl : vs.length = ds.length := by have := congrArg List.length hv; simpa using this.symm
    obtain ⟨j, hj, hx⟩ := atI_get hl (show atI ds i = some d from e)
    obtain ⟨v, h1, h2⟩ := flats_get hv hj
    exact .inr (.inl ⟨a, vs, i, v, rfl, rfl, ht _, hx v h1, q2 v H1 (S1.drop.pushF h2)⟩)
  | _ => cases e
theorem gin_core {a : Addr} {ds : List D} {vs : List V} {neg : Bool} {F : D → D → Option D} (ht : ∀ F : Hp, SqT K.K F a vs) (hv : ds.map flat = vs.map some) (hF : ∀ x d, F x (.tup ds) = some d → ∃ b, inB x (.tup ds) = some b ∧ d = .bl (if neg then !b else b)) {t : TE}
    (s : ∀ fr ρ σ H Q, Sim K fr ρ σ H → QE K W fr σ (f ρ) Q → t σ H Q) {fr : Fr} {ρ : DL.Env} {σ : L2.St} {H : Hp} {Q : VK} (S : Sim K fr ρ σ H) (q : QE K W fr σ (e2 F f (eC (.tup ds)) ρ) Q) : tOp (rInA K.K neg) t (tC (.ref a)) σ H Q := by
  have q' : QE K W fr σ (mbind f (fun x => mlift (F x (.tup ds))) ρ) Q := q
  refine s fr ρ σ H _ S ((QR.bind q').mono fun x ρ1 q1 v H1 S1 => ?_)
  obtain ⟨d, e, q2⟩ := QR.lift q1
  show rInA K.K neg v (.ref a) H1 Q
  obtain ⟨b, hb, rfl⟩ := hF x d e
  obtain ⟨p, r, rs, h1, h2, h6, h3, h4, h5⟩ := inB_some hb
  obtain ⟨F1, B1, r1, k1⟩ := S1.top
  have hr : ∃ ps, toPyL ds = some ps ∧ r = .tuple ps := by
    unfold toPy at h2
    cases z : toPyL ds with
    | none => rw [z] at h2; cases h2
    | some ps => rw [z] at h2; exact ⟨ps, rfl, (Option.some.inj h2).symm⟩
  obtain ⟨ps, hps, rfl⟩ := hr
  refine ⟨p, .tuple ps, rs, rep_dp k1 _ _ _ _ r1 h1, .tup (ht _) (rep_dpL (F := H1) (fun _ _ z => z) ds vs [] ps (rep_flats (H := H1) hv) hps), h6, h3, h4, ?_⟩
  rw [h5]
  exact q2 _ H1 (S1.drop.pushF (by cases neg <;> rfl))
theorem hF_in {ds : List D} : ∀ x d, inD x (.tup ds) = some d → ∃ b, inB x (.tup ds) = some b ∧ d = .bl (if false = true then !b else b) := fun x d e => by
  unfold inD at e
  cases z : inB x (.tup ds) with
  | none => rw [z] at e; cases e
  | some b => rw [z] at e; cases e; exact ⟨b, rfl, rfl⟩
theorem hF_nin {ds : List D} : ∀ x d, ninD x (.tup ds) = some d → ∃ b, inB x (.tup ds) = some b ∧ d = .bl (if true = true then !b else b) := fun x d e => by
  unfold ninD at e
  cases z : inB x (.tup ds) with
  | none => rw [z] at e; cases e
  | some b => rw [z] at e; cases e; exact ⟨b, rfl, rfl⟩
theorem ed_gin {x : Str} {p0 : Pos} {a : Addr} {ds : List D} {vs : List V} (c : CF X K W k) (hm : K.mg x = some (.ref a)) (ht : ∀ F : Hp, SqT K.K F a vs) (hg : ∀ j, Gl (X j) x) (h : ED X K W e f) (hv : ds.map flat = vs.map some := by rfl) (hd : (x == ("__debug__" : Str)) = false := by decide) (hk : behindInMarks .In (.Name x p0) = false := by rfl) : ED X K W (.Compare e [.In] [.Name x p0] pos) (e2 inD f (eC (.tup ds))) := by
  obtain ⟨t, p, s⟩ := h.ex
  exact ⟨tOp (rInA K.K false) t (tC (.ref a)), (fun i => pe_cmpR (c.inD i) (p i) (pe_glob (hg i) (by rw [c.mg i]; exact hm) rfl hd) hk), fun fr ρ σ H Q S q => gin_core ht hv hF_in s S q⟩
theorem ed_gnin {x : Str} {p0 : Pos} {a : Addr} {ds : List D} {vs : List V} (c : CF X K W k) (hm : K.mg x = some (.ref a)) (ht : ∀ F : Hp, SqT K.K F a vs) (hg : ∀ j, Gl (X j) x) (h : ED X K W e f) (hv : ds.map flat = vs.map some := by rfl) (hd : (x == ("__debug__" : Str)) = false := by decide) (hk : behindInMarks .NotIn (.Name x p0) = false := by rfl) : ED X K W (.Compare e [.NotIn] [.Name x p0] pos) (e2 ninD f (eC (.tup ds))) := by
  obtain ⟨t, p, s⟩ := h.ex
  exact ⟨tOp (rInA K.K true) t (tC (.ref a)), (fun i => pe_cmpR (c.ninD i) (p i) (pe_glob (hg i) (by rw [c.mg i]; exact hm) rfl hd) hk), fun fr ρ σ H Q S q => gin_core ht hv hF_nin s S q⟩
theorem td_gin {x : Str} {p0 : Pos} {a : Addr} {ds : List D} {vs : List V} (c : CF X K W k) (hm : K.mg x = some (.ref a)) (ht : ∀ F : Hp, SqT K.K F a vs) (hg : ∀ j, Gl (X j) x) (h : ED X K W e f) (hv : ds.map flat = vs.map some := by rfl) (hd : (x == ("__debug__" : Str)) = false := by decide) (hk : behindInMarks .In (.Name x p0) = false := by rfl) : TD X K W (.Compare e [.In] [.Name x p0] pos) (eB (e2 inD f (eC (.tup ds)))) := by
  obtain ⟨t, p, s⟩ := h.ex
  exact ⟨tTest (tOp (rInA K.K false) t (tC (.ref a))), (fun i => pt_cmpR (c.inD i) (p i) (pe_glob (hg i) (by rw [c.mg i]; exact hm) rfl hd) hk), fun fr ρ σ H Q S q => sim_tTest (fun fr ρ σ H Q S q => gin_core ht hv hF_in s S q) S q⟩
theorem td_gnin {x : Str} {p0 : Pos} {a : Addr} {ds : List D} {vs : List V} (c : CF X K W k) (hm : K.mg x = some (.ref a)) (ht : ∀ F : Hp, SqT K.K F a vs) (hg : ∀ j, Gl (X j) x) (h : ED X K W e f) (hv : ds.map flat = vs.map some := by rfl) (hd : (x == ("__debug__" : Str)) = false := by decide) (hk : behindInMarks .NotIn (.Name x p0) = false := by rfl) : TD X K W (.Compare e [.NotIn] [.Name x p0] pos) (eB (e2 ninD f (eC (.tup ds)))) := by
  obtain ⟨t, p, s⟩ := h.ex
  exact ⟨tTest (tOp (rInA K.K true) t (tC (.ref a))), (fun i => pt_cmpR (c.ninD i) (p i) (pe_glob (hg i) (by rw [c.mg i]; exact hm) rfl hd) hk), fun fr ρ σ H Q S q => sim_tTest (fun fr ρ σ H Q S q => gin_core ht hv hF_nin s S q) S q⟩
end
end DL

set_option Elab.async false
set_option linter.all false
set_option maxRecDepth 100000
set_option maxHeartbeats 4000000
namespace DL
open PySem PySem.Spec L2
/-! ### x.extend(list), x a list of one's own -/
theorem Sim.appendN {K : RC} {fr : Fr} {ρ : DL.Env} {σ : L2.St} {H : Hp} {ds es : List D} {p : Addr} {zs : List V} (S : Sim K fr (some (.lst true ds) :: (es.map some ++ ρ)) (some (.ref p) :: (zs.map some ++ σ)) H) (hz : zs.length = es.length) :
    ∃ xs, H p = some (.lst xs) ∧ xs.length = ds.length ∧ Sim K fr (some (.lst true (ds ++ es)) :: ρ) (some (.ref p) :: σ) (upd H p (.lst (xs ++ zs))) := by
  obtain ⟨A, S⟩ := S
  obtain ⟨s1, τ1, B1, C1, e1, rfl, ⟨v1, ev, r1⟩, r2⟩ := S.sl
  injection e1 with e1 e2
  subst e1 e2
  cases ev
  obtain ⟨B2, C2, rfl, q1, r4⟩ := Sl.cut (by simp [hz]) r2
  have r3 := q1.repL
  obtain ⟨a, xs, B, ea, rfl, hx, r1⟩ := r1
  cases ea
  refine ⟨xs, hx, r1.len, p :: (B ++ B2) ++ C2, ?_⟩
  have sub : ∀ a ∈ p :: (B ++ B2) ++ C2, a ∈ p :: B ++ (B2 ++ C2) ∨ H a = none := fun a z => .inl (by simpa [List.append_assoc] using z)
  have nd : (p :: (B ++ B2) ++ C2).Nodup := by
    have := S.nd
    simpa [List.append_assoc] using this
  have pn : p ∉ B ++ (B2 ++ C2) := by
    have := S.nd
    rw [List.cons_append] at this
    exact (List.nodup_cons.mp this).1
  have kp : ∀ a o, a ≠ p → H a = some o → upd H p (.lst (xs ++ zs)) a = some o := fun a o n e => by rw [upd_ne n]; exact e
  have kpA : ∀ a o, a ∉ p :: B ++ (B2 ++ C2) → H a = some o → upd H p (.lst (xs ++ zs)) a = some o := fun a o n e => kp a o (fun z => n (by simp [z])) e
  have f := S.fro sub (H' := upd H p (.lst (xs ++ zs))) kpA
  have ne : ∀ a, a ∈ B ++ (B2 ++ C2) → a ≠ p := fun a z e => pn (e ▸ z)
  refine S.next sub nd kpA ⟨some (.ref p), _, p :: (B ++ B2), C2, rfl, rfl, ⟨.ref p, rfl, p, xs ++ zs, B ++ B2, rfl, rfl, upd_same, ?_⟩, r4.mono f fun a z o e => kp a o (ne a (by simp [z])) e⟩
  exact RepL.app (RepL.mono f _ _ _ (fun a z o e => kp a o (ne a (by simp [z])) e) r1) (RepL.mono f _ _ _ (fun a z o e => kp a o (ne a (by simp [z])) e) r3)
def eExt (i : Nat) (f : M D) : M D := fun ρ => match ρ[i]? with
  | some (some (.lst true _)) => mbind f (fun d ρ1 => match d, ρ1[i]? with
    | .lst _ es, some (some (.lst true ds)) => if ds.length + es.length ≤ 1000000 then .ok .non (ρ1.set i (some (.lst true (ds ++ es)))) else .stuck
    | _, _ => .stuck) ρ
  | _ => .stuck
section
variable {ι : Type} {X : ι → Cx} {K : RC} {W : WX} {k : Nat} {e : Expr} {f : M D}
theorem ed_ext (i : Nat) {x : Str} {p0 apos cpos : Pos} (h : ∀ j, PE (X j) (.Name x p0) (tVar i)) (ha : ED X K W e f) (c : CF X K W k)
    (hs : ∀ i, starEach [e] (X i).env = (false, eval e (X i).env) :: starEach [] (X i).env := by intro _; rfl) (hline : (apos.endLine == cpos.line) = true := by rfl)
    (hfew : ∀ i, ((backTo cpos (starEach [e] (X i).env)).all (fun x => !x.1) && (backToKw cpos (keywordEach [] (X i).env)).all (fun x => x.1.isSome) && decide ([e].length + ([] : List Keyword).length + (if ([] : List Keyword).isEmpty then 0 else 1) < 30)) = true := by intro _; rfl) :
    ED X K W (.Call (.Attribute (.Name x p0) "extend" apos) [e] [] cpos) (eExt i f) := by
  obtain ⟨t, pa, s⟩ := ha.ex
  refine ⟨tBM K.K "list" rExtend (tVar i) (tCons t tNil), (fun j => ?_), fun fr ρ σ H Q S q => ?_⟩
  · rw [← c.kk j]
    exact pe_bm PySem.F.plainAttrs_list PySem.F.slot_list_extend PySem.F.type_list_extend mt_extend (h j) (pa_cons (pa j) pa_nil (hs j)) rfl (hfew j) hline (hs j) rfl
  · unfold eExt at q
    split at q
    · rename_i ds0 e0
      obtain ⟨p, xs, hv, hx, _⟩ := S.lst_at e0
      refine ⟨.ref p, hv, .inl ⟨rfl, xs, SqL.of hx⟩, ?_⟩
      refine s fr ρ σ H _ S ((QR.bind q).mono fun d ρ1 q1 v1 H1 S1 => ?_)
      split at q1
      · rename_i o es ds e1
        by_cases hz : ds.length + es.length ≤ 1000000
        · rw [if_pos hz] at q1
          obtain ⟨b, zs, rfl, hl, _, hb, S2⟩ := S1.explode (ds := es) rfl
          have hb := hb _ _ rfl
          obtain ⟨v, hv2, S3⟩ := S2.move (i := es.length + i) (d := .lst true ds) (by rw [List.getElem?_append_right (by simp)]; simpa using e1)
          have hv3 : σ[i]? = some (some v) := by
            rw [List.getElem?_append_right (by simp [hl]), List.length_map, hl, Nat.add_sub_cancel_left] at hv2
            exact hv2
          rw [hv] at hv3
          cases hv3
          rw [List.set_append_right _ _ (by simp), List.length_map, Nat.add_sub_cancel_left] at S3
          obtain ⟨ys, hy, hl2, S4⟩ := S3.appendN hl
          have S5 := S4.back hv
          rw [set_set_] at S5
          exact ⟨p, b, ys, zs, rfl, rfl, hy, hb, by rw [hl, hl2]; exact Nat.le_trans hz (by rw [sizeLine_eq]; decide), q1 _ _ (S5.pushF rfl)⟩
        · rw [if_neg hz] at q1
          exact q1.elim
      · exact q1.elim
    · exact q.elim
end
end DL

set_option Elab.async false
set_option linter.all false
set_option maxRecDepth 100000
set_option maxHeartbeats 4000000
namespace DL
open PySem PySem.Spec L2
/-! ### try: .. except X: .. except Y: .. (no names) -/
def noExc : RS → RS
  | .exc _ _ _ => .stuck
  | r => r
def sHandle : List ((Str → Option Bool) × SF) → Str → List (Str × D) → SF
  | [], c, fs => fun ρ => .exc c fs ρ
  | (m, G) :: r, c, fs => fun ρ => match m c with
    | some true => noExc (G ρ)
    | some false => sHandle r c fs ρ
    | none => .stuck
structure HD {ι : Type} (X : ι → Cx) (K : RC) (pr : List Nat) (hds : List ExceptHandler) (l : List ((Str → Option Bool) × SF)) : Prop where
  ex : ∃ ls, (∀ j, HdsOk (X j) hds ls) ∧ ∀ (W : WX) (c : Str) (fs : List (Str × D)) (cls : Value) (dd : Option Addr) (fr : Fr) (ρ : DL.Env) (σ0 σ : L2.St) (H : Hp) (Dn : Ends), KeepS pr σ0 σ → ExcR K.mg c fs cls dd H → Sim K fr ρ σ H → QS K W pr fr σ0 (sHandle l c fs ρ) Dn → wMany K.K W Dn ls cls dd σ H
section
variable {ι : Type} {X : ι → Cx} {K : RC} {W : WX} {k : Nat} {pr : List Nat} {hds : List ExceptHandler} {l : List ((Str → Option Bool) × SF)}
theorem hd_nil : HD X K pr [] [] := ⟨[], (fun _ => .nil), fun W c fs cls dd fr ρ σ0 σ H Dn ks hx S q => q cls dd σ H ks hx S⟩
theorem hd_cons {x : Str} {np pos' : Pos} {b₀ : Stmt} {suite : List Stmt} {m : Str → Option Bool} {G : SF} (c : CF X K W k) (hg : ∀ j, Gl (X j) x) (hm : ExmF K x m) {Y : Addr} (hY : K.mg x = some (.ref Y)) (hsu : ∀ a C d, SDs (suF X a C d) K W0 pr (b₀ :: suite) G) (hr : HD X K pr hds l) (hdb : (x == ("__debug__" : Str)) = false := by decide) :
    HD X K pr (.ExceptHandler (some (.Name x np)) none (b₀ :: suite) pos' :: hds) ((m, G) :: l) := by
  obtain ⟨ls, h1, h2⟩ := hr.ex
  let ts : Addr → Value → Option Addr → TS := fun a cls d Dn σ H => ∃ p : { C : Addr // cls = .ref C }, (hsu a p.1 d).ex.choose Dn σ H
  refine ⟨(.ref Y, ts) :: ls, (fun j => .cons ⟨hg j, hdb, .inl (by rw [c.mg j]; exact hY)⟩ (fun a oe cls d pn hz hf => ?_) (h1 j)), fun W' cn fs cls dd fr ρ σ0 σ H Dn ks hx S q => ?_⟩
  · refine pss_ex fun p => ?_
    obtain ⟨C, hc⟩ := p
    subst hc
    exact (hsu a C d).ex.choose_spec.1 ⟨(j, oe, pn), hz, hf⟩
  · unfold sHandle at q
    cases em : m cn with
    | none => simp only [em] at q; exact q.elim
    | some b =>
      obtain ⟨C, Y', h4, h5, h6⟩ := hm cn b em
      have hx0 := hx
      obtain ⟨C', h7, h8, _⟩ := hx
      rw [h4] at h7
      cases h7
      rw [hY] at h5
      cases h5
      subst h8
      refine ⟨b, h6, fun hb a ha => ?_, fun hb => ?_⟩
      · subst hb
        simp only [em] at q
        refine ⟨⟨C, rfl⟩, ?_⟩
        refine (hsu a C dd).ex.choose_spec.2 fr ρ σ H _ S ?_
        cases eg : G ρ with
        | nx ρ2 => rw [eg] at q; exact fun σ2 H2 k2 S2 => q σ2 H2 (ks.trans k2) S2
        | brk ρ2 => rw [eg] at q; exact fun σ2 H2 k2 S2 => q σ2 H2 (ks.trans k2) S2
        | cnt ρ2 => rw [eg] at q; exact fun σ2 H2 k2 S2 => q σ2 H2 (ks.trans k2) S2
        | ret d ρ2 => rw [eg] at q; exact fun v σ2 H2 k2 S2 => q v σ2 H2 (ks.trans k2) S2
        | exc _ _ _ => rw [eg] at q; exact q.elim
        | stuck => rw [eg] at q; exact q.elim
      · subst hb
        simp only [em] at q
        exact h2 W' cn fs _ dd fr ρ σ0 σ H Dn ks hx0 S q
def sTryN (F : SF) (l : List ((Str → Option Bool) × SF)) : SF := fun ρ => match F ρ with
  | .exc c fs ρ' => sHandle l c fs ρ'
  | r => r
theorem sd_try {body : List Stmt} {h₀ : ExceptHandler} {F : SF} {pos : Pos} (c : CF X K W k) (hs : ∀ j, (X j).stack = (X j).env :: (X j).outer) (hfr : ∀ j, (X j).env.frame = some (X j).env.locals) (hb : ∀ W', SDs (trF X W') K W' pr body F) (hh : HD X K pr (h₀ :: hds) l) :
    SD X K W pr (.Try body (h₀ :: hds) [] [] pos) (sTryN F l) := by
  obtain ⟨ls, h1, h2⟩ := hh.ex
  let tb : WX → TS := fun W' => (hb W').ex.choose
  refine ⟨fun D σ H => tb (wMany K.K W D ls) D σ H, (fun j => ?_), fun fr ρ σ H Dn S q => ?_⟩
  · rw [← c.kk j]
    exact ps_try_many (tb := tb) (hs j) (hfr j) (c.tk j) (fun W' pn xe tk po => (hb W').ex.choose_spec.1 ⟨(j, pn, xe), tk, po⟩) (h1 j)
  · refine (hb _).ex.choose_spec.2 fr ρ σ H _ S ?_
    unfold sTryN at q
    cases e : F ρ with
    | exc c' fs ρ' =>
      rw [e] at q
      exact fun cls dd σ' H' ks hx S' => h2 W c' fs cls dd fr ρ' σ σ' H' Dn ks hx S' q
    | nx ρ' => rw [e] at q; exact q
    | ret d ρ' => rw [e] at q; exact q
    | brk ρ' => rw [e] at q; exact q
    | cnt ρ' => rw [e] at q; exact q
    | stuck => rw [e] at q; exact q.elim
end
end DL

set_option Elab.async false
set_option linter.all false
set_option maxRecDepth 100000
set_option maxHeartbeats 4000000
namespace DL
open PySem PySem.Spec L2
/-! ## plain evaluation of loops and comprehensions -/
section
variable {ρ ρ1 ρ2 : DL.Env} {g : D → DL.Env → Option DL.Env} {b : SF} {fi : M (List D)} {tt : M Bool} {te : M D} {vs : List Nat} {ds ys : List D} {L : Nat}
/-- a loop as a fold over a state that the slots show -/
theorem forGo_fold {S : Type} (f : S → DL.Env) (step : S → D → S) (I : S → Prop) : ∀ (ds : List D) (st : S), I st → (∀ st d, I st → d ∈ ds → ∃ ρ1, g d (f st) = some ρ1 ∧ b ρ1 = .nx (f (step st d)) ∧ I (step st d)) → forGo g b ds (f st) = .nx (f (ds.foldl step st)) ∧ I (ds.foldl step st)
  | [], st, hI, _ => ⟨rfl, hI⟩
  | d :: ds, st, hI, h => by
    obtain ⟨ρ1, e1, e2, hI2⟩ := h st d hI List.mem_cons_self
    have ih := forGo_fold f step I ds (step st d) hI2 (fun st d' hI hd => h st d' hI (List.mem_cons_of_mem _ hd))
    refine ⟨?_, ih.2⟩
    unfold forGo
    simp only [e1, e2]
    exact ih.1
theorem sFor_fold {S : Type} (f : S → DL.Env) (step : S → D → S) (I : S → Prop) {st : S} (h1 : fi ρ = .ok ds (f st)) (hI : I st) (h : ∀ st d, I st → d ∈ ds → ∃ ρ1, g d (f st) = some ρ1 ∧ b ρ1 = .nx (f (step st d)) ∧ I (step st d)) : sFor fi g b ρ = .nx (f (ds.foldl step st)) ∧ I (ds.foldl step st) := by
  unfold sFor
  rw [sE_of h1]
  exact forGo_fold f step I ds st hI h
/-- a comprehension: each turn starts from the same slots -/
theorem lcGo_filter (ρ' : DL.Env) (e : D → DL.Env) (p : D → Bool) (y : D → D) : ∀ (ds : List D) (ρ : DL.Env), wipeE ρ vs = ρ' → (∀ d ∈ ds, g d ρ' = some (e d) ∧ tt (e d) = .ok (p d) (e d) ∧ (p d = true → te (e d) = .ok (y d) (e d)) ∧ wipeE (e d) vs = ρ') → lcGo g tt te vs ds ρ = .ok ((ds.filter p).map y) ρ'
  | [], ρ, hw, _ => by show Res.ok [] (wipeE ρ vs) = _; rw [hw]; rfl
  | d :: ds, ρ, hw, h => by
    obtain ⟨h1, h2, h3, h4⟩ := h d List.mem_cons_self
    have ih := lcGo_filter ρ' e p y ds (e d) h4 (fun d' hd => h d' (List.mem_cons_of_mem _ hd))
    unfold lcGo
    rw [hw, h1]
    simp only [mbind_of h2]
    cases hp : p d with
    | true =>
      rw [if_pos rfl, mbind_of (h3 hp), mbind_of ih, List.filter_cons_of_pos hp]
      rfl
    | false =>
      rw [if_neg Bool.false_ne_true, ih, List.filter_cons_of_neg (by rw [hp]; exact Bool.false_ne_true)]
theorem lcGo_map (ρ' : DL.Env) (e : D → DL.Env) (y : D → D) (ds : List D) (ρ : DL.Env) (hw : wipeE ρ vs = ρ') (h : ∀ d ∈ ds, g d ρ' = some (e d) ∧ te (e d) = .ok (y d) (e d) ∧ wipeE (e d) vs = ρ') : lcGo g mYes te vs ds ρ = .ok (ds.map y) ρ' := by
  have z := lcGo_filter (tt := mYes) ρ' e (fun _ => true) y ds ρ hw (fun d hd => ⟨(h d hd).1, rfl, fun _ => (h d hd).2.1, (h d hd).2.2⟩)
  rw [List.filter_eq_self.mpr (fun _ _ => rfl)] at z
  exact z
theorem eLcL_ok (h1 : fi ρ = .ok ds ρ1) (hl : ds.length ≤ 100000) (hL : ρ1.length = L) (h2 : lcGo g tt te vs ds ρ1 = .ok ys ρ2) : eLcL L fi g tt te vs ρ = .ok (.lst true ys) ρ2 := by
  unfold eLcL
  rw [mbind_of h1, if_pos ⟨Nat.lt_of_le_of_lt hl (by rw [sizeLine_eq]; decide), hL⟩, mbind_of h2]
  rfl
theorem iSeq_ok {f : M D} {d : D} (h1 : f ρ = .ok d ρ1) (h2 : items (frz d) = some ds) : iSeq f ρ = .ok ds ρ1 := by
  unfold iSeq seqOf; rw [mbind_of h1, h2]; rfl
theorem iRg1_ok {gg : M (List D)} {n : Int} (h1 : gg ρ = .ok [.int n] ρ1) (h2 : -1000000000 ≤ n ∧ n ≤ 1000000000) : iRg1 gg ρ = .ok (rgD 0 n) ρ1 := by
  unfold iRg1; rw [mbind_of h1]; dsimp only; rw [if_pos (by omega)]; rfl
theorem iRg2_ok {gg : M (List D)} {m n : Int} (h1 : gg ρ = .ok [.int m, .int n] ρ1) (h2 : -1000000000 ≤ m ∧ m ≤ 1000000000 ∧ -1000000000 ≤ n ∧ n ≤ 1000000000) : iRg2 gg ρ = .ok (rgD m n) ρ1 := by
  unfold iRg2; rw [mbind_of h1]; dsimp only; rw [if_pos (by omega)]; rfl
theorem frzL_ints : ∀ ns : List Int, frzL (ns.map D.int) = ns.map D.int
  | [] => rfl
  | n :: ns => by show frz (D.int n) :: frzL (ns.map D.int) = _; rw [frzL_ints ns]; rfl
theorem boolsL_map : ∀ bs : List Bool, boolsL (bs.map D.bl) = some bs
  | [] => rfl
  | b :: bs => by show (boolsL (bs.map D.bl)).map (fun z => b :: z) = _; rw [boolsL_map bs]; rfl
theorem intsL_map : ∀ bs : List Int, intsL (bs.map D.int) = some bs
  | [] => rfl
  | b :: bs => by show (intsL (bs.map D.int)).map (fun z => b :: z) = _; rw [intsL_map bs]; rfl
theorem all_ok {gg : M (List D)} {o : Bool} {bs : List Bool} (h1 : gg ρ = .ok [.lst o (bs.map D.bl)] ρ1) : eBi allD gg ρ = .ok (.bl (bs.all id)) ρ1 := eBi_ok h1 (by show (boolsL (bs.map D.bl)).map (fun bs : List Bool => D.bl (bs.all id)) = _; rw [boolsL_map]; rfl)
theorem any_ok {gg : M (List D)} {o : Bool} {bs : List Bool} (h1 : gg ρ = .ok [.lst o (bs.map D.bl)] ρ1) : eBi anyD gg ρ = .ok (.bl (bs.any id)) ρ1 := eBi_ok h1 (by show (boolsL (bs.map D.bl)).map (fun bs : List Bool => D.bl (bs.any id)) = _; rw [boolsL_map]; rfl)
theorem sum_ok {gg : M (List D)} {o : Bool} {bs : List Int} (h1 : gg ρ = .ok [.lst o (bs.map D.int)] ρ1) : eBi sumD gg ρ = .ok (.int bs.sum) ρ1 := eBi_ok h1 (by show (intsL (bs.map D.int)).map (fun bs : List Int => D.int bs.sum) = _; rw [intsL_map]; rfl)
end
end DL

set_option Elab.async false
set_option linter.all false
set_option maxRecDepth 100000
set_option maxHeartbeats 4000000
namespace DL
open PySem PySem.Spec L2
/-! ## more plain lemmas: == of whole data, comprehensions in one slot, tuples of ints -/
abbrev TI (l : List Int) : D := .tup (l.map .int)
theorem toPyL_ints : ∀ l : List Int, toPyL (l.map D.int) = some (l.map PyData.int)
  | [] => rfl
  | n :: ns => by
    show (toPy (D.int n)).bind (fun p => (toPyL (ns.map D.int)).map fun ps => p :: ps) = _
    rw [toPyL_ints ns]
    rfl
theorem toPy_TI (l : List Int) : toPy (TI l) = some (.tuple (l.map PyData.int)) := by
  show (toPyL (l.map D.int)).map PyData.tuple = _
  rw [toPyL_ints]; rfl
theorem toPyL_TIs : ∀ ls : List (List Int), toPyL (ls.map TI) = some (ls.map fun l => PyData.tuple (l.map PyData.int))
  | [] => rfl
  | l :: ls => by
    show (toPy (TI l)).bind (fun p => (toPyL (ls.map TI)).map fun ps => p :: ps) = _
    rw [toPyL_TIs ls, toPy_TI]
    rfl
theorem toPy_lstTI (o : Bool) (ls : List (List Int)) : toPy (.lst o (ls.map TI)) = some (.list (ls.map fun l => PyData.tuple (l.map PyData.int))) := by
  show (toPyL (ls.map TI)).map PyData.list = _
  rw [toPyL_TIs]; rfl
theorem lay_ints : ∀ l : List Int, PyData.canLayAll0 (l.map PyData.int) = true
  | [] => by simp only [List.map_nil, PyData.canLayAll0]
  | n :: ns => by simp only [List.map_cons, PyData.canLayAll0, PyData.canLay0, lay_ints ns, Bool.and_self]
theorem dep_ints : ∀ l : List Int, PyData.depthAll (l.map PyData.int) = 0
  | [] => by simp only [List.map_nil, PyData.depthAll]
  | n :: ns => by simp only [List.map_cons, PyData.depthAll, PyData.depth, dep_ints ns, Nat.max_self]
theorem lay_TIs : ∀ ls : List (List Int), PyData.canLayAll0 (ls.map fun l => PyData.tuple (l.map PyData.int)) = true
  | [] => by simp only [List.map_nil, PyData.canLayAll0]
  | l :: ls => by simp only [List.map_cons, PyData.canLayAll0, PyData.canLay0, lay_ints, lay_TIs ls, Bool.and_self]
theorem dep_TIs : ∀ ls : List (List Int), PyData.depthAll (ls.map fun l => PyData.tuple (l.map PyData.int)) ≤ 1
  | [] => by simp only [List.map_nil, PyData.depthAll]; omega
  | l :: ls => by
    have := dep_TIs ls
    simp only [List.map_cons, PyData.depthAll, PyData.depth, dep_ints]
    omega
theorem shaped_TI (l : List Int) : SeqAt.shaped (.tuple (l.map PyData.int)) = true := by
  unfold SeqAt.shaped
  simp only [PyData.canLay0, lay_ints, PyData.depth, dep_ints]
  rfl
theorem shaped_lstTI (ls : List (List Int)) : SeqAt.shaped (.list (ls.map fun l => PyData.tuple (l.map PyData.int))) = true := by
  unfold SeqAt.shaped
  have := dep_TIs ls
  simp only [PyData.canLay0, lay_TIs, PyData.depth, Bool.true_and]
  exact decide_eq_true (by omega)
theorem shaped_ints (l : List Int) : SeqAt.shaped (.list (l.map PyData.int)) = true := by
  unfold SeqAt.shaped
  simp only [PyData.canLay0, lay_ints, PyData.depth, dep_ints]
  rfl
theorem eqB_same {x y : D} {p : PyData} (hx : toPy x = some p) (hy : toPy y = some p) (hs : SeqAt.shaped p = true) : eqB x y = some true := by
  unfold eqB
  rw [hx, hy]
  simp only [Option.bind_some, hs, and_self, if_true]
  rw [SeqAt.eqv_refl p (SeqAt.canLay_of_shaped hs)]
theorem eqv_ints : ∀ l m : List Int, PyData.eqvAll (l.map PyData.int) (m.map PyData.int) = decide (l = m)
  | [], [] => by rw [List.map_nil, PyData.eqvAll]; rfl
  | [], b :: m => by rw [List.map_nil, List.map_cons, PyData.eqvAll]; rfl
  | a :: l, [] => by rw [List.map_nil, List.map_cons, PyData.eqvAll]; rfl
  | a :: l, b :: m => by
    rw [List.map_cons, List.map_cons, PyData.eqvAll, eqv_ints l m, PyData.eqv]
    simp
    rfl
theorem eqB_TI (l m : List Int) : eqB (TI l) (TI m) = some (decide (l = m)) := by
  unfold eqB
  rw [toPy_TI, toPy_TI]
  simp only [Option.bind_some, shaped_TI, and_self, if_true]
  rw [PyData.eqv, eqv_ints]
theorem eqB_lstTI (o o' : Bool) (ls : List (List Int)) : eqB (.lst o (ls.map TI)) (.lst o' (ls.map TI)) = some true := eqB_same (toPy_lstTI o ls) (toPy_lstTI o' ls) (shaped_lstTI ls)
theorem toPy_lstI (o : Bool) (l : List Int) : toPy (.lst o (l.map D.int)) = some (.list (l.map PyData.int)) := by
  show (toPyL (l.map D.int)).map PyData.list = _
  rw [toPyL_ints]; rfl
theorem eqB_lstI (o o' : Bool) (l m : List Int) : eqB (.lst o (l.map D.int)) (.lst o' (m.map D.int)) = some (decide (l = m)) := by
  unfold eqB
  rw [toPy_lstI, toPy_lstI]
  simp only [Option.bind_some, shaped_ints, and_self, if_true]
  rw [PyData.eqv, eqv_ints]
theorem frzL_TI : ∀ ls : List (List Int), frzL (ls.map TI) = ls.map TI
  | [] => rfl
  | n :: ns => by show frz (TI n) :: frzL (ns.map TI) = _; rw [frzL_TI ns]; rfl
section
variable {ρ ρ1 ρ2 : DL.Env} {fi g : M (List D)} {f fa fb te : M D} {tt : M Bool} {d x y : D} {ds ys : List D} {L i : Nat}
theorem eq_ok {b : Bool} (h1 : fa ρ = .ok x ρ1) (h2 : fb ρ1 = .ok y ρ2) (h : eqB x y = some b) : e2 eqD fa fb ρ = .ok (.bl b) ρ2 := e2_ok h1 h2 (by unfold eqD; rw [h]; rfl)
theorem ne_ok {b : Bool} (h1 : fa ρ = .ok x ρ1) (h2 : fb ρ1 = .ok y ρ2) (h : eqB x y = some b) : e2 neD fa fb ρ = .ok (.bl !b) ρ2 := e2_ok h1 h2 (by unfold neD; rw [h]; rfl)
theorem all_t {o : Bool} (h1 : g ρ = .ok [.lst o ys] ρ1) (h : ∀ y ∈ ys, y = .bl true) : eBi allD g ρ = .ok (.bl true) ρ1 := by
  have e : ys = (ys.map fun _ => true).map D.bl := by
    rw [List.map_map]
    exact (List.map_id ys).symm.trans (List.map_congr_left fun y hy => by rw [h y hy]; rfl)
  rw [e] at h1
  refine (all_ok h1).trans ?_
  have : (ys.map fun _ => true).all id = true := by simp
  rw [this]
theorem lc_map1 {yf : D → D} (h1 : fi ρ = .ok ds ρ1) (hl : ds.length ≤ 100000) (hL : ρ1.length = L) (hw : ρ1.set i none = ρ1) (hi : i < L) (h : ∀ d ∈ ds, te (ρ1.set i (some d)) = .ok (yf d) (ρ1.set i (some d))) : eLcL L fi (gSet i) mYes te [i] ρ = .ok (.lst true (ds.map yf)) ρ1 := by
  refine eLcL_ok h1 hl hL (lcGo_map ρ1 (fun d => ρ1.set i (some d)) yf ds ρ1 hw fun d hd => ⟨?_, h d hd, ?_⟩)
  · unfold gSet; exact if_pos (by omega)
  · show (ρ1.set i (some d)).set i none = ρ1
    rw [List.set_set, hw]
theorem lc_filter1 {yf : D → D} {p : D → Bool} (h1 : fi ρ = .ok ds ρ1) (hl : ds.length ≤ 100000) (hL : ρ1.length = L) (hw : ρ1.set i none = ρ1) (hi : i < L) (ht : ∀ d ∈ ds, tt (ρ1.set i (some d)) = .ok (p d) (ρ1.set i (some d))) (h : ∀ d ∈ ds, p d = true → te (ρ1.set i (some d)) = .ok (yf d) (ρ1.set i (some d))) : eLcL L fi (gSet i) tt te [i] ρ = .ok (.lst true ((ds.filter p).map yf)) ρ1 := by
  refine eLcL_ok h1 hl hL (lcGo_filter ρ1 (fun d => ρ1.set i (some d)) p yf ds ρ1 hw fun d hd => ⟨?_, ht d hd, h d hd, ?_⟩)
  · unfold gSet; exact if_pos (by omega)
  · show (ρ1.set i (some d)).set i none = ρ1
    rw [List.set_set, hw]
theorem len_lst (o : Bool) (ds : List D) : lenD [.lst o ds] = some (.int ds.length) := rfl
theorem len_tup (ds : List D) : lenD [.tup ds] = some (.int ds.length) := rfl
theorem len_TI (l : List Int) : lenD [TI l] = some (.int l.length) := by rw [len_tup, List.length_map]
theorem atI_nat {ds : List D} {n : Nat} (h : ds[n]? = some d) : atI ds (n : Int) = some d := by
  have hn : n < ds.length := (List.getElem?_eq_some_iff.mp h).1
  have h2 := (List.getElem?_eq_some_iff.mp h).2
  simp [atI, ixN, hn, h2]
theorem ix_l {o : Bool} {n : Nat} (h : ds[n]? = some d) : ixD (.lst o ds) (.int (n : Int)) = some d := by
  show atI ds (n : Int) = _
  exact atI_nat h
theorem ix_t {n : Nat} (h : ds[n]? = some d) : ixD (.tup ds) (.int (n : Int)) = some d := by
  show atI ds (n : Int) = _
  exact atI_nat h
theorem ix_TI {l : List Int} {n : Nat} (h : n < l.length) : ixD (TI l) (.int (n : Int)) = some (.int (l.getD n 0)) := ix_t (by
  rw [List.getElem?_map, List.getElem?_eq_getElem h, List.getD_eq_getElem?_getD, List.getElem?_eq_getElem h]; rfl)
theorem rgD_0 (n : Nat) : rgD 0 (n : Int) = (List.range n).map fun i : Nat => D.int (i : Int) := by
  unfold rgD
  rw [show ((n : Int) - 0).toNat = n by omega]
  exact List.map_congr_left fun i _ => by rw [Int.zero_add]
/-- append -/
theorem app_ok {ρ : DL.Env} (h0 : ∃ es, ρ[i]? = some (some (.lst true es))) (h1 : f ρ = .ok d ρ1) (h2 : ρ1[i]? = some (some (.lst true ds))) (hl : ds.length ≤ 100000) : eApp i f ρ = .ok .non (ρ1.set i (some (.lst true (ds ++ [d])))) := by
  obtain ⟨es, e⟩ := h0
  unfold eApp
  rw [e]
  show mbind f _ ρ = _
  rw [mbind_of h1]
  simp only [h2]
  rw [if_pos (Nat.lt_of_le_of_lt hl (by rw [sizeLine_eq]; decide))]
theorem put_ok {fj : M D} {j : Int} {n : Nat} {es : List D} (h0 : ρ[i]? = some (some (.lst true es))) (h1 : fj ρ = .ok (.int j) ρ1) (h2 : ρ1[i]? = some (some (.lst true ds))) (hl : ρ1.length = ρ.length) (hn : ixN ds.length j = some n) : gItem i fj d ρ = some (ρ1.set i (some (.lst true (ds.set n d)))) := by
  unfold gItem
  simp only [h0, h1, h2, hl, if_true, hn]
  rfl
theorem forGo_cons {gg : D → DL.Env → Option DL.Env} {b : SF} (h1 : gg d ρ = some ρ1) (h2 : b ρ1 = .nx ρ2) : forGo gg b (d :: ds) ρ = forGo gg b ds ρ2 := by
  conv => lhs; unfold forGo
  simp only [h1, h2]
theorem sFor_of {gg : D → DL.Env → Option DL.Env} {b : SF} (h1 : fi ρ = .ok ds ρ1) : sFor fi gg b ρ = forGo gg b ds ρ1 := by
  unfold sFor; exact sE_of h1
end
end DL

set_option Elab.async false
set_option linter.all false
set_option maxRecDepth 100000
set_option maxHeartbeats 4000000
namespace DL
open PySem PySem.Spec L2 PyProof.Rows
/-! ## << and len(set(t)), t a tuple of ints -/
def shlD : D → D → Option D := ii (fun i j => decide (0 ≤ j ∧ j ≤ 1000000 ∧ i.natAbs < 2 ^ 64)) fun i j => .int (i * 2 ^ j.toNat)
section
variable {ι : Type} {X : ι → Cx} {K : RC} {W : WX} {k : Nat} {a b e : Expr} {f fa fb : M D} {pos : Pos}
theorem ed_shl (c : CF X K W k) (ha : ED X K W a fa) (hb : ED X K W b fb) : ED X K W (.BinOp a .LShift b pos) (e2 shlD fa fb) :=
  ed_op (fun _ => op_shl) (ops_ii (P := CPow) (fun i j h => show CPow i j from of_decide_eq_true (p := 0 ≤ j ∧ j ≤ 1000000 ∧ i.natAbs < 2 ^ 64) h) fun _ _ => rfl) ha hb
end
/-- each int once -/
def once : List Int → List Int
  | [] => []
  | x :: r => if x ∈ r then once r else x :: once r
theorem once_mem : ∀ {l : List Int} {x : Int}, x ∈ once l ↔ x ∈ l
  | [], x => Iff.rfl
  | y :: r, x => by
    unfold once
    by_cases h : y ∈ r
    · rw [if_pos h, once_mem]
      exact ⟨fun z => List.mem_cons_of_mem _ z, fun z => by rcases List.mem_cons.mp z with rfl | z <;> assumption⟩
    · rw [if_neg h, List.mem_cons, List.mem_cons, once_mem]
theorem once_nodup : ∀ l : List Int, (once l).Nodup
  | [] => List.nodup_nil
  | y :: r => by
    unfold once
    by_cases h : y ∈ r
    · rw [if_pos h]; exact once_nodup r
    · rw [if_neg h]; exact List.nodup_cons.mpr ⟨fun z => h (once_mem.mp z), once_nodup r⟩
theorem once_len {l m : List Int} (hm : m.Nodup) (h : ∀ x, x ∈ m ↔ x ∈ l) : m.length = (once l).length :=
  ((List.perm_ext_iff_of_nodup hm (once_nodup l)).mpr fun x => (h x).trans once_mem.symm).length_eq
def tLenSetT (K : PySem.W.Frag) (ta : TE) : TE := fun σ H Q => ta σ H fun x H1 => ∃ (l : Addr) (ns : List Int), x = V.ref l ∧ SqT K H1 l (ns.map V.int) ∧ ns.length < 1000 ∧ Q (.int (once ns).length) H1
theorem pe_lenSetT {X : Cx} {a : Expr} {ta : TE} {p p2 q pos : Pos} (hc : X.calm = true) (hg : Gl X "len") (hm : X.mg "len" = none) (hg2 : Gl X "set") (hm2 : X.mg "set" = none) (ha : PE X a ta)
    (na : starEach [a] X.env = (false, eval a X.env) :: starEach [] X.env := by rfl) : PE X (.Call (.Name "len" p) [.Call (.Name "set" p2) [a] [] q] [] pos) (tLenSetT X.K ta) := by
  refine ⟨fun pins s σ H Q I h => ?_⟩
  refine Call_ (ld_blt I hg hm PySem.boot_len ?_)
  refine PyProof.Rows.callWith_builtin1 (PyProof.Rows.args_cons ?_ rfl) rfl rfl
  refine Call_ (ld_blt I hg2 hm2 PyProof.Rows.boot_set ?_)
  refine PyProof.Rows.callWith_type1 (PyProof.Rows.args_cons (thn (ha.run pins s σ H _ I h) fun v s1 ⟨x, H1, I1, r1, q1⟩ => PyProof.Rows.args_nil ?_) na) na rfl
  obtain ⟨l, ns, rfl, hq, h1, q1⟩ := q1
  cases r1
  obtain ⟨its, r, pl, hz⟩ := I1.tuple hq
  refine call_set_tupI ns (I1.ok.hd hc) pl (by simpa using r.ints) (by unfold scanBound; omega) fun h' tk c hS hcl hk => ?_
  refine PyProof.Rows.args_nil ?_
  obtain ⟨o, es, ep, t, ho, hex, hd, hg, hnd, hmem, hf, hfit, hn, _⟩ := hS
  have I2 : Inv X pins σ H1 { s1 with heap := h', toks := tk } := I1.kept fun b o e => hk b o e
  have hl : c = (once ns).length := by
    have z := once_len (l := ns) hnd fun x => by rw [← hmem x]; exact decide_eq_true_iff
    rw [List.length_map, Array.length_toList, hn] at z
    exact z
  refine call_len_set ho hex hd hfit (by unfold scanBound at hf; omega) ⟨.int (once ns).length, H1, I2.tok _, ⟨_, by rw [hn, hl]⟩, q1⟩
def lenSetD : D → Option D
  | .tup ds => (intsL ds).bind fun ns => if ns.length < 1000 then some (.int (once ns).length) else none
  | _ => none
section
variable {ι : Type} {X : ι → Cx} {K : RC} {W : WX} {k : Nat} {e : Expr} {f : M D} {pos p p2 q : Pos}
theorem ed_lenSet (c : CF X K W k) (hg : ∀ i, Gl (X i) "len") (hm : K.mg "len" = none) (hg2 : ∀ i, Gl (X i) "set") (hm2 : K.mg "set" = none) (h : ED X K W e f) (hs : ∀ i, starEach [e] (X i).env = (false, eval e (X i).env) :: starEach [] (X i).env := by intro _; rfl) :
    ED X K W (.Call (.Name "len" p) [.Call (.Name "set" p2) [e] [] q] [] pos) (e1 lenSetD f) := by
  obtain ⟨t, pp, s⟩ := h.ex
  refine ⟨tLenSetT K.K t, (fun i => by rw [← c.kk i]; exact pe_lenSetT (c.calm i) (hg i) (by rw [c.mg i]; exact hm) (hg2 i) (by rw [c.mg i]; exact hm2) (pp i) (hs i)), fun fr ρ σ H Q S q => s fr ρ σ H _ S ((QR.bind q).mono fun d ρ1 q1 v H1 S1 => ?_)⟩
  obtain ⟨d', e0, q2⟩ := QR.lift q1
  cases d with
  | tup ds =>
    have e0 : (intsL ds).bind (fun ns => if ns.length < 1000 then some (D.int (once ns).length) else none) = some d' := e0
    cases e1 : intsL ds with
    | none => rw [e1] at e0; cases e0
    | some ns =>
      rw [e1] at e0
      simp only [Option.bind_some] at e0
      by_cases hz : ns.length < 1000
      · rw [if_pos hz] at e0
        cases e0
        obtain ⟨F, B, r, kk⟩ := S1.top
        obtain ⟨_, a, xs, rfl, hx, r⟩ := r
        have ex := ints_rep e1 r
        refine ⟨a, ns, rfl, ?_, hz, q2 _ H1 (S1.drop.pushF rfl)⟩
        rw [← ex]
        exact SqT.mono kk (SqT.of hx)
      · rw [if_neg hz] at e0; cases e0
  | _ => cases e0
end
end DL

set_option Elab.async false
set_option linter.all false
set_option maxRecDepth 100000
set_option maxHeartbeats 4000000
/-! ## enumerate of a tuple -/
namespace ET
open PySem PySem.Spec PyProof.Rows L2
theorem enum_new_tuple (l : Addr) (items : Array Value) (n : Nat) (dct : Option Addr) (sl : Array (Option Value)) :
    Meets (Builtin.«enumerate.__new__» ⟨[.type "enumerate", .ref l], []⟩) (fun _ R s => s.heap.get? l = some { cls := .type "tuple", dict := dct, data := .seq items n, slots := sl } ∧
      R (.ok (.ret (.ref (s.heap.push { cls := .type "tuple_iterator", data := .fields #[.ref l, .int 0 0] }).objs.size)))
        { s with heap := (s.heap.push { cls := .type "tuple_iterator", data := .fields #[.ref l, .int 0 0] }).push { cls := .type "enumerate", data := .fields #[.none, .bool false, .ref s.heap.objs.size, rawInt 0, .none, .none] } }) :=
  .of_wp fun prog w A R s h => by
    obtain ⟨hp, g, d, tk, os⟩ := s
    obtain ⟨hl, h⟩ := h
    have hsub := sub_enumerate
    have hT : Heap.IsTuple (Shared.heap ⟨hp, g, d, tk, os⟩) l items := ⟨_, hl, rfl, n, rfl⟩
    wp_walk using AutoSeq1.wpAny_loadPart' hl
    refine wpAny_stack_any fun st => wpAny_pure ?_
    split
    · rename_i c _ _ _ _ _
      cases (c == Value.type "enumerate")
      · wp_walk using AutoSeq1.wpAny_loadPart' hl, wpAny_pyIter_tuple hT
        exact ⟨_, rfl, h⟩
      · wp_walk using AutoSeq1.wpAny_loadPart' hl, wpAny_pyIter_tuple hT
        exact ⟨_, rfl, h⟩
    · wp_walk using AutoSeq1.wpAny_loadPart' hl, wpAny_pyIter_tuple hT
      exact ⟨_, rfl, h⟩
section
variable {prog : Program} {w : World} {A : Around} {E : Value → Shared → Prop} {s : Shared}
theorem enum_call_tuple {l : Addr} {items : Array Value} {Q : Value → Shared → Prop} (hL : s.heap.IsTuple l items)
    (h : ∀ h', IsEnum h' (s.heap.objs.size + 1) s.heap.objs.size 0 .none → h'.IsTupleIter s.heap.objs.size l 0 → h'.objs.size = s.heap.objs.size + 2 →
      (∀ b o, s.heap.get? b = some o → h'.get? b = some o) → Q (.ref (s.heap.objs.size + 1)) { s with heap := h' }) :
    wpAny (model prog w) A (call (.type "enumerate") [.ref l]) Q E s := by
  obtain ⟨⟨c, dct, dt, sl⟩, hl, hc, n, hd⟩ := hL
  replace hc : c = .type "tuple" := hc
  replace hd : dt = .seq items n := hd
  subst hc hd
  refine callType_new F.called_enumerate (by decide) (F.typeCall_enumerate_1 _) (F.newCall_enumerate_1 _) (fun obj => F.args_object_init_2 obj _) F.entry_enumerate_new
    (enum_new_tuple l items n dct sl) ⟨hl, ?_⟩
  have hz : (s.heap.push { cls := .type "tuple_iterator", data := .fields #[.ref l, .int 0 0] }).objs.size = s.heap.objs.size + 1 := Heap.size_push ..
  show _ ∧ _
  rw [hz]
  have he : IsEnum ((s.heap.push { cls := .type "tuple_iterator", data := .fields #[.ref l, .int 0 0] }).push
      { cls := .type "enumerate", data := .fields #[.none, .bool false, .ref s.heap.objs.size, rawInt 0, .none, .none] }) (s.heap.objs.size + 1) s.heap.objs.size 0 .none := by
    have := Heap.get?_push_size (s.heap.push { cls := .type "tuple_iterator", data := .fields #[.ref l, .int 0 0] })
      (o := { cls := .type "enumerate", data := .fields #[.none, .bool false, .ref s.heap.objs.size, rawInt 0, .none, .none] }) rfl
    rw [hz] at this; exact this
  refine ⟨⟨_, he, rfl⟩, h _ he ⟨_, Heap.get?_push_of_some _ (Heap.get?_push_size _ rfl), rfl, rfl⟩ (by rw [Heap.size_push, hz]) fun b o x => Heap.get?_push_of_some _ (Heap.get?_push_of_some _ x)⟩
theorem draws_tuple (hh : A.handled = none) {it t : Addr} {items : Array Value} (hne : it ≠ t) : Draws prog w A it [it, t] items.size (fun i x => items[i]? = some x) (fun i h => h.IsTupleIter it t i ∧ h.IsTuple t items) where
  live := fun i h st => by obtain ⟨⟨o, ho, _⟩, _⟩ := st; exact ⟨o, ho⟩
  frame := fun i h h' st k => by
    obtain ⟨⟨o, ho, r⟩, ⟨o2, ho2, r2⟩⟩ := st
    exact ⟨⟨o, k it (by simp) o ho, r⟩, ⟨o2, k t (by simp) o2 ho2, r2⟩⟩
  item := fun i s Q E hi st hQ => by
    obtain ⟨h1, h2⟩ := st
    refine RZ.nextOf_tuple_item h1 h2 (x := items[i]) (by simp [hi]) fun h' k sb => ?_
    obtain ⟨o2, ho2, r2⟩ := h2
    exact hQ _ h' s.toks (by simp [hi]) ⟨k, o2, (sb.2 t (Ne.symm hne)).trans ho2, r2⟩ sb
  done := fun s Q E st hE => RZ.nextOf_tuple_end hh st.1 st.2 (by simp) hE
end
theorem draws_end {prog : Program} {w : World} {A : Around} (hh : A.handled = none) {it t : Addr} {items : Array Value} {i : Nat} (hi : items[i]? = none) : Draws prog w A it [it, t] i (fun _ _ => False) (fun j h => j = i ∧ h.IsTupleIter it t j ∧ h.IsTuple t items) where
  live := fun j h st => by obtain ⟨_, ⟨o, ho, _⟩, _⟩ := st; exact ⟨o, ho⟩
  frame := fun j h h' st k => by
    obtain ⟨e, ⟨o, ho, r⟩, ⟨o2, ho2, r2⟩⟩ := st
    exact ⟨e, ⟨o, k it (by simp) o ho, r⟩, ⟨o2, k t (by simp) o2 ho2, r2⟩⟩
  item := fun j s Q E hj st hQ => absurd st.1 (Nat.ne_of_lt hj)
  done := fun s Q E st hE => RZ.nextOf_tuple_end hh st.2.1 st.2.2 hi hE
/-- the tuple at a as it stands at each turn, each item in a new pair -/
def IteT (K : PySem.W.Frag) (a : Addr) : It :=
  ⟨fun i H => ∃ (xs : List V) (x : V), SqT K H a xs ∧ xs[i]? = some x, fun i H v H' => ∃ T x, v = .ref T ∧ H T = none ∧ H' = upd H T (.tup [.int (i : Nat), x]) ∧ ∀ xs, SqT K H a xs → xs[i]? = some x, fun i H => ∃ xs : List V, SqT K H a xs ∧ xs.length ≤ i⟩
theorem turn_enumT {P : Program} {w : World} {K : PySem.W.Frag} {elts : List Expr} {kk : Nat} {tpos : Pos} (a e it : Addr) (hea : e ≠ a) (hia : it ≠ a) :
    Turn P w K (.Tuple elts kk tpos) (IteT K a) [e, it] e (fun i h => (∃ old, IsEnum h e it ((i : Nat) : Int) old) ∧ h.IsTupleIter it a i ∧ e ≠ it) where
  mem := by simp
  obj := fun i h st b hb => by
    obtain ⟨⟨old, he⟩, ⟨o, ho, hc, hd⟩, _⟩ := st
    have e' : b = e ∨ b = it := by simpa using hb
    rcases e' with z | z
    · rw [z]; exact ⟨_, he, fun v q => nomatch q⟩
    · rw [z]; exact ⟨o, ho, fun v q => by rw [hd] at q; cases q⟩
  keep := fun i h h' st k => let ⟨⟨old, he⟩, hi, hne⟩ := st; ⟨⟨old, k e (by simp) _ he⟩, hi.at fun o q => k it (by simp) o q, hne⟩
  item := by
    intro X hP hw hK hc i pins s σ H E I hf st hg
    subst hP hw hK
    obtain ⟨⟨old, he⟩, hit, hne⟩ := st
    obtain ⟨xs, x, hq, hx⟩ := hg
    obtain ⟨its, rv, p, hz⟩ := I.tuple hq
    obtain ⟨u, hu, ru⟩ := rv.get hx
    have hel : e < s.heap.objs.size := Heap.lt_size he
    have hil : it < s.heap.objs.size := by obtain ⟨_, q, _⟩ := hit; exact Heap.lt_size q
    have hlt : i < its.toArray.size := by
      have := (List.getElem?_eq_some_iff.mp hu).1
      simpa using this
    refine wpAny_pyNext_enum_itemD (draws_tuple (A := X.A.in1) (prog := X.prog) (w := X.w) (items := its.toArray) (show X.A.in1.handled = none from I.ok.hd hc) hia) he ⟨hit, p⟩ hlt hne (by simp [hea, hne]) fun x' h' tk hx' ho hst hT hsz hk => ?_
    have ex : x' = u := by
      have hu2 : its.toArray[i]? = some u := by simpa using hu
      rw [hu2] at hx'
      exact (Option.some.inj hx').symm
    subst ex
    obtain ⟨hit', _⟩ := hst
    refine ⟨_, rfl, wpAny_letOwnedTupleGo_enum (s := { s with heap := h', toks := tk + 1 }) ho fun h'' he' sb => ?_⟩
    have hT2 : h''.get? s.heap.objs.size = some { cls := .type "tuple", data := .seq #[.int i tk, x'] } := (sb.2 _ (Nat.ne_of_gt hel)).trans hT
    have new : ObjOk X.prog X.w (upd H s.heap.objs.size (.tup [.int (i : Nat), x])) h'' s.heap.objs.size (.tup [.int (i : Nat), x]) :=
      ⟨by show 2 ≤ sizeLine; decide, [.int i tk, x'], .cons ⟨_, rfl⟩ (.cons ru .nil), ⟨_, hT2, rfl, _, rfl⟩⟩
    have I1 : Inv X pins σ (upd H s.heap.objs.size (.tup [.int (i : Nat), x])) { s with heap := h'', toks := tk + 1 } :=
      I.turnedNew (ch := [e, it]) (fun b ob hb q => (sb.2 b (fun z => hb (by simp [z]))).trans (hk b ob (fun z => hb (by simp [z])) (fun z => hb (by simp [z])) q)) hf (Nat.le_refl _) new
    refine ⟨.ref s.heap.objs.size, _, I1, rfl, ⟨_, x, rfl, I.hok.fresh (Nat.le_refl _), rfl, fun ys hy => by rw [I.tuple_inj hy hq]; exact hx⟩, ⟨⟨x', ?_⟩, hit'.at fun o q => (sb.2 it (Ne.symm hne)).trans q, hne⟩, fun b hb => ?_⟩
    · have e1 : ((i + 1 : Nat) : Int) = (i : Int) + 1 := by omega
      rw [e1]; exact he'
    · have hb' : b < s.heap.objs.size := by
        have e' : b = e ∨ b = it := by simpa using hb
        rcases e' with z | z
        · rw [z]; exact hel
        · rw [z]; exact hil
      rw [upd_ne (Nat.ne_of_lt hb')]
      exact (hf b hb).1
  done := by
    intro X hP hw hK hc i pins s σ H E I hf st hg
    subst hP hw hK
    obtain ⟨⟨old, he⟩, hit, hne⟩ := st
    obtain ⟨xs, hq, hx⟩ := hg
    obtain ⟨its, rv, p, hz⟩ := I.tuple hq
    obtain ⟨f0, f1, f2, f3, f4, f5⟩ := hf it (by simp)
    have hl := rv.length
    have hi : its.toArray[i]? = none := by simp; omega
    exact wpAny_pyNext_enum_endD (draws_end (A := X.A.in1) (prog := X.prog) (w := X.w) (items := its.toArray) (show X.A.in1.handled = none from I.ok.hd hc) hi) he ⟨rfl, hit, p⟩ fun h' eb => ⟨rfl, I.turned (t' := s.toks) (fun b o hb q => eb b o hb q) f0 f1 f3 f4 f5⟩
  self := fun A i s Q E st h => let ⟨⟨_, he⟩, _⟩ := st; wpAny_pyIter_enum he h
def iEnuT (K : PySem.W.Frag) (ta : TA) : TI := fun σ H R => ta σ H fun vs H1 => ∃ a xs, vs = [.ref a] ∧ ((SqL K H1 a xs ∧ R (Ite K a) H1) ∨ (SqT K H1 a xs ∧ R (IteT K a) H1))
theorem pi_enuT {X : Cx} {e : Expr} {ta : TA} {p pos tpos : Pos} {elts : List Expr} {kk : Nat} (hg : Gl X "enumerate") (hm : X.mg "enumerate" = none) (ha : PA X [e] ta) (hs : starEach [e] X.env = [(false, eval e X.env)] := by rfl) :
    PI X (.Tuple elts kk tpos) (.Call (.Name "enumerate" p) [e] [] pos) (iEnuT X.K ta) := by
  refine ⟨fun pins s σ H R I h => ?_⟩
  refine Call_ (ld_blt I hg hm boot_enumerate (PyProof.Rows.callWith_type1 (thn (ha.run pos pins s σ H _ I h) fun us s1 ⟨vs, H1, I1, r1, q1⟩ => ?_) hs rfl))
  obtain ⟨a, xs, ex, hq⟩ := q1
  subst ex
  cases r1 with
  | cons r rr =>
    cases rr
    cases r
    rcases hq with ⟨hq, q⟩ | ⟨hq, q⟩
    · obtain ⟨its, rv, p', hz⟩ := I1.list hq
      refine call_enumerate_list p'.isList fun h' he hit hsz hk => wpAny_pyIter_enum he ?_
      have I2 : Inv X pins σ H1 { s1 with heap := h' } := I1.kept (t' := s1.toks) hk
      refine ⟨s1.heap.objs.size + 1, [s1.heap.objs.size + 1, s1.heap.objs.size], _, _, H1, rfl, I2, turn_enum a (s1.heap.objs.size + 1) s1.heap.objs.size, ⟨⟨.none, he⟩, hit, Nat.succ_ne_self _⟩, fun b hb => ?_, q⟩
      have e' : b = s1.heap.objs.size + 1 ∨ b = s1.heap.objs.size := by simpa using hb
      have hle : s1.heap.objs.size ≤ b := by
        rcases e' with z | z
        · rw [z]; exact Nat.le_add_right _ _
        · rw [z]; exact Nat.le_refl _
      exact I1.fpOk hle (I1.hok.fresh hle)
    · obtain ⟨its, rv, p', hz⟩ := I1.tuple hq
      have hal : a < s1.heap.objs.size := by obtain ⟨o, ho, _⟩ := p'; exact Heap.lt_size ho
      refine enum_call_tuple p' fun h' he hit hsz hk => wpAny_pyIter_enum he ?_
      have I2 : Inv X pins σ H1 { s1 with heap := h' } := I1.kept (t' := s1.toks) hk
      refine ⟨s1.heap.objs.size + 1, [s1.heap.objs.size + 1, s1.heap.objs.size], _, _, H1, rfl, I2, turn_enumT a (s1.heap.objs.size + 1) s1.heap.objs.size (Nat.ne_of_gt (Nat.lt_succ_of_lt hal)) (Nat.ne_of_gt hal), ⟨⟨.none, he⟩, hit, Nat.succ_ne_self _⟩, fun b hb => ?_, q⟩
      have e' : b = s1.heap.objs.size + 1 ∨ b = s1.heap.objs.size := by simpa using hb
      have hle : s1.heap.objs.size ≤ b := by
        rcases e' with z | z
        · rw [z]; exact Nat.le_add_right _ _
        · rw [z]; exact Nat.le_refl _
      exact I1.fpOk hle (I1.hok.fresh hle)
end ET
namespace DL
open PySem PySem.Spec L2
section
variable {K : RC} {fr : Fr}
theorem yields_enumT {ds : List D} {xs : List V} {H0 : Hp} {a : Addr} (hs : SqT K.K (VF fr) a xs) (r : RepL K (VF fr) H0 ds xs []) : Yields K (ET.IteT K.K a) fr (enumD 0 ds) where
  go := fun i H ρ σ S hi => by
    obtain ⟨x, h1, _⟩ := enumD_get (List.getElem?_eq_getElem hi)
    obtain ⟨u, hu, _⟩ := r.get h1
    exact ⟨xs, u, SqT.mono S.vfH hs, hu⟩
  stop := fun i H ρ σ S hi => by
    rw [enumD_len, ← r.len] at hi
    exact ⟨xs, SqT.mono S.vfH hs, hi⟩
  yld := fun i H x H' ρ σ d S e hy => by
    obtain ⟨T, u, rfl, hT, rfl, h1⟩ := hy
    obtain ⟨p, hp, rfl⟩ := enumD_get e
    obtain ⟨u', hu, ru⟩ := r.get hp
    have e1 := h1 xs (SqT.mono S.vfH hs)
    rw [hu] at e1
    cases e1
    rw [Nat.zero_add]
    exact zip_yld S (show Rep K (VF fr) H0 (.int ((i : Nat) : Int)) (.int ((i : Nat) : Int)) [] from ⟨rfl, rfl⟩) ru hT
end
def enumOfA : D → Option (List D)
  | .lst _ xs => some (enumD 0 xs)
  | .scr ns => some (enumD 0 (ns.map D.int))
  | .tup xs => some (enumD 0 xs)
  | _ => none
def enumA1 : List D → Option (List D)
  | [x] => enumOfA (frz x)
  | _ => none
theorem enumA1_one {ds l : List D} (h : enumA1 ds = some l) : ∃ x, ds = [x] ∧ enumOfA (frz x) = some l := by
  unfold enumA1 at h
  split at h
  · exact ⟨_, rfl, h⟩
  · cases h
theorem enumOfA_cases {x : D} {l : List D} (h : enumOfA x = some l) : (∃ o xs, x = .lst o xs ∧ l = enumD 0 xs) ∨ (∃ ns, x = .scr ns ∧ l = enumD 0 (ns.map D.int)) ∨ (∃ xs, x = .tup xs ∧ l = enumD 0 xs) := by
  unfold enumOfA at h
  split at h
  · exact .inl ⟨_, _, rfl, (Option.some.inj h).symm⟩
  · exact .inr (.inl ⟨_, rfl, (Option.some.inj h).symm⟩)
  · exact .inr (.inr ⟨_, rfl, (Option.some.inj h).symm⟩)
  · cases h
def iEnuA (g : M (List D)) : M (List D) := mbind g fun ds => mlift (enumA1 ds)
section
variable {ι : Type} {X : ι → Cx} {K : RC} {W : WX} {k : Nat} {a : Expr} {g : M (List D)} {pos : Pos}
theorem id_enuA {p tpos : Pos} {elts : List Expr} {kk : Nat} (c : CF X K W k) (hg : ∀ i, Gl (X i) "enumerate") (hm : K.mg "enumerate" = none) (ha : AM X K W [a] g []) (hs : ∀ i, starEach [a] (X i).env = [(false, eval a (X i).env)] := by intro _; rfl) :
    ID X K W (.Tuple elts kk tpos) (.Call (.Name "enumerate" p) [a] [] pos) (iEnuA g) := by
  obtain ⟨t, pa, s⟩ := ha.ex
  refine ⟨ET.iEnuT K.K t, (fun i => by rw [← c.kk i]; exact ET.pi_enuT (hg i) (by rw [c.mg i]; exact hm) (pa i) (hs i)), fun fr ρ σ H R S q => s fr ρ σ H _ S ((QR.bind q).mono fun ds ρ1 q1 vs H1 hl _ S1 => ?_)⟩
  obtain ⟨l, el, q1⟩ := QR.lift q1
  obtain ⟨x, rfl, el⟩ := enumA1_one el
  obtain ⟨v, rfl⟩ := one_of hl rfl
  have S1 : Sim K fr (some x :: ρ1) (some v :: σ) H1 := S1
  obtain ⟨fr', S2, r, back⟩ := S1.frz.holdF (fro_frz x)
  rcases enumOfA_cases el with ⟨o, xs, h1, rfl⟩ | ⟨ns, h1, rfl⟩ | ⟨xs, h1, rfl⟩
  · rw [h1] at r
    have f1 := fro_frz x
    rw [h1] at f1
    cases o with
    | true => cases f1
    | false =>
      obtain ⟨_, p, us, rfl, hs, rr⟩ := r
      exact ⟨p, us, rfl, .inl ⟨SqL.mono S2.vfH (SqL.of hs), q1 _ H1 fr' S2 back (yields_enum (SqL.of hs) rr)⟩⟩
  · rw [h1] at r
    obtain ⟨_, p, rfl, hs⟩ := r
    exact ⟨p, _, rfl, .inl ⟨SqL.mono S2.vfH hs, q1 _ H1 fr' S2 back (yields_enum (H0 := H1) hs (rep_ints ns))⟩⟩
  · rw [h1] at r
    obtain ⟨_, p, us, rfl, hs, rr⟩ := r
    exact ⟨p, us, rfl, .inr ⟨SqT.mono S2.vfH (SqT.of hs), q1 _ H1 fr' S2 back (yields_enumT (SqT.of hs) rr)⟩⟩
end
end DL

set_option Elab.async false
set_option linter.all false
set_option maxRecDepth 100000
set_option maxHeartbeats 4000000
namespace DL
open PySem PySem.Spec L2 PyProof.Rows
/-! ## own classes: fields read and stored, X(..) -/
def look (f : Str) : List Str → List D → Option D
  | n :: ns, d :: ds => if f = n then some d else look f ns ds
  | _, _ => none
def fldD (cs : List Str) (f : Str) (d : D) : Option D := match frz d with
  | .obj _ c ns ds => if c ∈ cs then look f ns ds else none
  | _ => none
def ClF (K : RC) (c f : Str) : Prop := ∃ C, K.mg c = some (.ref C) ∧ Cls K.K C ∧ NoAttr K.K C f
theorem rep_look {K : RC} {F H : Hp} {f : Str} : ∀ {fs : List (Str × V)} {ds : List D} {d : D}, RepL K F H ds (fs.map Prod.snd) [] → look f (fs.map Prod.fst) ds = some d → ∃ v, fs.lookup f = some v ∧ Rep K F H d v []
  | [], ds, d, r, e => by cases ds <;> cases e
  | (n, w) :: fs, [], d, r, e => by cases e
  | (n, w) :: fs, x :: ds, d, r, e => by
    obtain ⟨v, ws, B, C, e1, e2, r1, r2⟩ := r
    have hBC : B = [] ∧ C = [] := by simpa using e2.symm
    obtain ⟨rfl, rfl⟩ := hBC
    have e1 : w :: fs.map Prod.snd = v :: ws := e1
    injection e1 with e3 e4
    subst e3 e4
    have e : (if f = n then some x else look f (fs.map Prod.fst) ds) = some d := e
    by_cases h : f = n
    · rw [if_pos h] at e
      cases e
      exact ⟨w, by simp [List.lookup, h], r1⟩
    · rw [if_neg h] at e
      obtain ⟨u, h1, h2⟩ := rep_look r2 e
      have hb : (f == n) = false := by simp [h]
      exact ⟨u, by simp only [List.lookup, hb]; exact h1, h2⟩
section
variable {ι : Type} {X : ι → Cx} {K : RC} {W : WX} {k : Nat} {e : Expr} {es : List Expr} {fe : M D} {g : M (List D)} {pos : Pos} {pr : List Nat}
theorem ed_fld {f : Str} (cs : List Str) (c : CF X K W k) (hC : ∀ c ∈ cs, ClF K c f) (h : ED X K W e fe) (hb : ∀ i, attributeBase e f (X i).env (eval e (X i).env) = eval e (X i).env := by intro _; rfl) : ED X K W (.Attribute e f pos) (e1 (fldD cs f) fe) := by
  obtain ⟨t, p, s⟩ := h.ex
  refine ⟨tFld K.K t f, (fun i => by rw [← c.kk i]; exact pe_fld (p i) (hb i)), fun fr ρ σ H Q S q => s fr ρ σ H _ S ((QR.bind q).mono fun d ρ1 q1 v H1 S1 => ?_)⟩
  obtain ⟨d', e0, q2⟩ := QR.lift q1
  have S2 := S1.frz
  have hf := fro_frz d
  unfold fldD at e0
  cases ed : frz d with
  | obj o cn ns ds =>
    rw [ed] at e0 S2 hf
    replace e0 : (if cn ∈ cs then look f ns ds else none) = some d' := e0
    by_cases hm : cn ∈ cs
    · rw [if_pos hm] at e0
      cases o with
      | true => cases hf
      | false =>
        obtain ⟨C0, hg, hcl, hna⟩ := hC cn hm
        obtain ⟨A, T⟩ := S2
        obtain ⟨s', τ, B, Cc, e1, rfl, ⟨v', e2, r1⟩, r2⟩ := T.sl
        injection e1 with e3 e4
        subst e3 e4
        cases e2
        obtain ⟨hB, a, C, dx, fs, rfl, hg2, hx, hns, r⟩ := r1
        subst hB hns
        rw [hg] at hg2
        cases hg2
        obtain ⟨w, hw, rw⟩ := rep_look r e0
        refine ⟨a, C0, dx, fs, w, rfl, (hid_some.mp hx).2, hcl, hna, hw, q2 w H1 ?_⟩
        exact ⟨Cc, ⟨some w, σ, [], Cc, rfl, rfl, ⟨w, rfl, rw⟩, r2⟩, T.nd, T.off, T.keep, T.tr⟩
    · rw [if_neg hm] at e0
      cases e0
  | _ => rw [ed] at e0; cases e0
end
/-! ### self.f = e -/
theorem putF_new {f : Str} {v : V} : ∀ {fs : List (Str × V)}, f ∉ fs.map Prod.fst → putF f v fs = fs ++ [(f, v)]
  | [], _ => rfl
  | (n, x) :: fs, h => by
    have h1 : ¬ n = f := fun z => h (by rw [z]; exact List.mem_cons_self)
    show (if n = f then _ else (n, x) :: putF f v fs) = _
    rw [if_neg h1, putF_new fun z => h (List.mem_cons_of_mem _ z)]
    rfl
theorem Sim.addFld {K : RC} {fr : Fr} {ρ : DL.Env} {σ : L2.St} {H : Hp} {c : Str} {ns : List Str} {ds : List D} {d : D} {p : Addr} {v : V} (f : Str) (S : Sim K fr (some (.obj true c ns ds) :: some d :: ρ) (some (.ref p) :: some v :: σ) H) :
    ∃ C dx fs, K.mg c = some (.ref C) ∧ H p = some (.ins C dx fs) ∧ fs.map Prod.fst = ns ∧ Sim K fr (some (.obj true c (ns ++ [f]) (ds ++ [d])) :: ρ) (some (.ref p) :: σ) (upd H p (.ins C dx (fs ++ [(f, v)]))) := by
  obtain ⟨A, S⟩ := S
  obtain ⟨s1, τ1, B1, C1, e1, rfl, ⟨v1, ev, r1⟩, r2⟩ := S.sl
  injection e1 with e1 e2
  subst e1 e2
  cases ev
  obtain ⟨s2, τ2, B2, C2, e3, rfl, ⟨v2, ev, r3⟩, r4⟩ := r2
  injection e3 with e3 e4
  subst e3 e4
  cases ev
  obtain ⟨a, C, dx, fs, B, ea, rfl, hm, hx, hns, r1⟩ := r1
  cases ea
  refine ⟨C, dx, fs, hm, hx, hns, p :: (B ++ B2) ++ C2, ?_⟩
  have sub : ∀ a ∈ p :: (B ++ B2) ++ C2, a ∈ p :: B ++ (B2 ++ C2) ∨ H a = none := fun a z => .inl (by simpa [List.append_assoc] using z)
  have nd : (p :: (B ++ B2) ++ C2).Nodup := by
    have := S.nd
    simpa [List.append_assoc] using this
  have pn : p ∉ B ++ (B2 ++ C2) := by
    have := S.nd
    rw [List.cons_append] at this
    exact (List.nodup_cons.mp this).1
  have kp : ∀ a o, a ≠ p → H a = some o → upd H p (.ins C dx (fs ++ [(f, v)])) a = some o := fun a o n e => by rw [upd_ne n]; exact e
  have kpA : ∀ a o, a ∉ p :: B ++ (B2 ++ C2) → H a = some o → upd H p (.ins C dx (fs ++ [(f, v)])) a = some o := fun a o n e => kp a o (fun z => n (by simp [z])) e
  have fh := S.fro sub (H' := upd H p (.ins C dx (fs ++ [(f, v)]))) kpA
  have ne : ∀ a, a ∈ B ++ (B2 ++ C2) → a ≠ p := fun a z e => pn (e ▸ z)
  refine S.next sub nd kpA ⟨some (.ref p), _, p :: (B ++ B2), C2, rfl, rfl, ⟨.ref p, rfl, p, C, dx, fs ++ [(f, v)], B ++ B2, rfl, rfl, hm, upd_same, by rw [List.map_append, hns]; rfl, ?_⟩, r4.mono fh fun a z o e => kp a o (ne a (by simp [z])) e⟩
  rw [List.map_append]
  refine RepL.app (RepL.mono fh _ _ _ (fun a z o e => kp a o (ne a (by simp [z])) e) r1) ?_
  exact ⟨v, [], B2, [], rfl, by simp, Rep.mono fh _ _ _ (fun a z o e => kp a o (ne a (by simp [z])) e) r3, rfl, rfl⟩
def sFldS (cs : List Str) (i : Nat) (f : Str) (fe : M D) : SF := sE fe fun d ρ1 => match ρ1[i]? with
  | some (some (.obj true c ns ds)) => if c ∈ cs ∧ ns.length < 1000 ∧ f ∉ ns then .nx (ρ1.set i (some (.obj true c (ns ++ [f]) (ds ++ [d])))) else .stuck
  | _ => .stuck
section
variable {ι : Type} {X : ι → Cx} {K : RC} {W : WX} {k : Nat} {e : Expr} {es : List Expr} {fe : M D} {g : M (List D)} {pos : Pos} {pr : List Nat}
theorem sd_fld {f : Str} (cs : List Str) (c : CF X K W k) (hC : ∀ c ∈ cs, ClF K c f) (i : Nat) {x : Str} {p0 apos : Pos} (hx : ∀ j, PE (X j) (.Name x p0) (tVar i)) (h : ED X K W e fe)
    (hs : ∀ j, swapsWith e (some (.Attribute (.Name x p0) f apos)) pos.line (X j).env = pure false := by intro _; rfl) : SD X K W pr (.Assign [.Attribute (.Name x p0) f apos] e pos) (sFldS cs i f fe) := by
  obtain ⟨t, p, s⟩ := h.ex
  refine ⟨sFld K.K (tVar i) t f, (fun j => by rw [← c.kk j]; exact ps_fld (hx j) (p j) (hs j)), fun fr ρ σ H Dn S q => ?_⟩
  refine s fr ρ σ H _ S ((QS.ofE q).mono fun d ρ1 q1 v1 H1 S1 => ?_)
  cases e1 : ρ1[i]? with
  | none => rw [e1] at q1; exact q1.elim
  | some o => cases o with
    | none => rw [e1] at q1; exact q1.elim
    | some z => cases z with
      | obj o cn ns ds => cases o with
        | false => rw [e1] at q1; exact q1.elim
        | true =>
          rw [e1] at q1
          dsimp only at q1
          by_cases hz : cn ∈ cs ∧ ns.length < 1000 ∧ f ∉ ns
          · rw [if_pos hz] at q1
            obtain ⟨v, hv, S2⟩ := S1.move (i := i + 1) (show (some d :: ρ1)[i + 1]? = _ from by simpa using e1)
            have hv3 : σ[i]? = some (some v) := by simpa using hv
            have S2 : Sim K fr (some (.obj true cn ns ds) :: some d :: ρ1.set i none) (some v :: some v1 :: σ) H1 := S2
            obtain ⟨F0, B0, r0, _⟩ := S2.top
            obtain ⟨p0', C', dx', fs', B', rfl, _, _, _, _, _⟩ := r0
            obtain ⟨C, dx, fs, hm, hxp, hns, S3⟩ := S2.addFld f
            obtain ⟨C0, hg, hcl, hna⟩ := hC cn hz.1
            have hCC : C0 = C := by
              rw [hg] at hm
              cases hm
              rfl
            rw [hCC] at hcl hna
            have S4 := S3.back hv3
            rw [set_set_] at S4
            have hl : fs.length = ns.length := by rw [← hns, List.length_map]
            refine ⟨.ref p0', hv3, p0', C, dx, fs, rfl, hxp, hcl, hna, by omega, ?_⟩
            rw [putF_new (by rw [hns]; exact hz.2.2)]
            exact q1 σ _ .refl S4
          · rw [if_neg hz] at q1; exact q1.elim
      | _ => rw [e1] at q1; exact q1.elim
end
/-! ### X(..) -/
theorem Sim.newIns {K : RC} {fr : Fr} {ρ : DL.Env} {σ : L2.St} {H : Hp} {c : Str} {C x dx : Addr} (S : Sim K fr ρ σ H) (hm : K.mg c = some (.ref C)) (hx : H x = none) (hd : H dx = none) (ne : dx ≠ x) :
    Sim K fr (some (.obj true c [] []) :: ρ) (some (.ref x) :: σ) (upd (upd H dx (.own x)) x (.ins C dx [])) := by
  have kp1 : ∀ a o, H a = some o → upd (upd H dx (.own x)) x (.ins C dx []) a = some o := fun a o e => by
    rw [upd_ne (ne_of_none e hx), upd_ne (ne_of_none e hd)]; exact e
  obtain ⟨A, S⟩ := S
  have tr := S.sl.tr
  have sub : ∀ a ∈ x :: A, a ∈ A ∨ H a = none := fun a z => by
    rcases List.mem_cons.mp z with z | z
    · subst z; exact .inr hx
    · exact .inl z
  have f := S.fro sub (H' := upd (upd H dx (.own x)) x (.ins C dx [])) fun a o _ e => kp1 a o e
  exact ⟨x :: A, S.next sub (nodup_cons_fresh S.nd hx tr) (fun a o _ e => kp1 a o e) ⟨some (.ref x), σ, [x], A, rfl, rfl, ⟨.ref x, rfl, x, C, dx, [], [], rfl, rfl, hm, upd_same, rfl, rfl, rfl⟩, S.sl.mono f fun a _ o e => kp1 a o e⟩⟩
def tMakeSD (C : Addr) (sp : Sp) (dvs : List V) (E : L2.St → XK) (t : TA) : TE := fun σ H Q => t σ H fun vs H1 => ∀ x dx, H1 x = none → H1 dx = none → dx ≠ x →
  sp (.ref x :: (vs ++ dvs)) (upd (upd H1 dx (.own x)) x (.ins C dx [])) (fun v H2 => v = .non ∧ Q (.ref x) H2) (E σ)
section
variable {X : Cx} {CX : CXT} {k : Nat} {f C : Addr} {fd : FuncData} {ps : List Str} {sp : Sp} {dvs : List V} {ds : List Value} {E : L2.St → XK} {x : Str} {p pos : Pos} {e : Expr} {es : List Expr} {t : TA}
theorem run_makeSD {pins : List (Addr × Obj)} {σ : L2.St} {H : Hp} {s : Shared} {Q : VK} {us : List Value} {vs : List V} (M : Mk X.K C f) (F : FnOk X.prog X.w X.K X.mg X.base CX k f fd ps sp) (hr : Room (k + 1) X.A) (hb : Binds X.K fd ps ds) (hd : Vals dvs ds)
    (hx : PassesAt CX X σ (E σ)) (I : Inv X pins σ H s) (r : Vals vs us)
    (h : ∀ x dx, H x = none → H dx = none → dx ≠ x → sp (.ref x :: (vs ++ dvs)) (upd (upd H dx (.own x)) x (.ins C dx [])) (fun v H2 => v = .non ∧ Q (.ref x) H2) (E σ)) :
    wpAny (model X.prog X.w) X.A (call (.ref C) us) (EP X pins σ Q) X.xe s := by
  have hq := h (s.heap.objs.size + 1) s.heap.objs.size (I.hok.fresh (Nat.le_succ _)) (I.hok.fresh (Nat.le_refl _)) (Nat.ne_of_lt (Nat.lt_succ_self _))
  have I2 := Inv.made (C := C) I
  have r2 : Vals (V.ref (s.heap.objs.size + 1) :: (vs ++ dvs)) (Value.ref (s.heap.objs.size + 1) :: (us ++ ds)) := .cons rfl (r.append hd)
  have hl : (Value.ref (s.heap.objs.size + 1) :: us ++ ds).length = ps.length := by
    have e := r2.length
    rw [F.len _ _ _ _ hq] at e
    exact e.symm
  refine wpAny_call (make_map (f := f) I.kIn M.makes M.init (beq_iff_eq.mp M.fn) (codeAny_mono (F.run _ X.stack _ _ ⟨Value.ref (s.heap.objs.size + 1) :: us, []⟩ (Value.ref (s.heap.objs.size + 1) :: (us ++ ds)) _ _ (E σ) (hr.make C us [])
    (I2.env0.make C us []) (hb _ (Value.ref (s.heap.objs.size + 1) :: us) I2.kIn hl) r2 hq) fun r s' hq' => ?_))
  cases r with
  | error e => exact hx pins _ _ e s' I2 hq'
  | ok fl =>
    cases fl with
    | ret u =>
      obtain ⟨v, H', I3, rv, ev, q3⟩ := I2.after hq'
      subst ev
      exact ⟨rv, ⟨V.ref (s.heap.objs.size + 1), H', I3, rfl, q3⟩⟩
    | next => exact False.elim hq'
    | brk => exact False.elim hq'
    | cont => exact False.elim hq'
theorem pe_makeSD (M : Mk X.K C f) (F : FnOk X.prog X.w X.K X.mg X.base CX k f fd ps sp) (hr : Room (k + 1) X.A) (hg : Gl X x) (hm : X.mg x = some (.ref C)) (hb : Binds X.K fd ps ds) (hd : Vals dvs ds) (hx : ∀ σ, PassesAt CX X σ (E σ))
    (ha : PA X (e :: es) t) (hdb : (x == ("__debug__" : Str)) = false := by decide) (he : starEach (e :: es) X.env = (false, eval e X.env) :: starEach es X.env := by rfl) (hpl : (backTo pos (starEach es X.env)).any (·.1) = false := by rfl) :
    PE X (.Call (.Name x p) (e :: es) [] pos) (tMakeSD C sp dvs E t) := by
  refine ⟨fun pins s σ H Q I h => ?_⟩
  refine wpAny_Call_Name_kw (ld_glob I hg hm ?_ hdb)
  refine PySem.W.callWith_K (h₀ := X.base) I.ok.mod.kin M.kp (thn (ha.run pos pins s σ H _ I h) fun us s1 ⟨vs, H1, I1, r, q⟩ => ⟨I1.kIn, ?_⟩) he hpl
  exact run_makeSD M F hr hb hd (hx σ) I1 r q
end
/-- a class of the text, made -/
def MkD (P : Program) (w : World) (K : PySem.W.Frag) (mg : Str → Option Value) (base : Heap) (k : Nat) (x : Str) (n : Nat) (F : List D → Res D) : Prop :=
  ∃ C f fd ps, mg x = some (.ref C) ∧ Mk K C f ∧ Binds K fd ps [] ∧ ps.length = n ∧ FnOk P w K mg base (L2.CX P w) k f fd ps (spD ⟨K, mg⟩ n F)
abbrev MkX (X : Cx) := MkD X.prog X.w X.K X.mg X.base
def eMake (c : Str) (F : List D → Res D) (fa : M (List D)) : M D := mbind fa fun ds ρ => match F (.obj true c [] [] :: ds) with
  | .ok .non (some d :: _) => .ok d ρ
  | .exc cn fs _ => .exc cn fs ρ
  | _ => .stuck
section
variable {ι : Type} {X : ι → Cx} {K : RC} {W : WX} {k j n m : Nat} {e : Expr} {es : List Expr} {g : M (List D)} {pos p : Pos} {x : Str} {F : List D → Res D}
theorem ed_make (c : CF X K W k) (h : ∀ i, MkX (X i) j x n F) (hj : j + 1 ≤ k) (hg : ∀ i, Gl (X i) x) (hgn : ∀ i, (X i).mg x = K.mg x) (ha : AM X K W (e :: es) g []) (hl : ALen g m) (hn : m + 1 = n := by rfl) (hdb : (x == ("__debug__" : Str)) = false := by decide)
    (he : ∀ i, starEach (e :: es) (X i).env = (false, eval e (X i).env) :: starEach es (X i).env := by intro _; rfl) (hpl : ∀ i, (backTo pos (starEach es (X i).env)).any (·.1) = false := by intro _; rfl) : ED X K W (.Call (.Name x p) (e :: es) [] pos) (eMake x F g) := by
  obtain ⟨t, pa, s⟩ := ha.ex
  refine ⟨fun σ H Q => ∀ C, K.mg x = some (.ref C) → tMakeSD C (spD K n F) [] (WE W) t σ H Q, (fun i => ?_), fun fr ρ σ H Q S q C hC => ?_⟩
  · obtain ⟨C, f, fd, ps, hm, M, hb, hlp, hF⟩ := h i
    have z := pe_makeSD (p := p) (E := WE W) (t := t) M hF ((c.room i).mono hj) (hg i) hm hb .nil (fun σ => passAt (c.tk i) σ) (pa i) hdb (he i) (hpl i)
    refine ⟨fun pins s σ H Q I hh => z.run pins s σ H Q I ?_⟩
    have hh2 := hh C (by rw [← hgn i]; exact hm)
    rw [← c.K i] at hh2
    exact hh2
  · have hq : QR K W fr σ (g ρ) fun ds ρ1 => g ρ = .ok ds ρ1 ∧ QE K W fr σ (match F (.obj true x [] [] :: ds) with
      | .ok .non (some d :: _) => .ok d ρ1
      | .exc cn fs _ => .exc cn fs ρ1
      | _ => .stuck) Q := by
      have := QR.bind q
      cases e : g ρ with
      | ok ds ρ1 => rw [e] at this; exact ⟨rfl, this⟩
      | exc c fs ρ1 => rw [e] at this; exact this
      | stuck => rw [e] at this; exact this
    refine s fr ρ σ H _ S (hq.mono fun ds ρ1 ⟨e, q1⟩ vs H1 hlv _ S1 x0 dx hx hdx hne => ?_)
    have hN := hl ρ ds ρ1 e
    have S2 := S1.newIns hC hx hdx hne
    have S2 : Sim K fr ((D.obj true x [] [] :: ds).map some ++ ρ1) ((V.ref x0 :: vs).map some ++ σ) (upd (upd H1 dx (.own x0)) x0 (.ins C dx [])) := S2
    have hlv2 : ((V.ref x0 :: vs).map some).length = ((D.obj true x [] [] :: ds).map some).length := by simp [hlv]
    obtain ⟨fr', S3, back⟩ := Sim.frame hlv2 S2
    rw [List.append_nil]
    refine ⟨fr', .obj true x [] [] :: ds, by rw [List.length_cons, hlv, hN]; exact hn, by rw [List.length_cons, hN]; exact hn, S3, ?_⟩
    cases eF : F (.obj true x [] [] :: ds) with
    | ok d os =>
      rw [eF] at q1
      cases d with
      | non =>
        cases os with
        | nil => exact q1.elim
        | cons o os => cases o with
          | none => exact q1.elim
          | some d =>
            intro v H' S4
            refine ⟨S4.topF rfl, ?_⟩
            have S5 := (back _ _ _ S4).drop
            have S5 : Sim K fr (some d :: (os ++ ρ1)) (some (.ref x0) :: (vs.map some ++ σ)) H' := S5
            have hlo : (vs.map some).length = os.length := by
              have := S4.len
              simp only [List.length_cons, List.length_map] at this
              simp only [List.length_map]
              omega
            obtain ⟨fr2, S6, back2⟩ := Sim.hold S5
            exact q1 _ H' (back2 _ _ _ (S6.dropN hlo))
      | _ => exact q1.elim
    | exc cn fs os =>
      rw [eF] at q1
      intro cls dd H' xx S4
      have hlo : ((V.ref x0 :: vs).map some).length = os.length := by
        have := S4.len
        omega
      exact q1 cls dd H' xx ((back _ _ _ S4).dropN hlo)
    | stuck => rw [eF] at q1; exact q1.elim
end
end DL

set_option Elab.async false
set_option linter.all false
set_option maxRecDepth 100000
set_option maxHeartbeats 4000000
namespace DL
open PySem PySem.Spec L2 PyProof.Rows
/-! ## a def that calls itself: nothing is promised where the depth is used up -/
theorem fnok_stuck {P : Program} {w : World} {K : PySem.W.Frag} {mg : Str → Option Value} {base : Heap} {k n : Nat} {f : Addr} {fd : FuncData} {ps : List Str} : FnOk P w K mg base (L2.CX P w) k f fd ps (spD ⟨K, mg⟩ n fun _ => .stuck) :=
  ⟨fun vs H Q E h => by obtain ⟨_, _, _, _, _, h⟩ := h; exact h.elim, fun A outer s H args us vs Q E _ _ _ _ h => by obtain ⟨_, _, _, _, _, h⟩ := h; exact h.elim⟩
/-! ## len(set(x)), x a list of ints -/
def tLenSetL (K : PySem.W.Frag) (ta : TE) : TE := fun σ H Q => ta σ H fun x H1 => ∃ (l : Addr) (ns : List Int), x = V.ref l ∧ (SqT K H1 l (ns.map V.int) ∨ SqL K H1 l (ns.map V.int)) ∧ ns.length < 1000 ∧ Q (.int (once ns).length) H1
theorem met_mem {v : Nat → Int} : ∀ {i : Nat} {x : Int}, x ∈ firstMet v i ↔ ∃ j, j < i ∧ v j = x
  | 0, x => ⟨fun h => (by cases h), fun ⟨j, h, _⟩ => absurd h (Nat.not_lt_zero j)⟩
  | i + 1, x => by
    rw [firstMet_succ]
    unfold step_dedup
    have hs : (firstMet v i).any (· == v i) = true ↔ v i ∈ firstMet v i := by
      rw [List.any_eq_true]
      exact ⟨fun ⟨y, h1, h2⟩ => by rw [← beq_iff_eq.mp h2]; exact h1, fun h => ⟨_, h, by simp⟩⟩
    have key : x ∈ firstMet v i ∨ x = v i ↔ ∃ j, j < i + 1 ∧ v j = x := by
      rw [met_mem]
      refine ⟨fun h => ?_, fun ⟨j, h1, h2⟩ => ?_⟩
      · rcases h with ⟨j, h1, h2⟩ | h
        · exact ⟨j, Nat.lt_succ_of_lt h1, h2⟩
        · exact ⟨i, Nat.lt_succ_self i, h.symm⟩
      · by_cases e : j = i
        · subst e; exact .inr h2.symm
        · exact .inl ⟨j, by omega, h2⟩
    by_cases h : (firstMet v i).any (· == v i) = true
    · rw [if_pos h, ← key]
      exact ⟨.inl, fun q => q.elim id fun e => by rw [e]; exact hs.mp h⟩
    · rw [if_neg h, ← key, List.mem_append, List.mem_singleton]
theorem met_nodup {v : Nat → Int} : ∀ i : Nat, (firstMet v i).Nodup
  | 0 => List.nodup_nil
  | i + 1 => by
    rw [firstMet_succ]
    unfold step_dedup
    by_cases h : (firstMet v i).any (· == v i) = true
    · rw [if_pos h]; exact met_nodup i
    · rw [if_neg h]
      refine List.nodup_append.mpr ⟨met_nodup i, by simp, fun a ha b hb e => h ?_⟩
      rw [List.mem_singleton.mp hb] at e
      exact List.any_eq_true.mpr ⟨a, ha, by simp [e]⟩
theorem met_once (ns : List Int) : (firstMet (fun i => ns.getD i 0) ns.length).length = (once ns).length := once_len (met_nodup _) fun x => by
  rw [met_mem]
  refine ⟨fun ⟨j, h, e⟩ => ?_, fun h => ?_⟩
  · rw [← e, List.getD_eq_getElem?_getD, List.getElem?_eq_getElem h]
    exact List.getElem_mem h
  · obtain ⟨j, h, e⟩ := List.getElem_of_mem h
    exact ⟨j, h, by rw [List.getD_eq_getElem?_getD, List.getElem?_eq_getElem h]; exact e⟩
theorem pe_lenSetL {X : Cx} {a : Expr} {ta : TE} {p p2 q pos : Pos} (hc : X.calm = true) (hg : Gl X "len") (hm : X.mg "len" = none) (hg2 : Gl X "set") (hm2 : X.mg "set" = none) (ha : PE X a ta)
    (na : starEach [a] X.env = (false, eval a X.env) :: starEach [] X.env := by rfl) : PE X (.Call (.Name "len" p) [.Call (.Name "set" p2) [a] [] q] [] pos) (tLenSetL X.K ta) := by
  refine ⟨fun pins s σ H Q I h => ?_⟩
  refine Call_ (ld_blt I hg hm PySem.boot_len ?_)
  refine PyProof.Rows.callWith_builtin1 (PyProof.Rows.args_cons ?_ rfl) rfl rfl
  refine Call_ (ld_blt I hg2 hm2 PyProof.Rows.boot_set ?_)
  refine PyProof.Rows.callWith_type1 (PyProof.Rows.args_cons (thn (ha.run pins s σ H _ I h) fun v s1 ⟨x, H1, I1, r1, q1⟩ => PyProof.Rows.args_nil ?_) na) na rfl
  obtain ⟨l, ns, rfl, hq, h1, q1⟩ := q1
  cases r1
  rcases hq with hq | hq
  · obtain ⟨its, r, pl, hz⟩ := I1.tuple hq
    refine call_set_tupI ns (I1.ok.hd hc) pl (by simpa using r.ints) (by unfold scanBound; omega) fun h' tk c hS hcl hk => ?_
    refine PyProof.Rows.args_nil ?_
    obtain ⟨o, es, ep, t, ho, hex, hd, hg, hnd, hmem, hf, hfit, hn, _⟩ := hS
    have I2 : Inv X pins σ H1 { s1 with heap := h', toks := tk } := I1.kept fun b o e => hk b o e
    have hl : c = (once ns).length := by
      have z := once_len (l := ns) hnd fun x => by rw [← hmem x]; exact decide_eq_true_iff
      rw [List.length_map, Array.length_toList, hn] at z
      exact z
    exact call_len_set ho hex hd hfit (by unfold scanBound at hf; omega) ⟨.int (once ns).length, H1, I2.tok _, ⟨_, by rw [hn, hl]⟩, q1⟩
  · obtain ⟨its, r, pl, hz⟩ := I1.list hq
    have hl : its.toArray.size = ns.length := by rw [List.size_toArray, ← r.length, List.length_map]
    refine call_set_list (I1.ok.hd hc) pl.isList (ns := ns) (by simpa using r.ints) (by unfold scanBound; omega) fun h' tk hS hk => ?_
    refine PyProof.Rows.args_nil ?_
    rw [hl, met_once] at hS
    obtain ⟨o, es, ep, t, ho, hex, hd, _, _, _, hf, hn⟩ := hS
    have I2 : Inv X pins σ H1 { s1 with heap := h', toks := tk } := I1.kept fun b o e => hk b o (Heap.lt_size e) e
    have hsm : (once ns).length ≤ ns.length := by
      rw [← met_once]
      exact firstMet_length_le _ _
    exact call_len_set ho hex hd hf (by rw [hn]; omega) ⟨.int (once ns).length, H1, I2.tok _, ⟨_, by rw [hn]⟩, q1⟩
def lenSetA (d : D) : Option D := (items d).bind fun ds => (intsL ds).bind fun ns => if ns.length < 1000 then some (.int (once ns).length) else none
section
variable {ι : Type} {X : ι → Cx} {K : RC} {W : WX} {k : Nat} {e : Expr} {f : M D} {pos p p2 q : Pos}
theorem ed_lenSetA (c : CF X K W k) (hg : ∀ i, Gl (X i) "len") (hm : K.mg "len" = none) (hg2 : ∀ i, Gl (X i) "set") (hm2 : K.mg "set" = none) (h : ED X K W e f) (hs : ∀ i, starEach [e] (X i).env = (false, eval e (X i).env) :: starEach [] (X i).env := by intro _; rfl) :
    ED X K W (.Call (.Name "len" p) [.Call (.Name "set" p2) [e] [] q] [] pos) (e1 lenSetA f) := by
  obtain ⟨t, pp, s⟩ := h.ex
  refine ⟨tLenSetL K.K t, (fun i => by rw [← c.kk i]; exact pe_lenSetL (c.calm i) (hg i) (by rw [c.mg i]; exact hm) (hg2 i) (by rw [c.mg i]; exact hm2) (pp i) (hs i)), fun fr ρ σ H Q S q => s fr ρ σ H _ S ((QR.bind q).mono fun d ρ1 q1 v H1 S1 => ?_)⟩
  obtain ⟨d', e0, q2⟩ := QR.lift q1
  have fin : ∀ ds, items d = some ds → ∃ ns, intsL ds = some ns ∧ ns.length < 1000 ∧ d' = .int (once ns).length := by
    intro ds hds
    unfold lenSetA at e0
    rw [hds] at e0
    simp only [Option.bind_some] at e0
    cases e1 : intsL ds with
    | none => rw [e1] at e0; cases e0
    | some ns =>
      rw [e1] at e0
      simp only [Option.bind_some] at e0
      by_cases hz : ns.length < 1000
      · rw [if_pos hz] at e0; cases e0; exact ⟨ns, rfl, hz, rfl⟩
      · rw [if_neg hz] at e0; cases e0
  obtain ⟨F, B, r, kk⟩ := S1.top
  cases d with
  | tup ds =>
    obtain ⟨ns, e1, hz, rfl⟩ := fin ds rfl
    obtain ⟨_, a, xs, rfl, hx, r⟩ := r
    have ex := ints_rep e1 r
    exact ⟨a, ns, rfl, .inl (by rw [← ex]; exact SqT.mono kk (SqT.of hx)), hz, q2 _ H1 (S1.drop.pushF rfl)⟩
  | lst o ds =>
    obtain ⟨ns, e1, hz, rfl⟩ := fin ds rfl
    cases o with
    | false =>
      obtain ⟨_, a, xs, rfl, hx, r⟩ := r
      have ex := ints_rep e1 r
      exact ⟨a, ns, rfl, .inr (by rw [← ex]; exact SqL.of (kk _ _ hx)), hz, q2 _ H1 (S1.drop.pushF rfl)⟩
    | true =>
      obtain ⟨a, xs, B', rfl, _, hx, r⟩ := r
      have ex := ints_rep e1 r
      exact ⟨a, ns, rfl, .inr (by rw [← ex]; exact SqL.of hx), hz, q2 _ H1 (S1.drop.pushF rfl)⟩
  | scr ms =>
    obtain ⟨ns, e1, hz, rfl⟩ := fin _ rfl
    have : ns = ms := by rw [intsL_map] at e1; exact (Option.some.inj e1).symm
    subst this
    obtain ⟨_, a, rfl, hx⟩ := r
    exact ⟨a, ns, rfl, .inr (SqL.mono kk hx), hz, q2 _ H1 (S1.drop.pushF rfl)⟩
  | _ => cases e0
end
end DL

set_option Elab.async false
set_option linter.all false
set_option maxRecDepth 100000
set_option maxHeartbeats 4000000
namespace DLM
open PySem PySem.Spec PyProof.Rows L2
/-! ### zip of a list and a tuple -/
abbrev mh1 (h : Heap) (a : Addr) : Heap := h.push { cls := .type "list_iterator", data := .fields #[.ref a, .int 0 0] }
abbrev mh2 (h : Heap) (a b : Addr) : Heap := (mh1 h a).push { cls := .type "tuple_iterator", data := .fields #[.ref b, .int 0 0] }
abbrev mh3 (h : Heap) (a b : Addr) : Heap := (mh2 h a b).push { cls := .type "tuple", data := .seq #[.ref h.objs.size, .ref (mh1 h a).objs.size] }
abbrev mh4 (h : Heap) (a b : Addr) : Heap := (mh3 h a b).push { cls := .type "tuple", data := .seq #[.none, .none] }
abbrev mh5 (h : Heap) (a b : Addr) : Heap := (mh4 h a b).push { cls := .type "zip", data := .fields #[.none, .bool false, .bool false, .ref (mh2 h a b).objs.size, .ref (mh3 h a b).objs.size] }
theorem meets_zipM (a b : Addr) (us vs : Array Value) :
    Meets (Builtin.«zip.__new__» ⟨[.type "zip", .ref a, .ref b], []⟩) (fun _ R s => s.heap.IsList a us ∧ s.heap.IsTuple b vs ∧
      R (.ok (.ret (.ref (mh4 s.heap a b).objs.size))) { s with heap := mh5 s.heap a b }) :=
  .of_wp fun prog w A R s hyp => by
    obtain ⟨hh, gg, dd, tt, oo⟩ := s; obtain ⟨ka, kb, hyp⟩ := hyp
    have hsub := sub_zip
    have qa : Heap.IsList (Shared.heap ⟨hh, gg, dd, tt, oo⟩) a us := ka
    have qb : Heap.IsTuple (Shared.heap ⟨mh1 hh a, gg, dd, tt, oo⟩) b vs := Heap.IsTuple.push kb _
    wp_walk using wpAny_pyIter_list qa, wpAny_pyIter_tuple qb
    exact ⟨_, rfl, hyp⟩
section
variable {prog : Program} {w : World} {A : Around} {E : Value → Shared → Prop} {s : Shared}
theorem call_zipM {a b : Addr} {us vs : Array Value} {Q : Value → Shared → Prop} (ka : s.heap.IsList a us) (kb : s.heap.IsTuple b vs)
    (k : ∀ h', IsZip h' (s.heap.objs.size + 4) (s.heap.objs.size + 2) (s.heap.objs.size + 3) .none → IsPair h' (s.heap.objs.size + 2) (.ref s.heap.objs.size) (.ref (s.heap.objs.size + 1)) →
      IsPair h' (s.heap.objs.size + 3) .none .none → h'.IsListIter s.heap.objs.size a 0 → h'.IsTupleIter (s.heap.objs.size + 1) b 0 →
      (∀ c o, s.heap.get? c = some o → h'.get? c = some o) → Q (.ref (s.heap.objs.size + 4)) { s with heap := h' }) :
    wpAny (model prog w) A (call (.type "zip") [.ref a, .ref b]) Q E s := by
  refine callType_new F.called_zip (by decide) (F.typeCall_zip_2 _ _) (F.newCall_zip_2 _ _) (fun ob => F.args_object_init_3 ob _ _) F.entry_zip_new (meets_zipM a b us vs) ⟨ka, kb, ?_⟩
  have s1 : (mh1 s.heap a).objs.size = s.heap.objs.size + 1 := Heap.size_push ..
  have s2 : (mh2 s.heap a b).objs.size = s.heap.objs.size + 2 := by rw [Heap.size_push, s1]
  have s3 : (mh3 s.heap a b).objs.size = s.heap.objs.size + 3 := by rw [Heap.size_push, s2]
  have s4 : (mh4 s.heap a b).objs.size = s.heap.objs.size + 4 := by rw [Heap.size_push, s3]
  have g5 : (mh5 s.heap a b).get? (mh4 s.heap a b).objs.size = some _ := Heap.get?_push_size _ rfl
  have g4 : (mh5 s.heap a b).get? (mh3 s.heap a b).objs.size = some _ := Heap.get?_push_of_some _ (Heap.get?_push_size _ rfl)
  have g3 : (mh5 s.heap a b).get? (mh2 s.heap a b).objs.size = some _ := Heap.get?_push_of_some _ (Heap.get?_push_of_some _ (Heap.get?_push_size _ rfl))
  have g2 : (mh5 s.heap a b).get? (mh1 s.heap a).objs.size = some _ := Heap.get?_push_of_some _ (Heap.get?_push_of_some _ (Heap.get?_push_of_some _ (Heap.get?_push_size _ rfl)))
  have g1 : (mh5 s.heap a b).get? s.heap.objs.size = some _ := Heap.get?_push_of_some _ (Heap.get?_push_of_some _ (Heap.get?_push_of_some _ (Heap.get?_push_of_some _ (Heap.get?_push_size _ rfl))))
  show _ ∧ _
  rw [s2, s3, s4] at g5
  rw [s1, s2] at g3
  rw [s3] at g4
  rw [s1] at g2
  rw [s4]
  refine ⟨⟨_, g5, rfl⟩, k _ g5 g3 g4 ⟨_, g1, rfl, rfl⟩ ⟨_, g2, rfl, rfl⟩ fun c o x => ?_⟩
  have x1 : (mh1 s.heap a).get? c = some o := Heap.get?_push_of_some _ x
  have x2 : (mh2 s.heap a b).get? c = some o := Heap.get?_push_of_some _ x1
  have x3 : (mh3 s.heap a b).get? c = some o := Heap.get?_push_of_some _ x2
  have x4 : (mh4 s.heap a b).get? c = some o := Heap.get?_push_of_some _ x3
  exact Heap.get?_push_of_some _ x4
end
def ItzM (K : PySem.W.Frag) (a b : Addr) : It :=
  ⟨fun i H => ∃ (xs ys : List V) (x y : V), SqL K H a xs ∧ SqT K H b ys ∧ xs[i]? = some x ∧ ys[i]? = some y,
    fun i H v H' => ∃ T x y, v = .ref T ∧ H T = none ∧ H' = upd H T (.tup [x, y]) ∧ (∀ xs, SqL K H a xs → xs[i]? = some x) ∧ ∀ ys, SqT K H b ys → ys[i]? = some y,
    fun i H => ∃ xs ys : List V, SqL K H a xs ∧ SqT K H b ys ∧ (xs.length ≤ i ∨ ys.length ≤ i)⟩
theorem sep_of {z TI TO i1 i2 a b : Addr} (D : ZipApart z TI TO i1 i2 a b) (hb : b ≠ i1) : ZipSep2 z TI TO i1 i2 [i1, a] [i2, b] where
  TIz := D.TIz
  TOz := D.TOz
  TITO := D.TITO
  TIi1 := D.TIi1
  mem1 := by simp
  zf1 := by simp [D.i1z.symm, D.l1z.symm]
  Tf1 := by simp [D.TOi1, D.l1TO.symm]
  TIi2 := D.TIi2
  mem2 := by simp
  zf2 := by simp [D.i2z.symm, D.l2z.symm]
  Tf2 := by simp [D.TOi2, D.l2TO.symm]
  sep1_2 := by simp [D.i12, hb.symm]
  sep2_1 := by simp [D.i12.symm, D.l1i2.symm]
theorem endL {prog : Program} {w : World} {A : Around} (hh : A.handled = none) {it l : Addr} {items : Array Value} {i : Nat} (hx : items[i]? = none) :
    Draws prog w A it [it, l] i (fun _ _ => True) (fun j h => i ≤ j ∧ h.IsListIter it l j ∧ h.IsList l items) where
  live := fun _ _ st => let ⟨o, ho, _⟩ := st.2.1; ⟨o, ho⟩
  frame := fun _ _ _ st hk => ⟨st.1, st.2.1.at fun o e => hk it (by simp) o e, st.2.2.at fun o e => hk l (by simp) o e⟩
  item := fun j s Q E hi st hQ => absurd hi (Nat.not_lt.mpr st.1)
  done := fun s Q E st hE => wpAny_nextOf_list_end hh st.2.1 st.2.2 hx hE
theorem endT {prog : Program} {w : World} {A : Around} (hh : A.handled = none) {it l : Addr} {items : Array Value} {i : Nat} (hx : items[i]? = none) :
    Draws prog w A it [it, l] i (fun _ _ => True) (fun j h => i ≤ j ∧ h.IsTupleIter it l j ∧ h.IsTuple l items) where
  live := fun _ _ st => let ⟨o, ho, _⟩ := st.2.1; ⟨o, ho⟩
  frame := fun _ _ _ st hk => ⟨st.1, st.2.1.at fun o e => hk it (by simp) o e, st.2.2.at fun o e => hk l (by simp) o e⟩
  item := fun j s Q E hi st hQ => absurd hi (Nat.not_lt.mpr st.1)
  done := fun s Q E st hE => wpAny_nextOf_tuple_end hh st.2.1 st.2.2 hx hE
theorem nextM_end {prog : Program} {w : World} {A : Around} {E : Value → Shared → Prop} {s : Shared} {z TI TO i1 i2 a b : Addr} {i : Nat} {us vs : Array Value} {p q : Value} {Q : Option Value → Shared → Prop} (hh : A.handled = none) (D : ZipApart z TI TO i1 i2 a b)
    (kz : IsZip s.heap z TI TO .none) (kI : IsPair s.heap TI (.ref i1) (.ref i2)) (kO : IsPair s.heap TO p q) (k1 : s.heap.IsListIter i1 a i) (k2 : s.heap.IsTupleIter i2 b i) (ka : s.heap.IsList a us) (kb : s.heap.IsTuple b vs) (he : us[i]? = none ∨ vs[i]? = none)
    (k : ∀ h' tk, (∀ c o, c ≠ z → c ≠ TO → c ≠ i1 → c ≠ i2 → s.heap.get? c = some o → h'.get? c = some o) → Q none { s with heap := h', toks := tk }) : wpAny (model prog w) A (pyNext (.ref z)) Q E s := by
  have hh : A.in1.handled = none := hh
  cases h1 : us[i]? with
  | none =>
    cases h2 : vs[i]? with
    | none =>
      have D1 := endL (prog := prog) (w := w) (it := i1) (l := a) hh h1
      have D2 := endT (prog := prog) (w := w) (it := i2) (l := b) hh h2
      exact wpAny_pyNext_zipD2_end (sep_of D D.l2i1) D1 D2 kz kI kO ⟨Nat.le_refl _, k1, ka⟩ ⟨Nat.le_refl _, k2, kb⟩ (Nat.le_refl _) (Nat.le_refl _) (.inl rfl) k
    | some y =>
      have l2 : i < vs.size := (Array.getElem?_eq_some_iff.mp h2).1
      have D1 := endL (prog := prog) (w := w) (it := i1) (l := a) hh h1
      have D2 := Draws.tuple (prog := prog) (w := w) hh i2 b D.l2i2 vs
      exact wpAny_pyNext_zipD2_end (sep_of D D.l2i1) D1 D2 kz kI kO ⟨Nat.le_refl _, k1, ka⟩ ⟨k2, kb⟩ (Nat.le_refl _) (by omega) (.inl rfl) k
  | some x =>
    have l1 : i < us.size := (Array.getElem?_eq_some_iff.mp h1).1
    have h2 : vs[i]? = none := by
      rcases he with e | e
      · rw [e] at h1; cases h1
      · exact e
    have D1 := Draws.list (prog := prog) (w := w) hh i1 a D.l1i1 us
    have D2 := endT (prog := prog) (w := w) (it := i2) (l := b) hh h2
    exact wpAny_pyNext_zipD2_end (sep_of D D.l2i1) D1 D2 kz kI kO ⟨k1, ka⟩ ⟨Nat.le_refl _, k2, kb⟩ (by omega) (Nat.le_refl _) (.inr rfl) k
theorem turn_zipM {P : Program} {w : World} {K : PySem.W.Frag} {elts : List Expr} {kk : Nat} {tpos : Pos} {a b z TI TO i1 i2 : Addr} (D : ZipApart z TI TO i1 i2 a b) :
    Turn P w K (.Tuple elts kk tpos) (ItzM K a b) [z, TI, TO, i1, i2] z (fun i h => IsZip h z TI TO .none ∧ IsPair h TI (.ref i1) (.ref i2) ∧ (∃ x y, IsPair h TO x y) ∧ h.IsListIter i1 a i ∧ h.IsTupleIter i2 b i) where
  mem := by simp
  obj := fun i h st c hc => by
    obtain ⟨kz, kI, ⟨p, q, kO⟩, ⟨o1, y1, _, d1⟩, ⟨o2, y2, _, d2⟩⟩ := st
    have w : c = z ∨ c = TI ∨ c = TO ∨ c = i1 ∨ c = i2 := by simpa using hc
    rcases w with r | r | r | r | r <;> rw [r]
    · exact ⟨_, kz, fun v t => nomatch t⟩
    · exact ⟨_, kI, fun v t => nomatch t⟩
    · exact ⟨_, kO, fun v t => nomatch t⟩
    · exact ⟨o1, y1, fun v t => by rw [d1] at t; cases t⟩
    · exact ⟨o2, y2, fun v t => by rw [d2] at t; cases t⟩
  keep := fun i h h' st k => by
    obtain ⟨kz, kI, ⟨p, q, kO⟩, k1, k2⟩ := st
    exact ⟨k z (by simp) _ kz, k TI (by simp) _ kI, ⟨p, q, k TO (by simp) _ kO⟩, k1.at fun o t => k i1 (by simp) o t, k2.at fun o t => k i2 (by simp) o t⟩
  item := by
    intro X hP hw hK hc i pins s σ H E I hf st hg
    subst hP hw hK
    obtain ⟨kz, kI, ⟨p0, q0, kO⟩, k1, k2⟩ := st
    obtain ⟨xs, ys, x, y, hqx, hqy, hx, hy⟩ := hg
    obtain ⟨its, rv, p, _⟩ := I.list hqx
    obtain ⟨its2, rv2, p2, _⟩ := I.tuple hqy
    obtain ⟨u, hu, ru⟩ := rv.get hx
    obtain ⟨u2, hu2, ru2⟩ := rv2.get hy
    have hzl : z < s.heap.objs.size := Heap.lt_size kz
    have l1 : i < its.toArray.size := by simpa using (List.getElem?_eq_some_iff.mp hu).1
    have l2 : i < its2.toArray.size := by simpa using (List.getElem?_eq_some_iff.mp hu2).1
    have hh : X.A.in1.handled = none := I.ok.hd hc
    have D1 := Draws.list (prog := X.prog) (w := X.w) hh i1 a D.l1i1 its.toArray
    have D2 := Draws.tuple (prog := X.prog) (w := X.w) hh i2 b D.l2i2 its2.toArray
    refine wpAny_pyNext_zipD2_item (sep_of D D.l2i1) D1 D2 kz kI kO ⟨k1, p.isList⟩ ⟨k2, p2⟩ l1 l2 fun v1 v2 h' tk r1 r2 z' TO' t1 t2 hT hsz hk => ?_
    have er1 : u = v1 := by simpa [hu] using r1
    have er2 : u2 = v2 := by simpa [hu2] using r2
    subst er1
    subst er2
    refine ⟨_, rfl, wpAny_letOwnedTupleGo_zip (s := { s with heap := h', toks := tk }) z' fun h2 z2 sb => ?_⟩
    have hT2 : h2.get? s.heap.objs.size = some { cls := .type "tuple", data := .seq #[u, u2] } := (sb.2 _ (Nat.ne_of_gt hzl)).trans hT
    have nw : ObjOk X.prog X.w (upd H s.heap.objs.size (.tup [x, y])) h2 s.heap.objs.size (.tup [x, y]) :=
      ⟨by show 2 ≤ sizeLine; decide, [u, u2], .cons ru (.cons ru2 .nil), ⟨_, hT2, rfl, _, rfl⟩⟩
    have kp : ∀ c o, c ∉ [z, TI, TO, i1, i2] → s.heap.get? c = some o → h2.get? c = some o := fun c o hb t =>
      (sb.2 c (fun w => hb (by simp [w]))).trans (hk c o (fun w => hb (by simp [w])) (fun w => hb (by simp [w])) (fun w => hb (by simp [w])) (fun w => hb (by simp [w])) t)
    have I1 : Inv X pins σ (upd H s.heap.objs.size (.tup [x, y])) { s with heap := h2, toks := tk } := I.turnedNew (t' := tk) (ch := [z, TI, TO, i1, i2]) kp hf (Nat.le_refl _) nw
    refine ⟨.ref s.heap.objs.size, _, I1, rfl, ⟨_, x, y, rfl, I.hok.fresh (Nat.le_refl _), rfl, fun l hl => by rw [I.list_inj hl hqx]; exact hx, fun l hl => by rw [I.tuple_inj hl hqy]; exact hy⟩, ⟨z2, ?_, ⟨u, u2, ?_⟩, ?_, ?_⟩, fun c hcm => ?_⟩
    · exact (sb.2 _ D.TIz).trans (hk _ _ D.TIz D.TITO D.TIi1 D.TIi2 kI)
    · exact (sb.2 _ D.TOz).trans TO'
    · exact t1.1.at fun o q => (sb.2 _ D.i1z).trans q
    · exact t2.1.at fun o q => (sb.2 _ D.i2z).trans q
    · have hlt : c < s.heap.objs.size := by
        have w : c = z ∨ c = TI ∨ c = TO ∨ c = i1 ∨ c = i2 := by simpa using hcm
        rcases w with r | r | r | r | r <;> rw [r]
        · exact hzl
        · exact Heap.lt_size kI
        · exact Heap.lt_size kO
        · obtain ⟨_, w1, _⟩ := k1; exact Heap.lt_size w1
        · obtain ⟨_, w2, _⟩ := k2; exact Heap.lt_size w2
      rw [upd_ne (Nat.ne_of_lt hlt)]
      exact (hf c hcm).1
  done := by
    intro X hP hw hK hc i pins s σ H E I hf st hg
    subst hP hw hK
    obtain ⟨kz, kI, ⟨p0, q0, kO⟩, k1, k2⟩ := st
    obtain ⟨xs, ys, hqx, hqy, hend⟩ := hg
    obtain ⟨its, rv, p, _⟩ := I.list hqx
    obtain ⟨its2, rv2, p2, _⟩ := I.tuple hqy
    have l1 := rv.length
    have l2 := rv2.length
    have he : its.toArray[i]? = none ∨ its2.toArray[i]? = none := by
      rcases hend with q | q
      · exact .inl (by simp; omega)
      · exact .inr (by simp; omega)
    exact nextM_end (I.ok.hd hc) D kz kI kO k1 k2 p.isList p2 he fun h' tk hk => ⟨rfl, I.turnedL (t' := tk) (ch := [z, TI, TO, i1, i2]) (fun c o hb q =>
      hk c o (fun w => hb (by simp [w])) (fun w => hb (by simp [w])) (fun w => hb (by simp [w])) (fun w => hb (by simp [w])) q) hf⟩
  self := fun A i s Q E st h => wpAny_pyIter_zip st.1 h
def iZipM (K : PySem.W.Frag) (ta : TA) : TI := fun σ H R => ta σ H fun vs H1 => ∃ a b xs ys, vs = [.ref a, .ref b] ∧ SqL K H1 a xs ∧ SqT K H1 b ys ∧ R (ItzM K a b) H1
theorem pi_zipM {X : Cx} {e e2 : Expr} {ta : TA} {p pos tpos : Pos} {elts : List Expr} {kk : Nat} (hg : Gl X "zip") (hm : X.mg "zip" = none) (ha : PA X [e, e2] ta)
    (hs : starEach [e, e2] X.env = (false, eval e X.env) :: starEach [e2] X.env := by rfl) (hpl : (backTo pos (starEach [e2] X.env)).any (·.1) = false := by rfl) :
    PI X (.Tuple elts kk tpos) (.Call (.Name "zip" p) [e, e2] [] pos) (iZipM X.K ta) := by
  refine ⟨fun pins s σ H R I h => Call_ (ld_blt I hg hm PyProof.Rows.boot_zip (PyProof.Rows.callWith_type1 (thn (ha.run pos pins s σ H _ I h) fun us s1 ⟨vs, H1, I1, r1, q1⟩ => ?_) hs hpl))⟩
  obtain ⟨a, b, xs, ys, ex, qa, qb, q⟩ := q1
  subst ex
  cases r1 with
  | cons r rr =>
    cases rr with
    | cons r' rr =>
      cases rr
      cases r
      cases r'
      obtain ⟨its, rv, p1, _⟩ := I1.list qa
      obtain ⟨its2, rv2, p2, _⟩ := I1.tuple qb
      obtain ⟨o2, ho2, _⟩ := id p2
      have n5 : ∀ c, c ∈ [s1.heap.objs.size + 4, s1.heap.objs.size + 2, s1.heap.objs.size + 3, s1.heap.objs.size, s1.heap.objs.size + 1] → FpOk X pins H1 c := fun c m => by
        have le : s1.heap.objs.size ≤ c := by
          simp only [List.mem_cons, List.not_mem_nil, or_false] at m
          omega
        exact I1.fpOk le (I1.hok.fresh le)
      refine call_zipM p1.isList (show s1.heap.IsTuple b its2.toArray from p2) fun h' kz kI kO k1 k2 hk => wpAny_pyIter_zip kz ?_
      have I2 : Inv X pins σ H1 { s1 with heap := h' } := I1.kept (t' := s1.toks) hk
      exact ⟨s1.heap.objs.size + 4, [s1.heap.objs.size + 4, s1.heap.objs.size + 2, s1.heap.objs.size + 3, s1.heap.objs.size, s1.heap.objs.size + 1], _, _, H1, rfl, I2, turn_zipM (PySem.W.ktu_apart s1.heap.objs.size a b p1.lt (Heap.lt_size ho2)), ⟨kz, kI, ⟨_, _, kO⟩, k1, k2⟩, n5, q⟩
end DLM
namespace DL
open PySem PySem.Spec L2
def zipMf : D → D → Option (List D)
  | .lst _ xs, .tup ys => some (zipD xs ys)
  | _, _ => none
def zip2M : List D → Option (List D)
  | [x, y] => zipMf (frz x) (frz y)
  | _ => none
theorem zip2M_two {ds l : List D} (h : zip2M ds = some l) : ∃ x y, ds = [x, y] ∧ zipMf (frz x) (frz y) = some l := by
  unfold zip2M at h
  split at h
  · exact ⟨_, _, rfl, h⟩
  · cases h
theorem zipMf_cases {x y : D} {l : List D} (h : zipMf x y = some l) : ∃ o xs ys, x = .lst o xs ∧ y = .tup ys ∧ l = zipD xs ys := by
  unfold zipMf at h
  split at h
  · cases h; exact ⟨_, _, _, rfl, rfl, rfl⟩
  · cases h
def iZipMD (g : M (List D)) : M (List D) := mbind g fun ds => mlift (zip2M ds)
section
variable {K : RC} {fr : Fr}
theorem yields_zipM {ds es : List D} {xs ys : List V} {H0 : Hp} {a b : Addr} (hs : SqL K.K (VF fr) a xs) (r : RepL K (VF fr) H0 ds xs []) (hs2 : SqT K.K (VF fr) b ys) (r2 : RepL K (VF fr) H0 es ys []) : Yields K (DLM.ItzM K.K a b) fr (zipD ds es) where
  go := fun i H ρ σ S hi => by
    obtain ⟨x, y, h1, h2, _⟩ := zipD_get (List.getElem?_eq_getElem hi)
    obtain ⟨u, hu, _⟩ := r.get h1
    obtain ⟨v, hv, _⟩ := r2.get h2
    exact ⟨xs, ys, u, v, SqL.mono S.vfH hs, SqT.mono S.vfH hs2, hu, hv⟩
  stop := fun i H ρ σ S hi => by
    rw [zipD_len, ← r.len, ← r2.len] at hi
    exact ⟨xs, ys, SqL.mono S.vfH hs, SqT.mono S.vfH hs2, by omega⟩
  yld := fun i H x H' ρ σ d S e hy => by
    obtain ⟨T, u, v, rfl, hT, rfl, h1, h2⟩ := hy
    obtain ⟨p, q, hp, hq, rfl⟩ := zipD_get e
    obtain ⟨u', hu, ru⟩ := r.get hp
    obtain ⟨v', hv, rv⟩ := r2.get hq
    have e1 := h1 xs (SqL.mono S.vfH hs)
    have e2 := h2 ys (SqT.mono S.vfH hs2)
    rw [hu] at e1
    rw [hv] at e2
    cases e1
    cases e2
    exact zip_yld S ru rv hT
end
section
variable {ι : Type} {X : ι → Cx} {K : RC} {W : WX} {k : Nat} {a b : Expr} {g : M (List D)} {pos : Pos}
theorem id_zipM {p tpos : Pos} {elts : List Expr} {kk : Nat} (c : CF X K W k) (hg : ∀ i, Gl (X i) "zip") (hm : K.mg "zip" = none) (ha : AM X K W [a, b] g []) (hs : ∀ i, starEach [a, b] (X i).env = (false, eval a (X i).env) :: starEach [b] (X i).env := by intro _; rfl) (hpl : ∀ i, (backTo pos (starEach [b] (X i).env)).any (·.1) = false := by intro _; rfl) :
    ID X K W (.Tuple elts kk tpos) (.Call (.Name "zip" p) [a, b] [] pos) (iZipMD g) := by
  obtain ⟨t, pa, s⟩ := ha.ex
  refine ⟨DLM.iZipM K.K t, (fun i => by rw [← c.kk i]; exact DLM.pi_zipM (hg i) (by rw [c.mg i]; exact hm) (pa i) (hs i) (hpl i)), fun fr ρ σ H R S q => s fr ρ σ H _ S ((QR.bind q).mono fun ds ρ1 q1 vs H1 hl _ S1 => ?_)⟩
  obtain ⟨l, el, q1⟩ := QR.lift q1
  obtain ⟨x, y, rfl, el⟩ := zip2M_two el
  match vs, hl with
  | [vx, vy], _ =>
    obtain ⟨fr', S2, r, back⟩ := Sim.holdFL (ds := [x, y]) (vs := [vx, vy]) rfl S1
    obtain ⟨v1, w1, B, C, e1, e2, r1, v2, w2, B2, C2, e3, e4, r2, e5, e6⟩ := r
    cases e1
    cases e3
    have eB := (List.append_eq_nil_iff.mp e2.symm).1
    subst eB
    have eC := (List.append_eq_nil_iff.mp e2.symm).2
    subst eC
    have eB2 := (List.append_eq_nil_iff.mp e4.symm).1
    subst eB2
    obtain ⟨o, xs, ys, h1, h2, rfl⟩ := zipMf_cases el
    rw [h1] at r1
    rw [h2] at r2
    have f1 := fro_frz x
    rw [h1] at f1
    cases o with
    | true => cases f1
    | false =>
      obtain ⟨_, p, us, rfl, hs, rr⟩ := r1
      obtain ⟨_, p2, us2, rfl, hs2, rr2⟩ := r2
      exact ⟨p, p2, us, us2, rfl, SqL.mono S2.vfH (SqL.of hs), SqT.mono S2.vfH (SqT.of hs2), q1 _ H1 fr' S2 back (yields_zipM (SqL.of hs) rr (SqT.of hs2) rr2)⟩
end
end DL

set_option Elab.async false
set_option linter.all false
set_option maxRecDepth 100000
set_option maxHeartbeats 4000000
namespace DL
open PySem PySem.Spec L2
/-! ### f(x, g(x)): x is handed over by both, one behind the other -/
def aMvL (i : Nat) (g : M (List D)) : M (List D) := fun ρ => match ρ[i]? with
  | some (some _) => mbind g (fun ds ρ1 => match ρ1[i]? with
    | some (some d) => .ok (d :: ds) (ρ1.set i none)
    | _ => .stuck) ρ
  | _ => .stuck
section
variable {ι : Type} {X : ι → Cx} {K : RC} {W : WX} {es : List Expr} {g : M (List D)} {rs : List (Nat × Nat)} {pos : Pos}
theorem am_mvL (i : Nat) {x : Str} (h : ∀ j, PE (X j) (.Name x pos) (tVar i)) (hr : AM X K W es g rs) (hs : ∀ i, starEach (.Name x pos :: es) (X i).env = (false, eval (.Name x pos) (X i).env) :: starEach es (X i).env := by intro _; rfl) : AM X K W (.Name x pos :: es) (aMvL i g) ((0, i) :: shift rs) := by
  obtain ⟨u, p2, s2⟩ := hr.ex
  refine ⟨tCons (tVar i) u, (fun j => pa_cons (h j) (p2 j) (hs j)), fun fr ρ σ H Q S q => ?_⟩
  unfold QM aMvL at q
  cases e : ρ[i]? with
  | none => rw [e] at q; exact q.elim
  | some o => cases o with
    | none => rw [e] at q; exact q.elim
    | some d0 =>
      rw [e] at q
      obtain ⟨v, e1, _⟩ := S.move e
      refine ⟨v, e1, ?_⟩
      refine s2 fr ρ σ H _ S ((QR.bind q).mono fun ds ρ2 q2 vs H2 hl hrs S2 => ?_)
      cases e2 : ρ2[i]? with
      | none => rw [e2] at q2; exact q2.elim
      | some o2 => cases o2 with
        | none => rw [e2] at q2; exact q2.elim
        | some d =>
          rw [e2] at q2
          have ha : (ds.map some ++ ρ2)[ds.length + i]? = some (some d) := by
            rw [List.getElem?_append_right (by rw [List.length_map]; omega), List.length_map, Nat.add_sub_cancel_left, e2]
          obtain ⟨v', e3, S3⟩ := S2.move ha
          have ev : v' = v := by
            rw [← hl, List.getElem?_append_right (by rw [List.length_map]; omega), List.length_map, Nat.add_sub_cancel_left, e1] at e3
            cases e3
            rfl
          subst ev
          rw [List.set_append_right _ _ (by rw [List.length_map]; omega), List.length_map, Nat.add_sub_cancel_left] at S3
          refine q2 (v' :: vs) H2 (by simp [hl]) (fun p hp => ?_) S3
          rcases List.mem_cons.mp hp with z | hp
          · subst z; exact ⟨v', rfl, e1⟩
          · obtain ⟨p', hp', rfl⟩ := List.mem_map.mp hp
            obtain ⟨u, h1, h2⟩ := hrs p' hp'
            exact ⟨u, by simpa using h1, h2⟩
end
theorem al_mvL {i : Nat} {g : M (List D)} {n : Nat} (h : ALen g n) : ALen (aMvL i g) (n + 1) := fun ρ ds ρ' e => by
  unfold aMvL at e
  split at e
  · obtain ⟨ds', ρ1, h1, h2⟩ := mbind_ok e
    split at h2
    · cases h2
      rw [List.length_cons, h _ _ _ h1]
    · cases h2
  · cases e
section
variable {ρ ρ1 : DL.Env} {g : M (List D)} {d0 d : D} {ds : List D} {i : Nat}
theorem aMvL_ok (h0 : ρ[i]? = some (some d0)) (h1 : g ρ = .ok ds ρ1) (h2 : ρ1[i]? = some (some d)) : aMvL i g ρ = .ok (d :: ds) (ρ1.set i none) := by
  unfold aMvL
  simp only [h0]
  rw [mbind_of h1]
  simp only [h2]
end
end DL

set_option Elab.async false
set_option linter.all false
set_option maxRecDepth 100000
set_option maxHeartbeats 4000000
namespace DL
open PySem PySem.Spec L2
/-! ### dicts of one's own: d[k] = v, d[k], k in d; the keys ints, texts, or tuples of both -/
def key1 : D → Option Key
  | .int i => some (.inl i)
  | .str x => some (.inr x)
  | _ => none
def keysL : List D → Option (List Key)
  | [] => some []
  | d :: ds => (key1 d).bind fun k => (keysL ds).map fun ks => k :: ks
def keyT : D → Option (List Key)
  | .tup ds => keysL ds
  | _ => none
section
variable {κ : Type} [DecidableEq κ]
def putKs (ks : List κ) (k : κ) : List κ := if k ∈ ks then ks else ks ++ [k]
def repV (k : κ) (d : D) : List κ → List D → List D
  | k' :: ks, x :: xs => (if k' = k then d else x) :: repV k d ks xs
  | _, _ => []
def putV (ks : List κ) (ds : List D) (k : κ) (d : D) : List D := if k ∈ ks then repV k d ks ds else ds ++ [d]
def getV (k : κ) : List κ → List D → Option D
  | k' :: ks, x :: xs => if k' = k then some x else getV k ks xs
  | _, _ => none
theorem any_mem {kvs : List (κ × V)} {k : κ} : (kvs.any fun kv => decide (kv.1 = k)) = true ↔ k ∈ kvs.map Prod.fst := by
  rw [List.any_eq_true, List.mem_map]
  exact ⟨fun ⟨x, h1, h2⟩ => ⟨x, h1, of_decide_eq_true h2⟩, fun ⟨x, h1, h2⟩ => ⟨x, h1, decide_eq_true h2⟩⟩
theorem putK_fst {kvs : List (κ × V)} {k : κ} {v : V} : (putK kvs k v).map Prod.fst = putKs (kvs.map Prod.fst) k := by
  unfold putK putKs
  by_cases h : k ∈ kvs.map Prod.fst
  · rw [if_pos (any_mem.mpr h), if_pos h, List.map_map]
    refine List.map_congr_left fun kv _ => ?_
    show (if kv.1 = k then (kv.1, v) else kv).1 = kv.1
    split <;> rfl
  · rw [if_neg (fun z => h (any_mem.mp z)), if_neg h, List.map_append]
    rfl
theorem repV_rep {K : RC} {F H : Hp} {k : κ} {d : D} {v : V} (rd : Rep K F H d v []) : ∀ {kvs : List (κ × V)} {ds : List D}, RepL K F H ds (kvs.map Prod.snd) [] → RepL K F H (repV k d (kvs.map Prod.fst) ds) ((kvs.map fun kv => if kv.1 = k then (kv.1, v) else kv).map Prod.snd) []
  | [], ds, r => by
    cases ds with
    | nil => exact ⟨rfl, rfl⟩
    | cons d ds => obtain ⟨v, ws, B, C, e, _⟩ := r; cases e
  | kv :: kvs, ds, r => by
    cases ds with
    | nil => have := r.1; cases this
    | cons x ds =>
      obtain ⟨u, ws, B, C, e1, e2, r1, r2⟩ := r
      cases e1
      have e3 := List.append_eq_nil_iff.mp e2.symm
      obtain ⟨rfl, rfl⟩ := e3
      have ih := repV_rep (k := k) rd r2
      by_cases h : kv.1 = k
      · show RepL K F H ((if kv.1 = k then d else x) :: _) ((if kv.1 = k then (kv.1, v) else kv).2 :: _) []
        rw [if_pos h, if_pos h]
        exact ⟨v, _, [], [], rfl, rfl, rd, ih⟩
      · show RepL K F H ((if kv.1 = k then d else x) :: _) ((if kv.1 = k then (kv.1, v) else kv).2 :: _) []
        rw [if_neg h, if_neg h]
        exact ⟨kv.2, _, [], [], rfl, rfl, r1, ih⟩
theorem repL_app1 {K : RC} {F H : Hp} {d : D} {v : V} (rd : Rep K F H d v []) : ∀ {ds : List D} {vs : List V}, RepL K F H ds vs [] → RepL K F H (ds ++ [d]) (vs ++ [v]) []
  | [], vs, r => by rw [r.1]; exact ⟨v, [], [], [], rfl, rfl, rd, rfl, rfl⟩
  | x :: ds, vs, r => by
    obtain ⟨u, ws, B, C, rfl, e2, r1, r2⟩ := r
    obtain ⟨rfl, rfl⟩ := List.append_eq_nil_iff.mp e2.symm
    exact ⟨u, ws ++ [v], [], [], rfl, rfl, r1, repL_app1 rd r2⟩
theorem putV_rep {K : RC} {F H : Hp} {k : κ} {d : D} {v : V} (rd : Rep K F H d v []) {kvs : List (κ × V)} {ds : List D} (r : RepL K F H ds (kvs.map Prod.snd) []) : RepL K F H (putV (kvs.map Prod.fst) ds k d) ((putK kvs k v).map Prod.snd) [] := by
  unfold putV putK
  by_cases h : k ∈ kvs.map Prod.fst
  · rw [if_pos h, if_pos (any_mem.mpr h)]
    exact repV_rep rd r
  · rw [if_neg h, if_neg (fun z => h (any_mem.mp z)), List.map_append]
    exact repL_app1 rd r
theorem getV_rep {K : RC} {F H : Hp} {k : κ} : ∀ {kvs : List (κ × V)} {ds : List D} {B : List Addr}, RepL K F H ds (kvs.map Prod.snd) B → match getV k (kvs.map Prod.fst) ds with
    | some e => ∃ v B', valV kvs k = some v ∧ Rep K F H e v B'
    | none => valV kvs k = none
  | [], ds, B, r => by
    cases ds with
    | nil => rfl
    | cons d ds => obtain ⟨v, ws, B, C, e, _⟩ := r; cases e
  | kv :: kvs, ds, B, r => by
    cases ds with
    | nil => have := r.1; cases this
    | cons x ds =>
      obtain ⟨u, ws, B1, C, e1, e2, r1, r2⟩ := r
      cases e1
      by_cases h : kv.1 = k
      · show match (if kv.1 = k then some x else getV k (kvs.map Prod.fst) ds) with | some e => _ | none => _
        rw [if_pos h, valV_pos h]
        exact ⟨_, _, rfl, r1⟩
      · show match (if kv.1 = k then some x else getV k (kvs.map Prod.fst) ds) with | some e => _ | none => _
        rw [if_neg h, valV_neg h]
        exact getV_rep r2
end
section
variable {K : RC} {fr : Fr} {ρ : Env} {σ : L2.St} {H : Hp}
theorem key1_rep {F : Hp} {y : D} {vy : V} {B : List Addr} {k : Key} (r : Rep K F H y vy B) (e : key1 y = some k) : vy = kV k := by
  cases y with
  | int i => cases e; exact r.1
  | str x => cases e; exact r.1
  | _ => cases e
theorem keysL_rep {F : Hp} : ∀ {ds : List D} {vs : List V} {B : List Addr} {ks : List Key}, RepL K F H ds vs B → keysL ds = some ks → vs = ks.map kV
  | [], vs, B, ks, r, e => by cases e; exact r.1
  | d :: ds, vs, B, ks, r, e => by
    obtain ⟨v, ws, B1, C, rfl, _, r1, r2⟩ := r
    unfold keysL at e
    cases h1 : key1 d with
    | none => rw [h1] at e; cases e
    | some k =>
      cases h2 : keysL ds with
      | none => rw [h1, h2] at e; cases e
      | some ks' =>
        rw [h1, h2] at e
        cases e
        rw [key1_rep r1 h1, keysL_rep r2 h2]
        rfl
theorem keyT_rep {F : Hp} {y : D} {vy : V} {B : List Addr} {k : List Key} (hF : ∀ a o, F a = some o → H a = some o) (r : Rep K F H y vy B) (e : keyT y = some k) : ∃ b, vy = .ref b ∧ H b = some (.tup (k.map kV)) := by
  cases y with
  | tup ds =>
    obtain ⟨_, a, xs, rfl, s, r⟩ := r
    have := keysL_rep r (show keysL ds = some k from e)
    subst this
    exact ⟨a, rfl, hF _ _ s⟩
  | _ => cases e
/-- what a dict holds -/
def dget : D → D → Option (Option D)
  | .dk _ ks ds, y => (key1 y).map fun k => getV k ks ds
  | .dt _ ks ds, y => (keyT y).map fun k => getV k ks ds
  | _, _ => none
def LookR (K : RC) (fr : Fr) (ρ : DL.Env) (σ : L2.St) (H : Hp) : Option D → Option V → Prop
  | none, o => o = none
  | some e, o => ∃ v, o = some v ∧ (fro e = true → Sim K fr (some e :: ρ) (some v :: σ) H)
theorem Sim.dlook {i : Nat} {d y : D} {vy : V} {r : Option D} (S : Sim K fr ρ σ H) (h : ρ[i]? = some (some d)) (Sy : Sim K fr (some y :: ρ) (some vy :: σ) H) (hr : dget d y = some r) :
    ∃ a o, σ[i]? = some (some (.ref a)) ∧ DGet H a vy o ∧ LookR K fr ρ σ H r o := by
  obtain ⟨A, T⟩ := id S
  obtain ⟨s, A1, B, A2, e1, eA, ⟨v, rfl, rd⟩, _⟩ := T.sl.at h
  have hH : ∀ a o, hid (A ++ fr.N) H a = some o → H a = some o := fun a o e => (hid_some.mp e).2
  obtain ⟨F2, B2, ry, k2⟩ := Sy.top
  have fin : ∀ {κ : Type} [DecidableEq κ] (kvs : List (κ × V)) (ds : List D) (B' : List Addr) (k : κ), RepL K (hid (A ++ fr.N) H) H ds (kvs.map Prod.snd) B' → LookR K fr ρ σ H (getV k (kvs.map Prod.fst) ds) (valV kvs k) := fun {κ} _ kvs ds B' k r => by
    have z := getV_rep (k := k) r
    cases hg : getV k (kvs.map Prod.fst) ds with
    | none => rw [hg] at z; exact z
    | some e =>
      rw [hg] at z
      obtain ⟨v, B'', h1, h2⟩ := z
      exact ⟨v, h1, fun hf => by
        have := fro_rep hf h2
        subst this
        exact S.pushB (i := i) T h2⟩
  cases d with
  | dk o ks ds =>
    have hr : (key1 y).map (fun k => getV k ks ds) = some r := hr
    cases hk : key1 y with
    | none => rw [hk] at hr; cases hr
    | some k =>
      rw [hk] at hr
      cases hr
      have ev := key1_rep ry hk
      subst ev
      cases o with
      | false =>
        obtain ⟨_, a, kvs, rfl, s, rfl, r⟩ := rd
        exact ⟨a, valV kvs k, e1, .k (hH _ _ s), fin kvs ds _ k r⟩
      | true =>
        obtain ⟨a, kvs, B1, rfl, _, s, rfl, r⟩ := rd
        exact ⟨a, valV kvs k, e1, .k s, fin kvs ds _ k r⟩
  | dt o ks ds =>
    have hr : (keyT y).map (fun k => getV k ks ds) = some r := hr
    cases hk : keyT y with
    | none => rw [hk] at hr; cases hr
    | some k =>
      rw [hk] at hr
      cases hr
      obtain ⟨b, rfl, hb⟩ := keyT_rep k2 ry hk
      cases o with
      | false =>
        obtain ⟨_, a, kvs, rfl, s, rfl, r⟩ := rd
        exact ⟨a, valV kvs k, e1, .inr ⟨kvs, k, b, Rd.mono hH s, rfl, hb, rfl⟩, fin kvs ds _ k r⟩
      | true =>
        obtain ⟨a, kvs, B1, rfl, _, s, rfl, r⟩ := rd
        exact ⟨a, valV kvs k, e1, .t s hb, fin kvs ds _ k r⟩
  | _ => cases hr
/-- behind a store: what the dict holds is frozen -/
def dput : D → D → D → Option D
  | .dk true ks ds, y, d => (key1 y).bind fun k => if ks.length < sizeLine then some (.dk true (putKs ks k) (putV ks (frzL ds) k (frz d))) else none
  | .dt true ks ds, y, d => (keyT y).bind fun k => if ks.length < sizeLine then some (.dt true (putKs ks k) (putV ks (frzL ds) k (frz d))) else none
  | _, _, _ => none
theorem Sim.dputG {κ : Type} [DecidableEq κ] {mkD : List κ → List D → D} {mkH : List (κ × V) → HO} (hrep : ∀ (F H : Hp) (ks : List κ) (ds : List D) (v : V) (A : List Addr), Rep K F H (mkD ks ds) v A ↔ ∃ a kvs B, v = .ref a ∧ A = a :: B ∧ H a = some (mkH kvs) ∧ kvs.map Prod.fst = ks ∧ RepL K F H ds (kvs.map Prod.snd) B)
    {ks : List κ} {ds : List D} {d : D} {w v : V} (S : Sim K fr (some (mkD ks ds) :: some d :: ρ) (some w :: some v :: σ) H) (k : κ) : ∃ p kvs, w = .ref p ∧ H p = some (mkH kvs) ∧ kvs.length = ks.length ∧ Sim K fr (some (mkD (putKs ks k) (putV ks (frzL ds) k (DL.frz d))) :: ρ) (some (.ref p) :: σ) (upd H p (mkH (putK kvs k v))) := by
  obtain ⟨A, S⟩ := S
  obtain ⟨s1, τ1, B1, C1, e1, rfl, ⟨v1, ev, r1⟩, r2⟩ := S.sl
  injection e1 with e1 e2
  subst e1 e2
  cases ev
  obtain ⟨s2, τ2, B2, C2, e3, rfl, ⟨v2, ev, r3⟩, r4⟩ := r2
  injection e3 with e3 e4
  subst e3 e4
  cases ev
  obtain ⟨p, kvs, B, rfl, rfl, hx, rfl, rr1⟩ := (hrep _ _ _ _ _ _).mp r1
  refine ⟨p, kvs, rfl, hx, (List.length_map ..).symm, p :: C2, ?_⟩
  have nd0 : (p :: (B ++ (B2 ++ C2))).Nodup := S.nd
  have nd1 := (List.nodup_cons.mp nd0).2
  have pn := (List.nodup_cons.mp nd0).1
  have sub : ∀ a ∈ p :: C2, a ∈ p :: B ++ (B2 ++ C2) ∨ H a = none := fun a z => .inl (by
    rcases List.mem_cons.mp z with z | z
    · rw [z]; exact List.mem_cons_self
    · exact List.mem_cons_of_mem _ (List.mem_append_right _ (List.mem_append_right _ z)))
  have ndc : (p :: C2).Nodup := List.nodup_cons.mpr ⟨fun z => pn (List.mem_append_right _ (List.mem_append_right _ z)), (List.nodup_append.mp (List.nodup_append.mp nd1).2.1).2.1⟩
  have kp : ∀ a o, a ≠ p → H a = some o → upd H p (mkH (putK kvs k v)) a = some o := fun a o n e => by rw [upd_ne n]; exact e
  have kpA : ∀ a o, a ∉ p :: B ++ (B2 ++ C2) → H a = some o → upd H p (mkH (putK kvs k v)) a = some o := fun a o n e => kp a o (fun z => n (by rw [z]; exact List.mem_cons_self)) e
  have f := S.fro sub (H' := upd H p (mkH (putK kvs k v))) kpA
  have vis : ∀ a ∈ B ++ B2, ∀ o, H a = some o → hid (p :: C2 ++ fr.N) (upd H p (mkH (putK kvs k v))) a = some o := fun a z o e => by
    have hne : a ≠ p := fun q => pn (by
      rw [← q]
      rcases List.mem_append.mp z with z | z
      · exact List.mem_append_left _ z
      · exact List.mem_append_right _ (List.mem_append_left _ z))
    refine hid_some.mpr ⟨fun q => ?_, kp a o hne e⟩
    rcases List.mem_append.mp q with q | q
    · rcases List.mem_cons.mp q with q | q
      · exact hne q
      · rcases List.mem_append.mp z with z | z
        · exact (List.nodup_append.mp nd1).2.2 a z a (List.mem_append_right _ q) rfl
        · exact (List.nodup_append.mp (List.nodup_append.mp nd1).2.1).2.2 a z a q rfl
    · refine (S.off a ?_).1 q
      rcases List.mem_append.mp z with z | z
      · exact List.mem_append_left _ (List.mem_cons_of_mem _ z)
      · exact List.mem_append_right _ (List.mem_append_left _ z)
  have rds := RepL.frz f ds (kvs.map Prod.snd) B (fun a z o e => vis a (List.mem_append_left _ z) o e) rr1
  have rd := Rep.frz f d v B2 (fun a z o e => vis a (List.mem_append_right _ z) o e) r3
  have rr := putV_rep (k := k) rd rds
  have rr2 : RepL K (hid (p :: C2 ++ fr.N) (upd H p (mkH (putK kvs k v)))) (upd H p (mkH (putK kvs k v))) (putV (kvs.map Prod.fst) (frzL ds) k (DL.frz d)) ((putK kvs k v).map Prod.snd) [] := RepL.mono (fun _ _ e => e) _ _ _ (fun _ z => nomatch z) rr
  refine S.next sub ndc kpA ⟨some (.ref p), _, [p], C2, rfl, rfl, ⟨.ref p, rfl, (hrep _ _ _ _ _ _).mpr ⟨p, putK kvs k v, [], rfl, rfl, upd_same, putK_fst, rr2⟩⟩, r4.mono f fun a z o e => kp a o (fun q => pn (by rw [← q]; exact List.mem_append_right _ (List.mem_append_right _ z))) e⟩
theorem Sim.dput {c y d d' : D} {w v vy : V} (S : Sim K fr (some c :: some d :: ρ) (some w :: some v :: σ) H) (hy : ∀ k, key1 y = some k → vy = kV k) (hyT : ∀ k, keyT y = some k → ∃ b, vy = .ref b ∧ H b = some (.tup (k.map kV))) (e : DL.dput c y d = some d') :
    ∃ p H', w = .ref p ∧ DPut H p vy v H' ∧ Sim K fr (some d' :: ρ) (some (.ref p) :: σ) H' := by
  cases c with
  | dk o ks ds =>
    cases o with
    | false => cases e
    | true =>
      have e : (key1 y).bind (fun k => if ks.length < sizeLine then some (D.dk true (putKs ks k) (putV ks (frzL ds) k (DL.frz d))) else none) = some d' := e
      cases hk : key1 y with
      | none => rw [hk] at e; cases e
      | some k =>
        rw [hk] at e
        simp only [Option.bind_some] at e
        by_cases hz : ks.length < sizeLine
        · rw [if_pos hz] at e
          cases e
          obtain ⟨p, kvs, rfl, hx, hl, S1⟩ := Sim.dputG (mkD := fun ks ds => .dk true ks ds) (mkH := .dK) (fun _ _ _ _ _ _ => Iff.rfl) S k
          rw [hy k hk]
          exact ⟨p, _, rfl, .k hx (by rw [hl]; exact hz), S1⟩
        · rw [if_neg hz] at e; cases e
  | dt o ks ds =>
    cases o with
    | false => cases e
    | true =>
      have e : (keyT y).bind (fun k => if ks.length < sizeLine then some (D.dt true (putKs ks k) (putV ks (frzL ds) k (DL.frz d))) else none) = some d' := e
      cases hk : keyT y with
      | none => rw [hk] at e; cases e
      | some k =>
        rw [hk] at e
        simp only [Option.bind_some] at e
        by_cases hz : ks.length < sizeLine
        · rw [if_pos hz] at e
          cases e
          obtain ⟨p, kvs, rfl, hx, hl, S1⟩ := Sim.dputG (mkD := fun ks ds => .dt true ks ds) (mkH := .dT) (fun _ _ _ _ _ _ => Iff.rfl) S k
          obtain ⟨b, rfl, hb⟩ := hyT k hk
          exact ⟨p, _, rfl, .t hx hb (by rw [hl]; exact hz), S1⟩
        · rw [if_neg hz] at e; cases e
  | _ => cases e
theorem Sim.newDt (S : Sim K fr ρ σ H) {p : Addr} (hp : H p = none) : Sim K fr (some (.dt true [] []) :: ρ) (some (.ref p) :: σ) (upd H p (.dT [])) := by
  obtain ⟨A, S⟩ := S
  have tr := S.sl.tr
  have sub : ∀ a ∈ p :: A, a ∈ A ∨ H a = none := fun a z => by
    rcases List.mem_cons.mp z with z | z
    · subst z; exact .inr hp
    · exact .inl z
  have kp : ∀ a o, H a = some o → upd H p (.dT []) a = some o := fun a o e => by rw [upd_ne (ne_of_none e hp)]; exact e
  have f := S.fro sub (H' := upd H p (.dT [])) fun a o _ e => kp a o e
  exact ⟨p :: A, S.next sub (nodup_cons_fresh S.nd hp tr) (fun a o _ e => kp a o e) ⟨some (.ref p), σ, [p], A, rfl, rfl, ⟨.ref p, rfl, p, [], [], rfl, rfl, upd_same, rfl, rfl, rfl⟩, S.sl.mono f fun a _ o e => kp a o e⟩⟩
end
def sDPutI (i : Nat) (fv fk : M D) : SF := sE fv fun d ρ1 => match ρ1[i]? with
  | some (some _) => sE fk (fun y ρ2 => match ρ2[i]? with
    | some (some c) => (match dput c y d with
      | some c' => .nx (ρ2.set i (some c'))
      | none => .stuck)
    | _ => .stuck) ρ1
  | _ => .stuck
def eDix (i : Nat) (fk : M D) : M D := fun ρ => match ρ[i]? with
  | some (some _) => mbind fk (fun y ρ1 => match ρ1[i]? with
    | some (some c) => (match dget c y with
      | some (some e) => if fro e = true then .ok e ρ1 else .stuck
      | _ => .stuck)
    | _ => .stuck) ρ
  | _ => .stuck
def eDin (neg : Bool) (i : Nat) (fk : M D) : M D := mbind fk fun y ρ1 => match ρ1[i]? with
  | some (some c) => (match dget c y with
    | some r => .ok (.bl (if neg then !r.isSome else r.isSome)) ρ1
    | _ => .stuck)
  | _ => .stuck
section
variable {ι : Type} {X : ι → Cx} {K : RC} {W : WX} {k : Nat} {b e : Expr} {fb fv : M D} {pos : Pos} {pr : List Nat}
theorem ed_dict0T : ED X K W (.Dict [] [] pos) (eC (.dt true [] [])) := ⟨tDNewT, (fun _ => pe_dnewT), fun fr ρ σ H Q S q p hp => q _ _ (S.newDt hp)⟩
theorem ed_dix (i : Nat) {x : Str} {p0 : Pos} (c : CF X K W k) (h : ∀ j, PE (X j) (.Name x p0) (tVar i)) (hb : ED X K W b fb) (hs : NoSl b := by exact fun _ _ => rfl) : ED X K W (.Subscript (.Name x p0) b pos) (eDix i fb) := by
  obtain ⟨tb, pb, sb⟩ := hb.ex
  refine ⟨tDGet (tVar i) tb, (fun j => pe_dget (by have := (c.room j).un; omega) (h j) (pb j) hs), fun fr ρ σ H Q S q => ?_⟩
  unfold eDix at q
  split at q
  rotate_left
  · exact q.elim
  rename_i d0 e0
  obtain ⟨v0, hv0⟩ := S.slotV e0
  refine ⟨v0, hv0, ?_⟩
  refine sb fr ρ σ H _ S ((QR.bind q).mono fun y ρ1 q1 vy H1 S1 => ?_)
  split at q1
  rotate_left
  · exact q1.elim
  rename_i d e1
  split at q1
  rotate_left
  · exact q1.elim
  rename_i e eg
  by_cases hf : fro e = true
  · simp only [hf, if_true] at q1
    obtain ⟨a, o, h1, h2, v, rfl, h3⟩ := Sim.dlook S1.drop e1 S1 eg
    rw [hv0] at h1
    cases h1
    exact ⟨a, v, rfl, h2, q1 v H1 (h3 hf)⟩
  · simp only [hf, if_false] at q1
    exact q1.elim
theorem ed_dinT (neg : Bool) (i : Nat) {x : Str} {p0 : Pos} (c : CF X K W k) (h : ∀ j, PE (X j) (.Name x p0) (tVar i)) (hb : ED X K W b fb) :
    ∃ t, (∀ j, neg = false → PC (X j) .In b (.Name x p0) t) ∧ (∀ j, neg = true → PC (X j) .NotIn b (.Name x p0) t) ∧ ∀ fr ρ σ H Q, Sim K fr ρ σ H → QE K W fr σ (eDin neg i fb ρ) Q → t σ H Q := by
  obtain ⟨tb, pb, sb⟩ := hb.ex
  have core : ∀ fr ρ σ H Q, Sim K fr ρ σ H → QE K W fr σ (eDin neg i fb ρ) Q → tb σ H fun y H1 => tVar i σ H1 fun x H2 => ∃ a o, x = .ref a ∧ DGet H2 a y o ∧ Q (.bl (if neg then !o.isSome else o.isSome)) H2 := fun fr ρ σ H Q S q => by
    refine sb fr ρ σ H _ S ((QR.bind q).mono fun y ρ1 q1 vy H1 S1 => ?_)
    split at q1
    rotate_left
    · exact q1.elim
    rename_i d e1
    split at q1
    rotate_left
    · exact q1.elim
    rename_i r eg
    obtain ⟨a, o, h1, h2, h3⟩ := Sim.dlook S1.drop e1 S1 eg
    have ho : o.isSome = r.isSome := by
      cases r with
      | none => have h3 : o = none := h3; rw [h3]; rfl
      | some e => obtain ⟨v, rfl, _⟩ := h3; rfl
    refine ⟨.ref a, h1, a, o, rfl, h2, ?_⟩
    rw [ho]
    exact q1 _ H1 (S1.drop.pushF rfl)
  cases neg with
  | false => exact ⟨tDIn tb (tVar i), (fun j _ => pc_din (by have := (c.room j).un; omega) (pb j) (h j)), (fun j z => by cases z), core⟩
  | true => exact ⟨tDNotIn tb (tVar i), (fun j z => by cases z), (fun j _ => pc_dnotin (by have := (c.room j).un; omega) (pb j) (h j)), core⟩
theorem sd_dput (i : Nat) {x : Str} {p0 p1 : Pos} (c : CF X K W k) (h : ∀ j, PE (X j) (.Name x p0) (tVar i)) (hv : ED X K W e fv) (hb : ED X K W b fb) (hs : ∀ j, swapsWith e (some (.Subscript (.Name x p0) b p1)) pos.line (X j).env = pure false := by intro _; rfl) : SD X K W pr (.Assign [.Subscript (.Name x p0) b p1] e pos) (sDPutI i fv fb) := by
  obtain ⟨tv, pv, sv⟩ := hv.ex
  obtain ⟨tb, pb, sb⟩ := hb.ex
  refine ⟨sDPut (tVar i) tb tv, (fun j => ps_dput (by have := (c.room j).un; omega) (h j) (pb j) (pv j) (hs j)), fun fr ρ σ H Dn S q => ?_⟩
  refine sv fr ρ σ H _ S (q.ofE.mono fun d ρ1 q1 v H1 S1 => ?_)
  split at q1
  rotate_left
  · exact q1.elim
  rename_i c0 e0
  obtain ⟨w0, hw0⟩ := S1.drop.slotV e0
  refine ⟨w0, hw0, ?_⟩
  obtain ⟨fr', S2, back⟩ := S1.hold
  refine sb fr' ρ1 σ H1 _ S2 ((q1.ofE.frame fun ρ H s => (back ρ σ H s).drop).mono fun y ρ2 q2 vy H2 S3 => ?_)
  split at q2
  rotate_left
  · exact q2.elim
  rename_i c1 e1
  split at q2
  rotate_left
  · exact q2.elim
  rename_i c2 e2
  obtain ⟨F, B, ry, kF⟩ := S3.top
  have S4 := back _ _ _ S3.drop
  obtain ⟨u, hu, S5⟩ := S4.move (i := i + 1) (show (some d :: ρ2)[i + 1]? = _ from by simpa using e1)
  have hu : σ[i]? = some (some u) := by simpa using hu
  rw [hw0] at hu
  cases hu
  have S5 : Sim K fr (some c1 :: some d :: ρ2.set i none) (some w0 :: some v :: σ) H2 := S5
  obtain ⟨p, H', rfl, hd, S6⟩ := S5.dput (fun k hk => key1_rep ry hk) (fun k hk => keyT_rep kF ry hk) e2
  have S7 := S6.back hw0
  rw [set_set_] at S7
  exact ⟨p, H', rfl, hd, q2 σ H' .refl S7⟩
theorem ed_din (i : Nat) {x : Str} {p0 : Pos} (c : CF X K W k) (h : ∀ j, PE (X j) (.Name x p0) (tVar i)) (hb : ED X K W b fb) : ED X K W (.Compare b [.In] [.Name x p0] pos) (eDin false i fb) := by
  obtain ⟨t, h1, _, h3⟩ := ed_dinT false i c h hb
  exact ⟨t, (fun j => pe_cmp (h1 j rfl) rfl), h3⟩
theorem ed_dnin (i : Nat) {x : Str} {p0 : Pos} (c : CF X K W k) (h : ∀ j, PE (X j) (.Name x p0) (tVar i)) (hb : ED X K W b fb) : ED X K W (.Compare b [.NotIn] [.Name x p0] pos) (eDin true i fb) := by
  obtain ⟨t, _, h2, h3⟩ := ed_dinT true i c h hb
  exact ⟨t, (fun j => pe_cmp (h2 j rfl) rfl), h3⟩
theorem td_din (i : Nat) {x : Str} {p0 : Pos} (c : CF X K W k) (h : ∀ j, PE (X j) (.Name x p0) (tVar i)) (hb : ED X K W b fb) : TD X K W (.Compare b [.In] [.Name x p0] pos) (eB (eDin false i fb)) := by
  obtain ⟨t, h1, _, h3⟩ := ed_dinT false i c h hb
  exact ⟨tTest t, (fun j => pt_cmp (h1 j rfl) rfl), fun fr ρ σ H Q S q => sim_tTest h3 S q⟩
theorem td_dnin (i : Nat) {x : Str} {p0 : Pos} (c : CF X K W k) (h : ∀ j, PE (X j) (.Name x p0) (tVar i)) (hb : ED X K W b fb) : TD X K W (.Compare b [.NotIn] [.Name x p0] pos) (eB (eDin true i fb)) := by
  obtain ⟨t, _, h2, h3⟩ := ed_dinT true i c h hb
  exact ⟨tTest t, (fun j => pt_cmp (h2 j rfl) rfl), fun fr ρ σ H Q S q => sim_tTest h3 S q⟩
end
section
variable {ρ ρ1 ρ2 : DL.Env} {fv fk : M D} {d y c c' e c0 : D} {i : Nat} {r : Option D}
theorem dput_ok (h1 : fv ρ = .ok d ρ1) (h2 : ρ1[i]? = some (some c0)) (h3 : fk ρ1 = .ok y ρ2) (h4 : ρ2[i]? = some (some c)) (h5 : dput c y d = some c') : sDPutI i fv fk ρ = .nx (ρ2.set i (some c')) := by
  unfold sDPutI
  rw [sE_of h1]
  simp only [h2]
  rw [sE_of h3]
  simp only [h4, h5]
theorem dix_ok (h2 : ρ[i]? = some (some c0)) (h3 : fk ρ = .ok y ρ1) (h4 : ρ1[i]? = some (some c)) (h5 : dget c y = some (some e)) (hf : fro e = true) : eDix i fk ρ = .ok e ρ1 := by
  unfold eDix
  simp only [h2]
  rw [mbind_of h3]
  simp only [h4, h5, hf, if_true]
theorem din_ok {neg : Bool} (h3 : fk ρ = .ok y ρ1) (h4 : ρ1[i]? = some (some c)) (h5 : dget c y = some r) : eDin neg i fk ρ = .ok (.bl (if neg then !r.isSome else r.isSome)) ρ1 := by
  unfold eDin
  rw [mbind_of h3]
  simp only [h4, h5]
end
end DL

set_option Elab.async false
set_option linter.all false
set_option maxRecDepth 100000
set_option maxHeartbeats 4000000
namespace DLS
open PySem PyProof.Rows Srt SrtO
/-! ### sorted, a list of tuples of ints (none empty) -/
def lexL : List Int → List Int → Bool
  | [], [] => false
  | [], _ :: _ => true
  | _ :: _, [] => false
  | x :: xs, y :: ys => if x = y then lexL xs ys else decide (x < y)
theorem lexL_eq {x y : Int} {xs ys : List Int} (h : x = y) : lexL (x :: xs) (y :: ys) = lexL xs ys := if_pos h
theorem lexL_ne {x y : Int} {xs ys : List Int} (h : ¬ x = y) : lexL (x :: xs) (y :: ys) = decide (x < y) := if_neg h
theorem lexL_asym : ∀ x y : List Int, lexL x y = true → lexL y x = false
  | [], [], h => by cases h
  | [], _ :: _, _ => rfl
  | _ :: _, [], h => by cases h
  | x :: xs, y :: ys, h => by
    unfold lexL at h ⊢
    by_cases e : x = y
    · rw [if_pos e] at h
      rw [if_pos e.symm]
      exact lexL_asym xs ys h
    · rw [if_neg e] at h
      rw [if_neg (fun z => e z.symm)]
      have := of_decide_eq_true h
      exact decide_eq_false (by omega)
theorem lexL_tr : ∀ x y z : List Int, lexL y x = false → lexL z y = false → lexL z x = false
  | [], [], z, _, h => h
  | [], _ :: _, [], _, h => by cases h
  | [], _ :: _, _ :: _, _, _ => rfl
  | _ :: _, [], z, h, _ => by cases h
  | x :: xs, y :: ys, [], _, h => by cases h
  | x :: xs, y :: ys, z :: zs, h1, h2 => by
    unfold lexL at h1 h2 ⊢
    by_cases e1 : y = x
    · rw [if_pos e1] at h1
      by_cases e2 : z = y
      · rw [if_pos e2] at h2
        rw [if_pos (e2.trans e1)]
        exact lexL_tr xs ys zs h1 h2
      · rw [if_neg e2] at h2
        have := of_decide_eq_false h2
        rw [if_neg (by omega)]
        exact decide_eq_false (by omega)
    · rw [if_neg e1] at h1
      have k1 := of_decide_eq_false h1
      by_cases e2 : z = y
      · rw [if_pos e2] at h2
        rw [if_neg (by omega)]
        exact decide_eq_false (by omega)
      · rw [if_neg e2] at h2
        have k2 := of_decide_eq_false h2
        rw [if_neg (by omega)]
        exact decide_eq_false (by omega)
theorem lexL_anti : ∀ x y : List Int, lexL x y = false → lexL y x = false → x = y
  | [], [], _, _ => rfl
  | [], _ :: _, h, _ => by cases h
  | _ :: _, [], _, h => by cases h
  | x :: xs, y :: ys, h1, h2 => by
    unfold lexL at h1 h2
    by_cases e : x = y
    · rw [if_pos e] at h1
      rw [if_pos e.symm] at h2
      rw [e, lexL_anti xs ys h1 h2]
    · rw [if_neg e] at h1
      rw [if_neg (fun z => e z.symm)] at h2
      have k1 := of_decide_eq_false h1
      have k2 := of_decide_eq_false h2
      omega
theorem swo_lexL {α : Type} (k : α → List Int) : Swo fun v u => lexL (k v) (k u) := ⟨fun x y h => lexL_asym _ _ h, fun x y z h1 h2 => lexL_tr _ _ _ h1 h2⟩
section
variable {prog : Program} {w : World} {A : Around} {E : Value → Shared → Prop} {s : Shared}
theorem lex_go {b : Bool} : ∀ {us ws : List Value} {xs ys : List Int} (i : Nat) (fin : Bool), IntsAre us xs → IntsAre ws ys → fin = decide (us.length < ws.length) → PySem.W.KatLex prog w A b fin (fun r s' => s' = s ∧ r = lexL xs ys) (us.zip ws) i s
  | _, _, _, _, i, fin, .nil, .nil, hf => PySem.W.kat_nil ⟨rfl, hf⟩
  | _, _, _, _, i, fin, .nil, .cons y u r2, hf => PySem.W.kat_nil ⟨rfl, hf.trans (decide_eq_true (by simp))⟩
  | _, _, _, _, i, fin, .cons x t r1, .nil, hf => PySem.W.kat_nil ⟨rfl, hf.trans (decide_eq_false (by simp))⟩
  | _, _, _, _, i, fin, .cons x t r1, .cons y u r2, hf => by
    refine PySem.W.kat_cons (SeqAt.EqAt.int_int x t y u prog w _ _ ?_)
    refine PySem.W.kat_go (fun e1 => ?_) (fun e1 => ?_)
    · have ex : x = y := by simpa using e1
      have h := lex_go (b := b) (i + 1) fin r1 r2 (by rw [hf]; simp)
      refine PySem.W.kat_yes ?_
      rw [lexL_eq ex]
      exact h
    · have ex : ¬ x = y := by simpa using e1
      refine PySem.W.kat_no ?_
      rw [lexL_ne ex]
      exact TS.oneLt_ints _ ⟨rfl, rfl⟩
theorem tups_cmp {vs : List Value} {k : Value → List Int} (hp : ∀ v ∈ vs, TS.TupInts s.heap v (k v)) : Cmp prog w A s (tuples' true) (fun p => p.1 ∈ vs) (lt2 fun v u => lexL (k v) (k u)) := by
  intro p q hm hm'
  have h1 := hp _ hm
  have h2 := hp _ hm'
  show wpAny (model prog w) A (keyLt' (tuples' true) p.1 q.1) (fun r s' => s' = s ∧ r = lexL (k p.1) (k q.1)) (fun _ _ => False) s
  obtain ⟨a, xs, e, ⟨o, ho, hc, n, hd⟩, i1⟩ := h1
  obtain ⟨a', xs', e', ⟨o', ho', hc', n', hd'⟩, i2⟩ := h2
  generalize k p.1 = ns at i1 ⊢
  generalize k q.1 = ms at i2 ⊢
  rw [e, e']
  exact PySem.W.kat_lt ho hd ho' hd' (lex_go 0 _ i1 i2 rfl)
theorem firsts_ofT {h : Heap} : ∀ vs : List Value, (∀ v ∈ vs, ∃ ns, TS.TupInts h v ns ∧ ns ≠ []) → ∃ fs, PySem.W.KatTups h vs fs ∧ fs.length = vs.length ∧ ∀ f, f ∈ fs → ∃ n t, f = Value.int n t
  | [], _ => ⟨[], PySem.W.KatTups.nil, rfl, fun f hf => by simp at hf⟩
  | v :: vs, x => by
    obtain ⟨fs, kk, hl, hi⟩ := firsts_ofT vs fun u hu => x u (List.mem_cons_of_mem _ hu)
    obtain ⟨ns, ⟨a, xs, rfl, ⟨o, ho, hc, n, hdt⟩, i⟩, hne⟩ := x v (List.mem_cons_self ..)
    obtain ⟨y, ys, e⟩ : ∃ y ys, xs.toList = y :: ys := by
      cases q : xs.toList with
      | nil =>
        rw [q] at i
        cases i
        exact absurd rfl hne
      | cons y ys => exact ⟨y, ys, rfl⟩
    obtain ⟨m, t, hy⟩ := i.all y (by rw [e]; exact List.mem_cons_self ..)
    refine ⟨y :: fs, PySem.W.KatTups.cons ho hc hdt ?_ kk, by simp [hl], ?_⟩
    · have : xs[0]? = xs.toList[0]? := by simp
      rw [this, e]
      rfl
    · intro f hf
      rcases List.mem_cons.mp hf with rfl | hf
      · exact ⟨m, t, hy⟩
      · exact hi f hf
theorem tups_sortable {a : Addr} {vs : List Value} {k : Value → List Int} (h0 : 0 < vs.length) (hp : ∀ v ∈ vs, TS.TupInts s.heap v (k v) ∧ k v ≠ []) (ha : ∀ o, s.heap.get? a = some o → o.cls ≠ .type "tuple") : SortableO prog w A s a vs fun v u => lexL (k v) (k u) := by
  intro h' keep
  have hp' : ∀ v ∈ vs, TS.TupInts h' v (k v) := fun v hm => (hp v hm).1.keeps fun b o e c => keep b o (fun z => by subst z; exact ha o e c) e
  obtain ⟨fs, h1, h2, h3⟩ := firsts_ofT vs fun v hm => ⟨_, hp' v hm, (hp v hm).2⟩
  refine ⟨tuples' true, fun Q E hq => ?_, tups_cmp hp'⟩
  refine PySem.W.kat_kind (T := .type "int") h1 (by omega) (fun f hm => ?_) (by rfl) ?_
  · obtain ⟨x, t, rfl⟩ := h3 f hm
    exact PySem.W.Looks.now
  · have e : (Value.type "int" != Value.type "tuple") = true := by first | decide +kernel | rfl | decide
    rw [e]
    exact hq
theorem sorted_tupsL {l : Addr} {vs : List Value} {k : Value → List Int} {Q : Value → Shared → Prop} (hl : s.heap.IsList l vs.toArray) (hz : vs.length ≤ sizeLine) (hp : ∀ v ∈ vs, TS.TupInts s.heap v (k v) ∧ k v ≠ [])
    (h : ∀ (h' : Heap) (d : Addr) (out : List Value), Srtd (fun v u => lexL (k v) (k u)) out → Stb (fun v u => lexL (k v) (k u)) out vs → (∀ b o, s.heap.get? b = some o → h'.get? b = some o) → s.heap.objs.size ≤ d → (∃ n, h'.get? d = some (seqObj "list" out.toArray n)) → Q (.ref d) { s with heap := h' }) :
    wpAny (model prog w) A (call (.builtin "sorted") [.ref l]) Q E s := by
  refine sorted_ord (swo_lexL k) hl hz (fun h2 h₁ a ha kk => ?_) fun out hs hb => ?_
  · refine tups_sortable (s := { s with heap := h₁ }) (by omega) (fun v hm => ⟨(hp v hm).1.keeps fun b o e _ => (kk b o e).2, (hp v hm).2⟩) fun o e => ?_
    have e' : some o = some (seqObj "list" vs.toArray 0) := e.symm.trans ha
    cases e'
    intro c
    exact absurd (Value.type.inj c) (by decide)
  · exact h _ _ out hs hb (fun b o e => sortedAll_old e) (Nat.le_succ _) (sortedAll_at s.heap vs out.toArray)
end
end DLS
namespace L2
open PySem PySem.Spec PyProof.Rows
def rSortedTL (K : PySem.W.Frag) : List V → Hp → VK → Prop := fun vs H Q => ∃ (a : Addr) (xs : List V) (k : V → List Int), vs = [V.ref a] ∧ SqL K H a xs ∧ (∀ x ∈ xs, ∃ t, x = V.ref t ∧ SqT K H t ((k x).map V.int) ∧ k x ≠ []) ∧
  ∀ ys p, SrtO.Srtd (fun x y => DLS.lexL (k x) (k y)) ys → ys.Perm xs → H p = none → Q (.ref p) (upd H p (.lst ys))
section
variable {X : Cx}
theorem cr_sortedTL : CallR X (.builtin "sorted") (rSortedTL X.K) := by
  intro pins s σ H vs us Q I r h
  obtain ⟨a, xs, k, rfl, hs, hx, q⟩ := h
  obtain ⟨its, rv, hl, hz⟩ := I.list hs
  obtain ⟨u, rfl, ru⟩ := vals1 r
  obtain rfl : u = Value.ref a := ru
  obtain ⟨e1, e2⟩ := bkV_refs rv fun x m => by
    obtain ⟨t, e, _⟩ := hx x m
    exact ⟨t, e⟩
  refine DLS.sorted_tupsL (k := fun u => k (bkV u)) hl.isList (by rw [← rv.length]; exact hz) (fun v hv => ?_) fun h' d out h1 h2 kp hd hn => ?_
  · obtain ⟨t, rfl⟩ := e2 v hv
    have hm : V.ref t ∈ xs := by rw [e1]; exact List.mem_map.mpr ⟨_, hv, rfl⟩
    obtain ⟨t', e, ht, hne⟩ := hx _ hm
    cases e
    exact ⟨tupI_raw I ht, hne⟩
  · have h3 : ∀ u ∈ out, ∃ a, u = Value.ref a := fun u hu => e2 u (h2.perm.mem_iff.mp hu)
    obtain ⟨n, hn⟩ := hn
    have hp : (out.map bkV).Perm xs := by
      rw [e1]
      exact h2.perm.map bkV
    refine ⟨.ref d, upd H d (.lst (out.map bkV)), I.laid (t' := s.toks) kp hd ⟨?_, out, n, bkV_vals h3, hn⟩, rfl, q _ d (SrtO.srtd_map h1) hp (I.hok.fresh hd)⟩
    rw [hp.length_eq]
    exact hz
end
end L2
namespace DL
open PySem PySem.Spec L2
def insL (x : List Int) : List (List Int) → List (List Int)
  | [] => [x]
  | y :: l => if DLS.lexL y x = true then y :: insL x l else x :: y :: l
def isortL : List (List Int) → List (List Int)
  | [] => []
  | x :: l => insL x (isortL l)
theorem insL_perm (x : List Int) : ∀ l, (insL x l).Perm (x :: l)
  | [] => List.Perm.refl _
  | y :: l => by
    unfold insL
    split
    · exact ((insL_perm x l).cons y).trans (List.Perm.swap x y l)
    · exact List.Perm.refl _
theorem isortL_perm : ∀ l, (isortL l).Perm l
  | [] => List.Perm.refl _
  | x :: l => (insL_perm x (isortL l)).trans ((isortL_perm l).cons x)
theorem insL_srt (x : List Int) : ∀ l, SrtO.Srtd DLS.lexL l → SrtO.Srtd DLS.lexL (insL x l)
  | [], _ => List.pairwise_singleton _ _
  | y :: l, h => by
    have O := DLS.swo_lexL (fun z : List Int => z)
    unfold insL
    split
    · next c =>
      refine List.pairwise_cons.mpr ⟨fun z hz => ?_, insL_srt x l (List.pairwise_cons.mp h).2⟩
      rcases List.mem_cons.mp ((insL_perm x l).mem_iff.mp hz) with rfl | hz
      · exact DLS.lexL_asym _ _ c
      · exact (List.pairwise_cons.mp h).1 z hz
    · next c =>
      have c : DLS.lexL y x = false := by simpa using c
      refine List.pairwise_cons.mpr ⟨fun z hz => ?_, h⟩
      rcases List.mem_cons.mp hz with rfl | hz
      · exact c
      · exact DLS.lexL_tr x y z c ((List.pairwise_cons.mp h).1 z hz)
theorem isortL_srt : ∀ l, SrtO.Srtd DLS.lexL (isortL l)
  | [] => List.Pairwise.nil
  | x :: l => insL_srt x _ (isortL_srt l)
theorem sorted_uniq : ∀ {l m : List (List Int)}, SrtO.Srtd DLS.lexL l → SrtO.Srtd DLS.lexL m → l.Perm m → l = m
  | [], m, _, _, h => (List.Perm.eq_nil h.symm).symm
  | x :: l, [], _, _, h => absurd h.length_eq (by simp)
  | x :: l, y :: m, hl, hm, h => by
    have O := DLS.swo_lexL (fun z : List Int => z)
    have h1 : DLS.lexL x y = false := by
      rcases List.mem_cons.mp (h.mem_iff.mp (List.mem_cons_self (a := x) (l := l))) with e | hx
      · rw [e]; exact O.refl y
      · exact SrtO.srtd_head hm x hx
    have h2 : DLS.lexL y x = false := by
      rcases List.mem_cons.mp (h.mem_iff.mpr (List.mem_cons_self (a := y) (l := m))) with e | hy
      · rw [e]; exact O.refl x
      · exact SrtO.srtd_head hl y hy
    have e := DLS.lexL_anti x y h1 h2
    subst e
    rw [sorted_uniq (List.pairwise_cons.mp hl).2 (List.pairwise_cons.mp hm).2 h.cons_inv]
/-- lists of ints, each as a tuple -/
def rowsOf : List D → Option (List (List Int))
  | [] => some []
  | .tup ds :: r => (intsL ds).bind fun x => if x.isEmpty = true then none else (rowsOf r).map fun xs => x :: xs
  | _ => none
def sortTD : List D → Option D
  | [.lst _ ds] => (rowsOf (frzL ds)).map fun rs => .lst true ((isortL rs).map fun r => .tup (r.map .int))
  | _ => none
theorem intsL_eq : ∀ {ds : List D} {x : List Int}, intsL ds = some x → ds = x.map .int
  | [], x, e => by cases e; rfl
  | .int i :: ds, x, e => by
    unfold intsL at e
    cases h : intsL ds with
    | none => rw [h] at e; cases e
    | some y => rw [h] at e; cases e; rw [intsL_eq h]; rfl
  | .non :: _, _, e => by cases e
  | .bl _ :: _, _, e => by cases e
  | .str _ :: _, _, e => by cases e
  | .adr _ :: _, _, e => by cases e
  | .scr _ :: _, _, e => by cases e
  | .tup _ :: _, _, e => by cases e
  | .lst _ _ :: _, _, e => by cases e
  | .dk _ _ _ :: _, _, e => by cases e
  | .dt _ _ _ :: _, _, e => by cases e
  | .obj _ _ _ _ :: _, _, e => by cases e
theorem rowsOf_eq : ∀ {ds : List D} {rs : List (List Int)}, rowsOf ds = some rs → ds = rs.map (fun r => .tup (r.map .int)) ∧ ∀ r ∈ rs, r ≠ []
  | [], rs, e => by cases e; exact ⟨rfl, fun r hr => by cases hr⟩
  | d :: ds, rs, e => by
    cases d with
    | tup es =>
      have e : (intsL es).bind (fun x => if x.isEmpty = true then none else (rowsOf ds).map fun xs => x :: xs) = some rs := e
      cases h : intsL es with
      | none => rw [h] at e; cases e
      | some x =>
        rw [h] at e
        simp only [Option.bind_some] at e
        by_cases hx : x.isEmpty = true
        · rw [if_pos hx] at e; cases e
        · rw [if_neg hx] at e
          cases h2 : rowsOf ds with
          | none => rw [h2] at e; cases e
          | some xs =>
            rw [h2] at e
            cases e
            obtain ⟨i1, i2⟩ := rowsOf_eq h2
            refine ⟨by rw [intsL_eq h, i1]; rfl, fun r hr => ?_⟩
            rcases List.mem_cons.mp hr with rfl | hr
            · intro z; rw [z] at hx; exact hx rfl
            · exact i2 r hr
    | _ => cases e
section
variable {K : RC} {fr : Fr} {ρ : DL.Env} {σ : L2.St} {H : Hp}
theorem Sim.pushGL {H0 : Hp} : ∀ {ds : List D} {vs : List V}, RepL K (VF fr) H0 ds vs [] → Sim K fr ρ σ H → Sim K fr (ds.map some ++ ρ) (vs.map some ++ σ) H
  | [], vs, r, S => by rw [r.1]; exact S
  | d :: ds, vs, r, S => by
    obtain ⟨v, ws, B, C, rfl, e2, r1, r2⟩ := r
    obtain ⟨rfl, rfl⟩ := List.append_eq_nil_iff.mp e2.symm
    exact (Sim.pushGL r2 S).pushG r1
def unV : List V → List Int
  | .int i :: r => i :: unV r
  | _ => []
theorem unV_ints : ∀ r : List Int, unV (r.map V.int) = r
  | [] => rfl
  | i :: r => by show i :: unV (r.map V.int) = _; rw [unV_ints r]
/-- the ints of a tuple -/
def kOf (H : Hp) : V → List Int
  | .ref t => match H t with
    | some (.tup us) => unV us
    | _ => []
  | _ => []
theorem rows_rep {F : Hp} (hF : ∀ a o, F a = some o → H a = some o) : ∀ {rs : List (List Int)} {vs : List V}, RepL K F H (rs.map fun r => .tup (r.map .int)) vs [] → vs.map (kOf H) = rs ∧ ∀ v ∈ vs, Rep K F H (.tup ((kOf H v).map .int)) v [] ∧ ∃ t, v = .ref t ∧ H t = some (.tup ((kOf H v).map V.int))
  | [], vs, r => by rw [r.1]; exact ⟨rfl, fun v hv => by cases hv⟩
  | x :: rs, vs, r => by
    obtain ⟨v, ws, B, C, rfl, e2, r1, r2⟩ := r
    obtain ⟨rfl, rfl⟩ := List.append_eq_nil_iff.mp e2.symm
    obtain ⟨i1, i2⟩ := rows_rep hF r2
    have r1' := r1
    obtain ⟨_, t, us, rfl, ht, ru⟩ := r1'
    have eu : us = x.map V.int := by
      have : ∀ (x : List Int) (us : List V) (B : List Addr), RepL K F H (x.map .int) us B → us = x.map V.int := by
        intro x
        induction x with
        | nil => intro us B q; exact q.1
        | cons i x ih =>
          intro us B q
          obtain ⟨v, ws, B1, C, rfl, _, q1, q2⟩ := q
          rw [q1.1, ih ws C q2]
          rfl
      exact this x us [] ru
    have hk : kOf H (.ref t) = x := by
      show (match H t with | some (.tup us) => unV us | _ => []) = x
      rw [hF _ _ ht, eu]
      exact unV_ints x
    refine ⟨by rw [List.map_cons, hk, i1], fun v hv => ?_⟩
    rcases List.mem_cons.mp hv with rfl | hv
    · rw [hk]
      exact ⟨r1, t, rfl, by rw [← eu]; exact hF _ _ ht⟩
    · exact i2 v hv
theorem rows_back {F H0 : Hp} : ∀ {ys : List V} {rs : List (List Int)} {k : V → List Int}, ys.map k = rs → (∀ v ∈ ys, Rep K F H0 (.tup ((k v).map .int)) v []) → RepL K F H0 (rs.map fun r => .tup (r.map .int)) ys []
  | [], rs, k, e, _ => by subst e; exact ⟨rfl, rfl⟩
  | v :: ys, rs, k, e, h => by
    subst e
    exact ⟨v, ys, [], [], rfl, rfl, h v List.mem_cons_self, rows_back rfl fun u hu => h u (List.mem_cons_of_mem _ hu)⟩
end
theorem cas_sortT {K : RC} : CaS K (rSortedTL K.K) sortTD := by
  intro fr ρ σ H ds vs d Q hl S e q
  have one : ∃ o es, ds = [.lst o es] := by
    unfold sortTD at e
    split at e
    · exact ⟨_, _, rfl⟩
    · cases e
  obtain ⟨o, es, rfl⟩ := one
  obtain ⟨v, rfl⟩ := one_of hl rfl
  have S : Sim K fr (some (.lst o es) :: ρ) (some v :: σ) H := S
  have e : (rowsOf (frzL es)).map (fun rs => D.lst true ((isortL rs).map fun r => .tup (r.map .int))) = some d := e
  · skip
    cases hr : rowsOf (frzL es) with
    | none => rw [hr] at e; cases e
    | some rs =>
      rw [hr] at e
      cases e
      obtain ⟨er, hne⟩ := rowsOf_eq hr
      obtain ⟨fr', S2, r, back⟩ := S.frz.holdF (fro_frz (.lst o es))
      obtain ⟨_, a, xs, rfl, hs, r⟩ := (show Rep K (VF fr') H (.lst false (frzL es)) v [] from r)
      rw [er] at r
      have hF : ∀ a o, VF fr' a = some o → H a = some o := S2.vfH
      obtain ⟨i1, i2⟩ := rows_rep hF r
      refine ⟨a, xs, kOf H, rfl, SqL.of (hF _ _ hs), fun x hx => ?_, fun ys p hsrt hperm hp => ?_⟩
      · obtain ⟨_, t, rfl, ht⟩ := i2 x hx
        refine ⟨t, rfl, SqT.of ht, hne _ ?_⟩
        rw [← i1]
        exact List.mem_map.mpr ⟨_, hx, rfl⟩
      · have ek : ys.map (kOf H) = isortL rs := by
          refine sorted_uniq (SrtO.srtd_map hsrt) (isortL_srt rs) ?_
          have h1 : (ys.map (kOf H)).Perm (xs.map (kOf H)) := hperm.map _
          rw [i1] at h1
          exact h1.trans (isortL_perm rs).symm
        have rb := rows_back (K := K) (F := VF fr') (H0 := H) ek (fun v hv => (i2 v (hperm.mem_iff.mp hv)).1)
        have S3 := Sim.pushGL rb S2
        exact q _ _ (back _ _ _ (S3.newL (by rw [← ek]; simp) hp))
section
variable {ι : Type} {X : ι → Cx} {K : RC} {W : WX} {k : Nat} {a : Expr} {g : M (List D)} {pos : Pos}
theorem ed_sortT {p : Pos} (c : CF X K W k) (hg : ∀ i, Gl (X i) "sorted") (hm : K.mg "sorted" = none) (ha : AM X K W [a] g []) (he : ∀ i, starEach [a] (X i).env = (false, eval a (X i).env) :: starEach [] (X i).env := by intro _; rfl) (hpl : ∀ i, (backTo pos (starEach [] (X i).env)).any (·.1) = false := by intro _; rfl) :
    ED X K W (.Call (.Name "sorted" p) [a] [] pos) (eBi sortTD g) := ed_bi (r := rSortedTL K.K) c (fun i => by rw [← c.kk i]; exact cr_sortedTL) cas_sortT hg hm (by decide +kernel) ha (by decide) (by decide) he hpl
end
end DL

set_option Elab.async false
set_option linter.all false
set_option maxRecDepth 100000
set_option maxHeartbeats 4000000
namespace DL
open PySem PySem.Spec L2
/-! ### for k in d: d a dict of one's own with tuple keys, locked meanwhile -/
mutual
/-- no frozen dict with tuple keys -/
def ndt : D → Bool
  | .dt o _ ds => o && ndtL ds
  | .dk _ _ ds => ndtL ds
  | .tup ds => ndtL ds
  | .lst _ ds => ndtL ds
  | .obj _ _ _ ds => ndtL ds
  | .non => true
  | .bl _ => true
  | .int _ => true
  | .str _ => true
  | .adr _ => true
  | .scr _ => true
def ndtL : List D → Bool
  | [] => true
  | d :: ds => ndt d && ndtL ds
end
def ndtE : DL.Env → Bool
  | [] => true
  | none :: ρ => ndtE ρ
  | some d :: ρ => ndt d && ndtE ρ
theorem ba2 {a b : Bool} (h : (a && b) = true) : a = true ∧ b = true := by cases a <;> cases b <;> first | exact ⟨rfl, rfl⟩ | cases h
section
variable {K : RC}
def NFT (o : HO) : Prop := ∀ od kvs, o ≠ .frz od (.dT kvs)
mutual
theorem Rep.unl {F F' H H' : Hp} (h : ∀ a o, F a = some o → NFT o → F' a = some o) : ∀ (d : D) (v : V) (A : List Addr), ndt d = true → (∀ a ∈ A, ∀ o, H a = some o → H' a = some o) → Rep K F H d v A → Rep K F' H' d v A
  | .non, v, A, _, _, r => r
  | .bl b, v, A, _, _, r => r
  | .int i, v, A, _, _, r => r
  | .str x, v, A, _, _, r => r
  | .adr a, v, A, _, _, r => r
  | .scr ns, v, A, _, _, r => by
    obtain ⟨rfl, a, rfl, s⟩ := r
    refine ⟨rfl, a, rfl, ?_⟩
    rcases s with (s | ⟨o, s⟩) | s
    · exact .inl (.inl (h _ _ s fun _ _ z => nomatch z))
    · exact .inl (.inr ⟨o, h _ _ s fun _ _ z => nomatch z⟩)
    · exact .inr s
  | .tup ds, v, A, n, k, r => by
    obtain ⟨rfl, a, xs, rfl, s, r⟩ := r
    exact ⟨rfl, a, xs, rfl, h _ _ s (fun _ _ z => nomatch z), RepL.unl h ds xs [] n (fun _ z => nomatch z) r⟩
  | .lst false ds, v, A, n, k, r => by
    obtain ⟨rfl, a, xs, rfl, s, r⟩ := r
    exact ⟨rfl, a, xs, rfl, h _ _ s (fun _ _ z => nomatch z), RepL.unl h ds xs [] n (fun _ z => nomatch z) r⟩
  | .lst true ds, v, A, n, k, r => by
    obtain ⟨a, xs, B, rfl, rfl, s, r⟩ := r
    exact ⟨a, xs, B, rfl, rfl, k a List.mem_cons_self _ s, RepL.unl h ds xs B n (fun b z => k b (List.mem_cons_of_mem _ z)) r⟩
  | .dk false ks ds, v, A, n, k, r => by
    obtain ⟨rfl, a, kvs, rfl, s, e, r⟩ := r
    exact ⟨rfl, a, kvs, rfl, h _ _ s (fun _ _ z => nomatch z), e, RepL.unl h ds _ [] n (fun _ z => nomatch z) r⟩
  | .dk true ks ds, v, A, n, k, r => by
    obtain ⟨a, kvs, B, rfl, rfl, s, e, r⟩ := r
    exact ⟨a, kvs, B, rfl, rfl, k a List.mem_cons_self _ s, e, RepL.unl h ds _ B n (fun b z => k b (List.mem_cons_of_mem _ z)) r⟩
  | .dt false ks ds, v, A, n, k, r => by cases n
  | .dt true ks ds, v, A, n, k, r => by
    obtain ⟨a, kvs, B, rfl, rfl, s, e, r⟩ := r
    exact ⟨a, kvs, B, rfl, rfl, k a List.mem_cons_self _ s, e, RepL.unl h ds _ B n (fun b z => k b (List.mem_cons_of_mem _ z)) r⟩
  | .obj false c ns ds, v, A, n, k, r => by
    obtain ⟨rfl, a, C, dx, fs, rfl, g, s, e, r⟩ := r
    exact ⟨rfl, a, C, dx, fs, rfl, g, h _ _ s (fun _ _ z => nomatch z), e, RepL.unl h ds _ [] n (fun _ z => nomatch z) r⟩
  | .obj true c ns ds, v, A, n, k, r => by
    obtain ⟨a, C, dx, fs, B, rfl, rfl, g, s, e, r⟩ := r
    exact ⟨a, C, dx, fs, B, rfl, rfl, g, k a List.mem_cons_self _ s, e, RepL.unl h ds _ B n (fun b z => k b (List.mem_cons_of_mem _ z)) r⟩
theorem RepL.unl {F F' H H' : Hp} (h : ∀ a o, F a = some o → NFT o → F' a = some o) : ∀ (ds : List D) (vs : List V) (A : List Addr), ndtL ds = true → (∀ a ∈ A, ∀ o, H a = some o → H' a = some o) → RepL K F H ds vs A → RepL K F' H' ds vs A
  | [], _, _, _, _, r => r
  | d :: ds, vs, A, n, k, r => by
    obtain ⟨v, ws, B, C, rfl, rfl, r1, r2⟩ := r
    have n := ba2 n
    exact ⟨v, ws, B, C, rfl, rfl, Rep.unl h d v B n.1 (fun a z => k a (List.mem_append_left _ z)) r1, RepL.unl h ds ws C n.2 (fun a z => k a (List.mem_append_right _ z)) r2⟩
end
theorem Sl.unl {F F' H H' : Hp} (h : ∀ a o, F a = some o → NFT o → F' a = some o) : ∀ {ρ : DL.Env} {σ : L2.St} {A : List Addr}, ndtE ρ = true → (∀ a ∈ A, ∀ o, H a = some o → H' a = some o) → Sl K F H ρ σ A → Sl K F' H' ρ σ A
  | [], _, _, _, _, r => r
  | none :: ρ, σ, A, n, k, r => by
    obtain ⟨s, τ, B, C, rfl, rfl, r1, r2⟩ := r
    exact ⟨s, τ, B, C, rfl, rfl, r1, Sl.unl h n (fun a z => k a (List.mem_append_right _ z)) r2⟩
  | some d :: ρ, σ, A, n, k, r => by
    obtain ⟨s, τ, B, C, rfl, rfl, ⟨v, e, r1⟩, r2⟩ := r
    have n := ba2 n
    exact ⟨s, τ, B, C, rfl, rfl, ⟨v, e, Rep.unl h d v B n.1 (fun a z => k a (List.mem_append_left _ z)) r1⟩, Sl.unl h n.2 (fun a z => k a (List.mem_append_right _ z)) r2⟩
theorem Sim.lockF {fr : Fr} {ρ : DL.Env} {σ : L2.St} {H : Hp} {ks : List (List Key)} {ds : List D} {w : V} (S : Sim K fr (some (.dt true ks ds) :: ρ) (some w :: σ) H) :
    ∃ p kvs, w = .ref p ∧ H p = some (.dT kvs) ∧ kvs.map Prod.fst = ks ∧ ∀ od, ∃ fr', Sim K fr' (some (.dt false ks (frzL ds)) :: ρ) (some (.ref p) :: σ) (upd H p (.frz od (.dT kvs))) ∧
      (∀ ρ' σ' H', Sim K fr' ρ' σ' H' → H' p = some (.frz od (.dT kvs))) ∧
      ∀ ρ' σ' H' ks' ds', Sim K fr' (some (.dt false ks' ds') :: ρ') (some (.ref p) :: σ') H' → ndtE ρ' = true → ndtL ds' = true → Sim K fr (some (.dt true ks' ds') :: ρ') (some (.ref p) :: σ') (upd H' p (.dT kvs)) := by
  obtain ⟨A, S⟩ := S
  obtain ⟨s1, τ1, B1, C, e1, rfl, ⟨v1, ev, r1⟩, r4⟩ := S.sl
  injection e1 with e1 e2
  subst e1 e2
  cases ev
  obtain ⟨p, kvs, B, rfl, rfl, hx, rfl, rr1⟩ := r1
  refine ⟨p, kvs, rfl, hx, rfl, fun od => ?_⟩
  have nd0 : (p :: (B ++ C)).Nodup := S.nd
  have nd1 := (List.nodup_cons.mp nd0).2
  have pn := (List.nodup_cons.mp nd0).1
  have pC : p ∉ C := fun z => pn (List.mem_append_right _ z)
  have pA : p ∈ p :: B ++ C := List.mem_append_left _ List.mem_cons_self
  have pN : p ∉ fr.N := (S.off p pA).1
  have inA : ∀ a, a ∈ C → a ∈ p :: B ++ C := fun a z => List.mem_append_right _ z
  have inB : ∀ a, a ∈ B → a ∈ p :: B ++ C := fun a z => List.mem_append_left _ (List.mem_cons_of_mem _ z)
  have kp : ∀ a o, a ≠ p → H a = some o → upd H p (.frz od (.dT kvs)) a = some o := fun a o n e => by rw [upd_ne n]; exact e
  have kpA : ∀ a o, a ∉ p :: B ++ C → H a = some o → upd H p (.frz od (.dT kvs)) a = some o := fun a o n e => kp a o (fun z => n (by rw [z]; exact pA)) e
  have f := S.fro (A' := C) (fun a z => .inl (inA a z)) (H' := upd H p (.frz od (.dT kvs))) kpA
  have vis : ∀ a ∈ B, ∀ o, H a = some o → hid (C ++ fr.N) (upd H p (.frz od (.dT kvs))) a = some o := fun a z o e => by
    have hne : a ≠ p := fun q => pn (by rw [← q]; exact List.mem_append_left _ z)
    refine hid_some.mpr ⟨fun q => ?_, kp a o hne e⟩
    rcases List.mem_append.mp q with q | q
    · exact (List.nodup_append.mp nd1).2.2 a z a q rfl
    · exact (S.off a (inB a z)).1 q
  have rds : RepL K (hid (C ++ fr.N) (upd H p (.frz od (.dT kvs)))) H (frzL ds) (kvs.map Prod.snd) [] := RepL.frz f ds (kvs.map Prod.snd) B (fun a z o e => vis a z o e) rr1
  have ndC : C.Nodup := (List.nodup_append.mp nd1).2.1
  have frG : ∀ a o, fr.G a = some o → a ∉ p :: B ++ C := fun a o e z => by rw [(S.off a z).2] at e; cases e
  refine ⟨⟨hid C (upd H p (.frz od (.dT kvs))), fr.N⟩, ⟨C, ⟨some (.ref p), _, [], C, rfl, rfl, ⟨.ref p, rfl, rfl, p, kvs, rfl, .inr ⟨od, hid_some.mpr ⟨fun z => ?_, upd_same⟩⟩, rfl, RepL.mono (fun _ _ e => e) _ _ _ (fun _ z => nomatch z) rds⟩, r4.mono f fun a z o e => kp a o (fun q => pC (by rw [← q]; exact z)) e⟩, ndC, fun a z => ⟨(S.off a (inA a z)).1, ?_⟩, fun a o e => (hid_some.mp e).2, fun a z => ?_⟩, ?_, ?_⟩
  · rcases List.mem_append.mp z with z | z
    · exact pC z
    · exact pN z
  · show hid C _ a = none
    unfold hid
    rw [if_pos z]
  · obtain ⟨o, e, nt⟩ := S.tr a z
    have hA := frG a o e
    exact ⟨o, hid_some.mpr ⟨fun w => hA (inA a w), kpA a o hA (S.keep a o e)⟩, nt⟩
  · rintro ρ' σ' H' ⟨A', U⟩
    exact U.keep p _ (hid_some.mpr ⟨pC, upd_same⟩)
  · rintro ρ' σ' H' ks' ds' ⟨A', U⟩ n1 n2
    have hp : H' p = some (.frz od (.dT kvs)) := U.keep p _ (hid_some.mpr ⟨pC, upd_same⟩)
    obtain ⟨s2, τ2, B2, C2, e3, rfl, ⟨v2, ev, q1⟩, q2⟩ := U.sl
    injection e3 with e3 e4
    subst e3 e4
    cases ev
    obtain ⟨rfl, a, kvs2, ea, hr, rfl, q1⟩ := q1
    cases ea
    have ek : kvs2 = kvs := by
      rcases hr with hr | ⟨o, hr⟩
      · rw [(hid_some.mp hr).2] at hp; cases hp
      · rw [(hid_some.mp hr).2] at hp; cases hp; rfl
    subst ek
    have pA' : p ∉ C2 := fun z => by
      have this : hid C (upd H p (.frz od (.dT kvs2))) p = none := (U.off p (by simpa using z)).2
      rw [show hid C (upd H p (.frz od (.dT kvs2))) p = some _ from hid_some.mpr ⟨pC, upd_same⟩] at this
      cases this
    have kp' : ∀ a o, a ≠ p → H' a = some o → upd H' p (.dT kvs2) a = some o := fun a o n e => by rw [upd_ne n]; exact e
    have f' : ∀ a o, hid ([] ++ C2 ++ fr.N) H' a = some o → NFT o → hid (p :: C2 ++ fr.N) (upd H' p (.dT kvs2)) a = some o := fun a o e n => by
      obtain ⟨h1, h2⟩ := hid_some.mp e
      have hne : a ≠ p := fun q => by rw [q, hp] at h2; cases h2; exact n _ _ rfl
      refine hid_some.mpr ⟨fun z => ?_, kp' a o hne h2⟩
      rcases List.mem_append.mp z with z | z
      · rcases List.mem_cons.mp z with z | z
        · exact hne z
        · exact h1 (List.mem_append_left _ (by simpa using z))
      · exact h1 (List.mem_append_right _ z)
    refine ⟨p :: C2, ⟨some (.ref p), _, [p], C2, rfl, rfl, ⟨.ref p, rfl, p, kvs2, [], rfl, rfl, upd_same, rfl, RepL.unl f' _ _ _ n2 (fun _ z => nomatch z) q1⟩, Sl.unl f' n1 (fun a z o e => kp' a o (fun q => pA' (by rw [← q]; exact z)) e) q2⟩, List.nodup_cons.mpr ⟨pA', by simpa using U.nd⟩, fun a z => ?_, fun a o e => ?_, S.tr⟩
    · rcases List.mem_cons.mp z with z | z
      · rw [z]; exact S.off p pA
      · have u := U.off a (by simpa using z)
        refine ⟨u.1, ?_⟩
        cases g : fr.G a with
        | none => rfl
        | some o =>
          have hA := frG a o g
          have q : hid C (upd H p (.frz od (.dT kvs2))) a = none := u.2
          rw [show hid C (upd H p (.frz od (.dT kvs2))) a = some o from hid_some.mpr ⟨fun w => hA (inA a w), kpA a o hA (S.keep a o g)⟩] at q
          cases q
    · have hA := frG a o e
      have hne : a ≠ p := fun q => hA (by rw [q]; exact pA)
      exact kp' a o hne (U.keep a o (hid_some.mpr ⟨fun w => hA (inA a w), kpA a o hA (S.keep a o e)⟩))
/-- a tuple that stands in the heap, of numbers and texts -/
def kD : Key → D
  | .inl i => .int i
  | .inr x => .str x
theorem kD_rep {F H : Hp} : ∀ (k : List Key), RepL K F H (k.map kD) (k.map kV) []
  | [] => ⟨rfl, rfl⟩
  | .inl i :: k => ⟨.int i, _, [], [], rfl, rfl, ⟨rfl, rfl⟩, kD_rep k⟩
  | .inr x :: k => ⟨.str x, _, [], [], rfl, rfl, ⟨rfl, rfl⟩, kD_rep k⟩
theorem Sim.pushK {fr : Fr} {ρ : DL.Env} {σ : L2.St} {H : Hp} (S : Sim K fr ρ σ H) {q : Addr} {k : List Key} (h : H q = some (.tup (k.map kV))) : Sim K fr (some (.tup (k.map kD)) :: ρ) (some (.ref q) :: σ) H := by
  obtain ⟨A, S⟩ := S
  have nq : q ∉ A ++ fr.N := fun z => by
    rcases List.mem_append.mp z with z | z
    · obtain ⟨o, e, n⟩ := S.sl.trN q z
      rw [h] at e
      cases e
      exact n _ rfl
    · obtain ⟨o, e, n⟩ := S.tr q z
      have e := S.keep q o e
      rw [h] at e
      cases e
      exact n _ rfl
  exact ⟨A, ⟨some (.ref q), σ, [], A, rfl, rfl, ⟨.ref q, rfl, rfl, q, k.map kV, rfl, hid_some.mpr ⟨nq, h⟩, kD_rep k⟩, S.sl⟩, S.nd, S.off, S.keep, S.tr⟩
end
def keyD (k : List Key) : D := .tup (k.map kD)
/-- behind it the slots js are forgotten -/
def sForK (i : Nat) (js : List Nat) (g : D → Env → Option Env) (b : SF) : SF := fun ρ => match ρ[i]? with
  | some (some (.dt true ks ds)) => match forGo g b (ks.map keyD) (ρ.set i (some (.dt false ks (frzL ds)))) with
    | .nx ρ' => match (wipeE ρ' js)[i]? with
      | some (some (.dt false ks' ds')) => if (ndtE ((wipeE ρ' js).set i none) && ndtL ds') = true then .nx ((wipeE ρ' js).set i (some (.dt true ks' ds'))) else .stuck
      | _ => .stuck
    | _ => .stuck
  | _ => .stuck
section
variable {ι : Type} {X : ι → Cx} {K : RC} {W : WX} {pr : List Nat} {F G : SF} {pos : Pos}
theorem Sim.wipe0 {fr : Fr} {ρ : DL.Env} {σ : L2.St} {H : Hp} (S : Sim K fr ρ σ H) : ∀ js : List Nat, Sim K fr (wipeE ρ js) σ H
  | [] => S
  | j :: js => (Sim.wipe0 S js).clear0
theorem sd_forK (i : Nat) (js : List Nat) {x : Str} {p0 : Pos} {tg : Expr} {body : List Stmt} {g : D → Env → Option Env} (h : ∀ j, PE (X j) (.Name x p0) (tVar i)) (hp : ∀ i, PassesOwn (model (X i).prog (X i).w) (X i).A (X i).env (X i).xe) (hc : ∀ i, (X i).calm = true) (hg : GD X K (i :: pr) tg g) (hb : SDs X K W (i :: pr) body F)
    (hs : ∀ j x', foldedSetIterable (.Name x p0) (X j).env x' = pure x' := by intro _ _; rfl) : SD X K W pr (.For tg (.Name x p0) body [] pos) (sForK i js g F) := by
  obtain ⟨u, p2, s2⟩ := hg.ex
  obtain ⟨t, p, s⟩ := hb.ex
  refine ⟨tLock (tFor (iKeys (tVar i)) u t), (fun j => ps_lock (ps_for (hp j) (hc j) (pi_keys (h j)) (p2 j) (p j) (hs j))), fun fr ρ σ H Dn S q => ?_⟩
  unfold sForK at q
  split at q
  rotate_left
  · exact q.elim
  rename_i ks ds e0
  obtain ⟨w, hw, S1⟩ := S.move e0
  obtain ⟨a, kvs, rfl, ha, hk, lk⟩ := S1.lockF
  refine ⟨a, .dT kvs, ha, True.intro, fun od => ?_⟩
  obtain ⟨fr', S2, hfz, unl⟩ := lk od
  have S3 := S2.back hw
  rw [set_set_] at S3
  have hl : (ks.map keyD).length = kvs.length := by rw [← hk, List.length_map, List.length_map]
  let Dn' : Ends := ⟨fun σ' H' => H' a = some (.frz od (.dT kvs)) ∧ Dn.nx σ' (upd H' a (.dT kvs)), fun v H' => H' a = some (.frz od (.dT kvs)) ∧ Dn.rt v (upd H' a (.dT kvs)), fun σ' H' => H' a = some (.frz od (.dT kvs)) ∧ Dn.bk σ' (upd H' a (.dT kvs)), fun σ' H' => H' a = some (.frz od (.dT kvs)) ∧ Dn.ct σ' (upd H' a (.dT kvs))⟩
  show tFor (iKeys (tVar i)) u t Dn' σ _
  have q' : QS K W (i :: pr) fr' σ (forGo g F (ks.map keyD) (ρ.set i (some (.dt false ks (frzL ds))))) Dn' := by
    split at q
    rotate_left
    · exact q.elim
    rename_i ρ' er
    rw [er]
    split at q
    rotate_left
    · exact q.elim
    rename_i ks' ds' e1
    by_cases hn : (ndtE ((wipeE ρ' js).set i none) && ndtL ds') = true
    · rw [if_pos hn] at q
      obtain ⟨n1, n2⟩ := ba2 hn
      intro σ' H' k' S'
      obtain ⟨w', hw', S4⟩ := (S'.wipe0 js).move e1
      have hi : σ'[i]? = σ[i]? := k' i List.mem_cons_self
      rw [hi, hw] at hw'
      cases hw'
      have S5 := (unl _ _ _ _ _ S4 n1 n2).back (hi.trans hw)
      rw [set_set_] at S5
      exact ⟨hfz _ _ _ S', q σ' _ (fun j hj => k' j (List.mem_cons_of_mem _ hj)) S5⟩
    · rw [if_neg hn] at q
      exact q.elim
  refine ⟨.ref a, hw, a, od, rfl, .inr ⟨kvs, upd_same, ?_⟩⟩
  refine ⟨fun j m σ2 H2 => ∃ ρ2, j + m = kvs.length ∧ Sim K fr' ρ2 σ2 H2 ∧ QS K W (i :: pr) fr' σ2 (forGo g F ((ks.map keyD).drop j) ρ2) Dn', ⟨kvs.length, _, by omega, S3, q'⟩, ?_⟩
  rintro j m σ2 H2 ⟨ρ2, hm, S2, q2⟩
  by_cases hlt : j < kvs.length
  · refine .inr ⟨⟨hfz _ _ _ S2, hlt⟩, fun σ' H' => ∃ ρ', j + 1 + (m - 1) = kvs.length ∧ Sim K fr' ρ' σ' H' ∧ QS K W (i :: pr) fr' σ' (forGo g F ((ks.map keyD).drop (j + 1)) ρ') Dn', fun σ' H' h => ⟨m - 1, by omega, h⟩, fun x H' hy => ?_⟩
    obtain ⟨rfl, k, v, qa, hkv, rfl, hq⟩ := hy
    have hd : (ks.map keyD)[j]? = some (keyD k) := by
      rw [← hk, List.getElem?_map, List.getElem?_map, hkv]
      rfl
    have S3 := S2.pushK hq
    rw [drop_get hd] at q2
    unfold forGo at q2
    cases e1 : g (keyD k) ρ2 with
    | none => rw [e1] at q2; exact q2.elim
    | some ρ3 =>
      rw [e1] at q2
      refine s2 fr' ρ2 σ2 H' (keyD k) (.ref qa) ρ3 _ S3 e1 fun σ4 H4 k4 S4 => ?_
      refine s fr' ρ3 σ4 H4 _ S4 ?_
      simp only at q2
      cases e2 : F ρ3 with
      | nx ρ5 =>
        rw [e2] at q2
        exact fun σ5 H5 k5 S5 => ⟨ρ5, by omega, S5, QS.from (k4.trans k5) q2⟩
      | cnt ρ5 =>
        rw [e2] at q2
        exact fun σ5 H5 k5 S5 => ⟨ρ5, by omega, S5, QS.from (k4.trans k5) q2⟩
      | brk ρ5 => rw [e2] at q2; exact fun σ5 H5 k5 S5 => q2 σ5 H5 (k4.trans k5) S5
      | ret d ρ5 => rw [e2] at q2; exact fun v σ5 H5 k5 S5 => q2 v σ5 H5 (k4.trans k5) S5
      | exc x y z => rw [e2] at q2; exact fun cls dd σ5 H5 k5 xx S5 => q2 cls dd σ5 H5 (k4.trans k5) xx S5
      | stuck => rw [e2] at q2; exact q2.elim
  · refine .inl ⟨⟨hfz _ _ _ S2, by omega⟩, ?_⟩
    rw [List.drop_eq_nil_of_le (by omega)] at q2
    exact q2 σ2 H2 .refl S2
end
section
variable {ρ ρ' : DL.Env} {i : Nat} {g : D → Env → Option Env} {b : SF} {ks ks' : List (List Key)} {ds ds' : List D}
theorem forK_ok {js : List Nat} (h1 : ρ[i]? = some (some (.dt true ks ds))) (h2 : forGo g b (ks.map keyD) (ρ.set i (some (.dt false ks (frzL ds)))) = .nx ρ') (h3 : (wipeE ρ' js)[i]? = some (some (.dt false ks' ds'))) (h4 : ndtE ((wipeE ρ' js).set i none) = true) (h5 : ndtL ds' = true) : sForK i js g b ρ = .nx ((wipeE ρ' js).set i (some (.dt true ks' ds'))) := by
  unfold sForK
  simp only [h1, h2, h3, h4, h5, Bool.and_self, if_true]
end
end DL

set_option Elab.async false
set_option linter.all false
set_option maxRecDepth 100000
set_option maxHeartbeats 4000000
namespace DL
open PySem PySem.Spec L2
/-! ## typed readings: results -/
inductive Ex (α : Type) where
  | ok (a : α)
  | exc (c : Str) (fs : List (Str × D))
  | stuck
namespace Ex
variable {α β S : Type}
def bind (o : Ex α) (k : α → Ex β) : Ex β := match o with
  | ok a => k a
  | exc c fs => exc c fs
  | stuck => stuck
def st (o : Ex α) (s : S) : Ex (α × S) := o.bind fun a => ok (a, s)
def of : Option α → Ex α
  | some a => ok a
  | none => stuck
def noX : Ex α → Ex α
  | exc _ _ => stuck
  | o => o
end Ex
inductive O (τ σ α : Type) where
  | nx (x : σ)
  | ret (a : α)
  | brk (y : τ)
  | cnt (y : τ)
  | exc (c : Str) (fs : List (Str × D))
  | stuck
def Ex.to {τ σ α β : Type} (o : Ex β) (k : β → O τ σ α) : O τ σ α := match o with
  | .ok b => k b
  | .exc c fs => .exc c fs
  | .stuck => .stuck
namespace O
variable {τ σ σ' α β : Type}
def bind (o : O τ σ α) (k : σ → O τ σ' α) : O τ σ' α := match o with
  | nx x => k x
  | ret a => ret a
  | brk y => brk y
  | cnt y => cnt y
  | exc c fs => exc c fs
  | stuck => stuck
def fin (o : O τ σ α) (k : σ → Ex α) : Ex α := match o with
  | nx x => k x
  | ret a => .ok a
  | exc c fs => .exc c fs
  | _ => .stuck
end O
/-- a loop -/
def forO {τ σ α β : Type} (k : β → σ → O σ σ α) : List β → σ → O τ σ α
  | [], x => .nx x
  | b :: bs, x => match k b x with
    | .nx y => forO k bs y
    | .cnt y => forO k bs y
    | .brk y => .nx y
    | .ret a => .ret a
    | .exc c fs => .exc c fs
    | .stuck => .stuck
def lcT {β γ : Type} (ot : β → Ex Bool) (oe : β → Ex γ) : List β → Ex (List γ)
  | [] => .ok []
  | b :: bs => (ot b).bind fun c => if c = true then (oe b).bind fun y => (lcT ot oe bs).bind fun ys => .ok (y :: ys) else lcT ot oe bs
/-- a comprehension -/
def lcX {β γ : Type} (ot : β → Ex Bool) (oe : β → Ex γ) (xs : List β) : Ex (List γ) := if xs.length < sizeLine then (lcT ot oe xs).noX else .stuck
def lcM {β γ : Type} (oe : β → Ex γ) (xs : List β) : Ex (List γ) := lcX (fun _ => .ok true) oe xs
def lcS_ {β γ S : Type} (ot : β → S → Ex (Bool × S)) (oe : β → S → Ex (γ × S)) : List β → S → Ex (List γ × S)
  | [], s => .ok ([], s)
  | b :: bs, s => (ot b s).bind fun p => if p.1 = true then (oe b p.2).bind fun q => (lcS_ ot oe bs q.2).bind fun r => .ok (q.1 :: r.1, r.2) else lcS_ ot oe bs p.2
def lcS {β γ S : Type} (ot : β → S → Ex (Bool × S)) (oe : β → S → Ex (γ × S)) (xs : List β) (s : S) : Ex (List γ × S) := if xs.length < sizeLine then (lcS_ ot oe xs s).noX else .stuck
/-! ## what is known of the slots -/
def Le (κ ρ : Env) : Prop := κ.length = ρ.length ∧ ∀ (i : Nat) (d : D), κ[i]? = some (some d) → ρ[i]? = some (some d)
section
variable {κ κ1 κ2 ρ ρ1 : Env} {i : Nat} {d d2 : D} {x y : Option D}
theorem Le.refl : Le κ κ := ⟨rfl, fun _ _ h => h⟩
theorem Le.trans (h : Le κ κ1) (h1 : Le κ1 κ2) : Le κ κ2 := ⟨h.1.trans h1.1, fun i d e => h1.2 i d (h.2 i d e)⟩
theorem Le.get (h : Le κ ρ) (e : κ[i]? = some (some d)) : ρ[i]? = some (some d) := h.2 i d e
theorem Le.set (h : Le κ ρ) : Le (κ.set i x) (ρ.set i x) := ⟨by rw [List.length_set, List.length_set, h.1], fun j d e => by
  rw [List.getElem?_set] at e ⊢
  split at e
  · rename_i c
    subst c
    rw [if_pos rfl]
    split at e
    · rename_i c
      rw [if_pos (by rw [← h.1]; exact c)]
      exact e
    · cases e
  · rename_i c
    rw [if_neg c]
    exact h.2 j d e⟩
theorem Le.setN (h : Le κ ρ) : Le (κ.set i none) (ρ.set i y) := ⟨by rw [List.length_set, List.length_set, h.1], fun j d e => by
  rw [List.getElem?_set] at e ⊢
  split at e
  · split at e <;> cases e
  · rename_i c
    rw [if_neg c]
    exact h.2 j d e⟩
theorem Le.out (h : Le κ ρ) : Le (κ.set i none) ρ := ⟨by rw [List.length_set, h.1], fun j d e => by
  rw [List.getElem?_set] at e
  split at e
  · split at e <;> cases e
  · exact h.2 j d e⟩
theorem le_0 : Le [] [] := .refl
theorem le_n (h : Le κ ρ) : Le (none :: κ) (x :: ρ) := ⟨by simp [h.1], fun j d e => by
  cases j with
  | zero => cases e
  | succ j => exact h.2 j d e⟩
theorem le_k (h : Le κ ρ) : Le (x :: κ) (x :: ρ) := ⟨by simp [h.1], fun j d e => by
  cases j with
  | zero => exact e
  | succ j => exact h.2 j d e⟩
/-- under a borrow -/
def LeF (κ ρ : Env) : Prop := Le κ (ρ.map (Option.map frz))
theorem lf_0 : LeF [] [] := .refl
theorem lf_n (h : LeF κ ρ) : LeF (none :: κ) (x :: ρ) := le_n h
theorem lf_k (e : frz d = d2) (h : LeF κ ρ) : LeF (some d2 :: κ) (some d :: ρ) := by subst e; exact le_k (x := some (frz d)) h
theorem Le.frz (h : Le κ ρ) : Le (κ.map (Option.map DL.frz)) (ρ.map (Option.map DL.frz)) := ⟨by simp [h.1], fun j d e => by
  rw [List.getElem?_map] at e ⊢
  cases c : κ[j]? with
  | none => rw [c] at e; cases e
  | some z => cases z with
    | none => rw [c] at e; cases e
    | some z => rw [h.2 j z c]; rw [c] at e; exact e⟩
theorem Le.wipe (h : Le κ ρ) : ∀ vs : List Nat, Le (wipeE κ vs) (wipeE ρ vs)
  | [] => h
  | v :: vs => (Le.wipe h vs).setN
theorem Le.restore : ∀ (rs : List (Nat × Nat)) (os : Env) {ρ : Env}, (∀ p ∈ rs, κ[p.2]? = some none) → Le κ ρ → Le κ (DL.restore rs os ρ)
  | [], os, ρ, _, h => h
  | (j, i) :: rs, os, ρ, hn, h => by
    have h2 : ∀ p ∈ rs, κ[p.2]? = some none := fun p hp => hn p (List.mem_cons_of_mem _ hp)
    unfold DL.restore
    split
    · refine Le.restore rs _ h2 ?_
      have e : κ.set i none = κ := by
        refine List.ext_getElem? fun k => ?_
        rw [List.getElem?_set]
        split
        · rename_i c; subst c
          have := hn (j, i) List.mem_cons_self
          dsimp only at this
          rw [this]
          have := (List.getElem?_eq_some_iff.mp this).1
          rw [if_pos this]
        · rfl
      rw [← e]
      exact h.setN
    · exact Le.restore rs os h2 h
end
/-! ## judgements -/
section
variable {X α β γ σ σ' τ S : Type}
abbrev RG (κ' : α → Env) (κx : Env) (e : α → X) (r : Res X) (o : Ex α) : Prop := match o with
  | .ok b => ∃ ρ', r = .ok (e b) ρ' ∧ Le (κ' b) ρ'
  | .exc c fs => ∃ ρ', r = .exc c fs ρ' ∧ Le κx ρ'
  | .stuck => True
/-- an expression; the slots known ahead, at an error, behind (they may hang on the value) -/
structure EG (κ κx : Env) (f : M X) (e : α → X) (κ' : α → Env) (o : Ex α) : Prop where
  h : ∀ ρ, Le κ ρ → RG κ' κx e (f ρ) o
abbrev EK (κ κ2 κx : Env) (f : M X) (e : α → X) (o : Ex α) : Prop := EG κ κx f e (fun _ => κ2) o
abbrev EJ (κ : Env) (f : M X) (e : α → X) (o : Ex α) : Prop := EK κ κ κ f e o
/-- one that changes a state -/
def GJ (κ : S → Env) (κx : Env) (f : M X) (e : α → X) (o : S → Ex (α × S)) : Prop := ∀ s ρ, Le (κ s) ρ → match o s with
  | .ok p => ∃ ρ', f ρ = .ok (e p.1) ρ' ∧ Le (κ p.2) ρ'
  | .exc c fs => ∃ ρ', f ρ = .exc c fs ρ' ∧ Le κx ρ'
  | .stuck => True
structure Cz (τ α : Type) where
  b : τ → Env
  e : α → D
  r : α → Env
  x : Env
/-- a statement -/
abbrev RJ (C : Cz τ α) (κ' : σ → Env) (r : RS) (o : O τ σ α) : Prop := match o with
  | .nx x => ∃ ρ', r = .nx ρ' ∧ Le (κ' x) ρ'
  | .ret a => ∃ ρ', r = .ret (C.e a) ρ' ∧ Le (C.r a) ρ'
  | .brk y => ∃ ρ', r = .brk ρ' ∧ Le (C.b y) ρ'
  | .cnt y => ∃ ρ', r = .cnt ρ' ∧ Le (C.b y) ρ'
  | .exc c fs => ∃ ρ', r = .exc c fs ρ' ∧ Le C.x ρ'
  | .stuck => True
structure SJ (C : Cz τ α) (κ : Env) (s : SF) (κ' : σ → Env) (o : O τ σ α) : Prop where
  h : ∀ ρ, Le κ ρ → RJ C κ' (s ρ) o
/-- a def -/
abbrev RF (r : Res D) (e : β → D) (eo : β → Env) (o : Ex β) : Prop := match o with
  | .ok b => r = .ok (e b) (eo b)
  | .exc c fs => ∃ os, r = .exc c fs os
  | .stuck => True
structure FT (F : List D → Res D) (ds : List D) (e : β → D) (eo : β → Env) (o : Ex β) : Prop where
  h : RF (F ds) e eo o
def Op (r : Option D) (e : α → D) (o : Ex α) : Prop := match o with
  | .ok a => r = some (e a)
  | .exc _ _ => False
  | .stuck => True
def OpX (r : Option X) (e : α → X) (o : Ex α) : Prop := match o with
  | .ok a => r = some (e a)
  | .exc _ _ => False
  | .stuck => True
theorem EK.conv {κ κ2 κx : Env} {f : M X} {e : α → X} {o o' : Ex α} (h : EK κ κ2 κx f e o) (he : o = o') : EK κ κ2 κx f e o' := he ▸ h
theorem EK.enc {κ κ2 κx : Env} {f : M X} {e e' : α → X} {o : Ex α} (h : EK κ κ2 κx f e o) (he : ∀ a, e a = e' a) : EK κ κ2 κx f e' o := (funext he : e = e') ▸ h
theorem SJ.conv {C : Cz τ α} {κ : Env} {s : SF} {κ' : σ → Env} {o o' : O τ σ α} (h : SJ C κ s κ' o) (he : o = o') : SJ C κ s κ' o' := he ▸ h
end
/-! ## encodings -/
class Fz {α : Type} (e : α → D) : Prop where
  z : ∀ a, frz (e a) = e a
  o : ∀ a, fro (e a) = true
instance : Fz D.int := ⟨fun _ => rfl, fun _ => rfl⟩
instance : Fz D.bl := ⟨fun _ => rfl, fun _ => rfl⟩
instance : Fz D.str := ⟨fun _ => rfl, fun _ => rfl⟩
def eN : Unit → D := fun _ => .non
instance : Fz eN := ⟨fun _ => rfl, fun _ => rfl⟩
def eX : List Int → D := D.scr
instance : Fz eX := ⟨fun _ => rfl, fun _ => rfl⟩
section
variable {α β γ δ : Type}
def eT (f : α → D) (xs : List α) : D := .tup (xs.map f)
def eL (f : α → D) (xs : List α) : D := .lst false (xs.map f)
def eO (f : α → D) (xs : List α) : D := .lst true (xs.map f)
def e2P (f : α → D) (g : β → D) (p : α × β) : D := .tup [f p.1, g p.2]
def e3P (f : α → D) (g : β → D) (h : γ → D) (p : α × β × γ) : D := .tup [f p.1, g p.2.1, h p.2.2]
/-- none or a thing -/
def eOp (f : α → D) : Option α → D
  | none => .non
  | some a => f a
theorem frzL_map {f : α → D} [Fz f] : ∀ xs : List α, frzL (xs.map f) = xs.map f
  | [] => rfl
  | x :: xs => by show frz (f x) :: frzL (xs.map f) = _; rw [frzL_map xs, Fz.z]; rfl
instance {f : α → D} : Fz (eT f) := ⟨fun _ => rfl, fun _ => rfl⟩
instance {f : α → D} [Fz f] : Fz (eL f) := ⟨fun a => by show D.lst false (frzL (a.map f)) = _; rw [frzL_map]; rfl, fun _ => rfl⟩
instance {f : α → D} {g : β → D} : Fz (e2P f g) := ⟨fun _ => rfl, fun _ => rfl⟩
instance {f : α → D} {g : β → D} {h : γ → D} : Fz (e3P f g h) := ⟨fun _ => rfl, fun _ => rfl⟩
instance {f : α → D} [Fz f] : Fz (eOp f) := ⟨fun a => by cases a with | none => rfl | some a => exact Fz.z a, fun a => by cases a with | none => rfl | some a => exact Fz.o a⟩
/-- frozen, it is the other -/
class Frz {α : Type} (e : α → D) (e' : outParam (α → D)) : Prop where
  z : ∀ a, frz (e a) = e' a
instance (priority := 2000) {f : α → D} [Fz f] : Frz (eO f) (eL f) := ⟨fun a => by show D.lst false (frzL (a.map f)) = _; rw [frzL_map]; rfl⟩
instance (priority := 100) {f : α → D} [Fz f] : Frz f f := ⟨Fz.z⟩
/-- sequences -/
class Sq {α : Type} (e : List α → D) (f : outParam (α → D)) : Prop where
  x : ∀ xs i, ixD (e xs) (.int i) = atI (xs.map f) i
  s : ∀ xs, seqOf (e xs) = some (xs.map f)
  i : ∀ xs, items (e xs) = some (xs.map f)
  n : ∀ xs, lenD [e xs] = some (.int (xs.length : Nat))
instance {f : α → D} : Sq (eT f) f := ⟨fun xs i => rfl, fun xs => rfl, fun xs => rfl, fun xs => by show some (D.int ((xs.map f).length : Nat)) = _; rw [List.length_map]⟩
instance {f : α → D} [Fz f] : Sq (eL f) f := ⟨fun xs i => rfl, fun xs => by show some (frzL (xs.map f)) = _; rw [frzL_map], fun xs => rfl, fun xs => by show some (D.int ((xs.map f).length : Nat)) = _; rw [List.length_map]⟩
instance {f : α → D} [Fz f] : Sq (eO f) f := ⟨fun xs i => rfl, fun xs => by show some (frzL (xs.map f)) = _; rw [frzL_map], fun xs => rfl, fun xs => by show some (D.int ((xs.map f).length : Nat)) = _; rw [List.length_map]⟩
instance : Sq eX D.int := ⟨fun xs i => rfl, fun xs => rfl, fun xs => rfl, fun xs => by show some (D.int ((xs.map D.int).length : Nat)) = _; rw [List.length_map]⟩
/-- flat -/
class Fl {α : Type} (e : α → D) : Prop where
  f : ∀ a, (flat (e a)).isSome = true
instance : Fl D.int := ⟨fun _ => rfl⟩
instance : Fl D.bl := ⟨fun _ => rfl⟩
instance : Fl D.str := ⟨fun _ => rfl⟩
instance : Fl eN := ⟨fun _ => rfl⟩
end
/-- data that can be compared -/
class Py {α : Type} [DecidableEq α] (e : α → D) (py : outParam (α → PyData)) (n : outParam Nat) : Prop where
  p : ∀ a, toPy (e a) = some (py a)
  l : ∀ a, (py a).canLay0 = true
  d : ∀ a, (py a).depth ≤ n
  q : ∀ a b, PyData.eqv (py a) (py b) = decide (a = b)
instance : Py D.int PyData.int 0 := ⟨fun _ => rfl, fun _ => by rw [PyData.canLay0], fun _ => by rw [PyData.depth]; exact Nat.le_refl _, fun a b => by rw [PyData.eqv]; by_cases h : a = b <;> simp [h]⟩
instance : Py D.bl PyData.bool 0 := ⟨fun _ => rfl, fun _ => by rw [PyData.canLay0], fun _ => by rw [PyData.depth]; exact Nat.le_refl _, fun a b => by rw [PyData.eqv]; cases a <;> cases b <;> rfl⟩
section
variable {α β γ : Type} [DecidableEq α] [DecidableEq β] [DecidableEq γ] {f : α → D} {g : β → D} {h : γ → D} {p : α → PyData} {q : β → PyData} {r : γ → PyData} {n m k : Nat}
theorem py_l [Py f p n] : ∀ xs : List α, toPyL (xs.map f) = some (xs.map p)
  | [] => rfl
  | x :: xs => by
    show (toPy (f x)).bind (fun z => (toPyL (xs.map f)).map fun zs => z :: zs) = _
    rw [py_l xs, Py.p (py := p) (n := n)]; rfl
theorem py_lay [i : Py f p n] : ∀ xs : List α, PyData.canLayAll0 (xs.map p) = true
  | [] => by simp only [List.map_nil, PyData.canLayAll0]
  | x :: xs => by simp only [List.map_cons, PyData.canLayAll0, i.l, py_lay xs, Bool.and_self]
theorem py_dep [i : Py f p n] : ∀ xs : List α, PyData.depthAll (xs.map p) ≤ n
  | [] => by simp only [List.map_nil, PyData.depthAll]; omega
  | x :: xs => by
    have := py_dep (i := i) xs
    have := i.d x
    simp only [List.map_cons, PyData.depthAll]
    omega
theorem py_eqv [i : Py f p n] : ∀ xs ys : List α, PyData.eqvAll (xs.map p) (ys.map p) = decide (xs = ys)
  | [], [] => by rw [List.map_nil, PyData.eqvAll]; rfl
  | [], b :: m => by rw [List.map_nil, List.map_cons, PyData.eqvAll]; rfl
  | a :: l, [] => by rw [List.map_nil, List.map_cons, PyData.eqvAll]; rfl
  | a :: l, b :: m => by
    rw [List.map_cons, List.map_cons, PyData.eqvAll, py_eqv (i := i) l m, i.q]
    by_cases h1 : a = b <;> by_cases h2 : l = m <;> simp [h1, h2]
instance [i : Py f p n] : Py (eT f) (fun xs => .tuple (xs.map p)) (n + 1) := ⟨fun xs => by show (toPyL (xs.map f)).map PyData.tuple = _; rw [py_l (p := p) (n := n)]; rfl, fun xs => by simp only [PyData.canLay0]; exact py_lay (i := i) xs, fun xs => by have := py_dep (i := i) xs; simp only [PyData.depth]; omega, fun xs ys => by rw [PyData.eqv]; exact py_eqv (i := i) xs ys⟩
instance [i : Py f p n] : Py (eL f) (fun xs => .list (xs.map p)) (n + 1) := ⟨fun xs => by show (toPyL (xs.map f)).map PyData.list = _; rw [py_l (p := p) (n := n)]; rfl, fun xs => by simp only [PyData.canLay0]; exact py_lay (i := i) xs, fun xs => by have := py_dep (i := i) xs; simp only [PyData.depth]; omega, fun xs ys => by rw [PyData.eqv]; exact py_eqv (i := i) xs ys⟩
instance [i : Py f p n] : Py (eO f) (fun xs => .list (xs.map p)) (n + 1) := ⟨fun xs => by show (toPyL (xs.map f)).map PyData.list = _; rw [py_l (p := p) (n := n)]; rfl, fun xs => by simp only [PyData.canLay0]; exact py_lay (i := i) xs, fun xs => by have := py_dep (i := i) xs; simp only [PyData.depth]; omega, fun xs ys => by rw [PyData.eqv]; exact py_eqv (i := i) xs ys⟩
instance [i : Py f p n] [j : Py g q m] : Py (e2P f g) (fun z => .tuple [p z.1, q z.2]) (max n m + 1) := ⟨fun z => by
    show ((toPy (f z.1)).bind fun a => (toPyL [g z.2]).map fun as => a :: as).map PyData.tuple = _
    rw [i.p]
    show (((toPy (g z.2)).bind fun a => (toPyL []).map fun as => a :: as).map fun as => p z.1 :: as).map PyData.tuple = _
    rw [j.p]; rfl, fun z => by simp only [PyData.canLay0, PyData.canLayAll0, i.l, j.l, Bool.and_self], fun z => by have := i.d z.1; have := j.d z.2; simp only [PyData.depth, PyData.depthAll]; omega, fun a b => by
    rw [PyData.eqv, PyData.eqvAll, PyData.eqvAll, PyData.eqvAll, i.q, j.q]
    obtain ⟨a1, a2⟩ := a
    obtain ⟨b1, b2⟩ := b
    by_cases h1 : a1 = b1 <;> by_cases h2 : a2 = b2 <;> simp [h1, h2]⟩
end
theorem shaped_of {α : Type} [DecidableEq α] {e : α → D} {py : α → PyData} {n : Nat} [i : Py e py n] (h : n ≤ 64) (a : α) : SeqAt.shaped (py a) = true := by
  unfold SeqAt.shaped
  rw [i.l]
  have := i.d a
  exact decide_eq_true (by omega)
theorem eqB_py {α : Type} [DecidableEq α] {e e' : α → D} {py : α → PyData} {n m : Nat} [i : Py e py n] [j : Py e' py m] (h : n ≤ 64) (a b : α) : eqB (e a) (e' b) = some (decide (a = b)) := by
  unfold eqB
  rw [i.p, j.p]
  simp only [Option.bind_some, shaped_of (e := e) h, and_self, if_true]
  rw [i.q]
theorem inB_py {α : Type} [DecidableEq α] {e f : α → D} {ee : List α → D} {py : α → PyData} {n m : Nat} {pl : List α → PyData} [i : Py e py n] [k : Py ee pl m] (hq : ∀ xs, seqP (pl xs) = some (xs.map py)) (h : n ≤ 64) (h2 : m ≤ 64) (a : α) (xs : List α) : inB (e a) (ee xs) = some (decide (a ∈ xs)) := by
  unfold inB
  rw [i.p, k.p]
  simp only [Option.bind_some, hq, shaped_of (e := e) h, shaped_of (e := ee) h2, and_self, if_true]
  congr 1
  rw [List.any_map]
  induction xs with
  | nil => rfl
  | cons x xs ih =>
    rw [List.any_cons, ih]
    show (PyData.eqv (py x) (py a) || _) = _
    rw [i.q]
    by_cases h1 : x = a
    · subst h1; simp
    · have h2 : ¬ a = x := fun e => h1 e.symm
      simp [h1, h2]
end DL

set_option Elab.async false
set_option linter.all false
set_option maxRecDepth 100000
set_option maxHeartbeats 4000000
namespace DL
open PySem PySem.Spec L2
/-! ## typed readings: expressions -/
section
variable {X Y Z α β γ α1 α2 α3 : Type} {κ κ1 κ2 κ3 κx ρ : Env} {f fa fb fc : M D} {g : M (List D)} {i j : Nat}
theorem EK.elim {f : M X} {e : α → X} {o : Ex α} (h : EK κ κ2 κx f e o) (hl : Le κ ρ) : (∃ a ρ', o = .ok a ∧ f ρ = .ok (e a) ρ' ∧ Le κ2 ρ') ∨ (∃ c fs ρ', o = .exc c fs ∧ f ρ = .exc c fs ρ' ∧ Le κx ρ') ∨ o = .stuck := by
  have z := h.h ρ hl
  cases o with
  | ok a => obtain ⟨ρ', h1, h2⟩ := z; exact .inl ⟨a, ρ', rfl, h1, h2⟩
  | exc c fs => obtain ⟨ρ', h1, h2⟩ := z; exact .inr (.inl ⟨c, fs, ρ', rfl, h1, h2⟩)
  | stuck => exact .inr (.inr rfl)
/-- one behind the other -/
theorem ek_bind {m : M X} {k : X → M Y} {e : α → X} {e2 : β → Y} {o : Ex α} {ok : α → Ex β} (h : EK κ κ1 κx m e o) (hk : ∀ a, EK κ1 κ2 κx (k (e a)) e2 (ok a)) : EK κ κ2 κx (mbind m k) e2 (o.bind ok) := by
  refine .mk fun ρ hl => ?_
  rcases h.elim hl with ⟨a, ρ', rfl, h1, h2⟩ | ⟨c, fs, ρ', rfl, h1, h2⟩ | rfl
  · rw [show mbind m k ρ = k (e a) ρ' by unfold mbind; rw [h1]]
    exact (hk a).h ρ' h2
  · exact ⟨ρ', by unfold mbind; rw [h1], h2⟩
  · exact trivial
theorem ek_lift {r : Option X} {e : α → X} {o : Ex α} (h : OpX r e o) : EK κ κ κx (mlift r) e o := by
  refine .mk fun ρ hl => ?_
  cases o with
  | ok a => exact ⟨ρ, by rw [show r = some (e a) from h]; rfl, hl⟩
  | exc c fs => exact absurd h id
  | stuck => trivial
theorem ek_ret {x : X} {e : α → X} {a : α} (h : x = e a) : EK κ κ κx (mret x) e (.ok a) := .mk fun ρ hl => ⟨ρ, by rw [h]; rfl, hl⟩
theorem Op.x {r : Option D} {e : α → D} {o : Ex α} (h : Op r e o) : OpX r e o := h
theorem op_ok {r : Option D} {e : α → D} {a : α} (h : r = some (e a)) : Op r e (.ok a) := h
theorem ek_x (hx : Le κx κ) {f : M X} {e : α → X} {o : Ex α} (h : EK κ κ2 κ f e o) : EK κ κ2 κx f e o := .mk fun ρ hl => by
  have z := h.h ρ hl
  cases o with
  | ok a => exact z
  | exc c fs => obtain ⟨ρ', h1, h2⟩ := z; exact ⟨ρ', h1, hx.trans h2⟩
  | stuck => trivial
/-! names, constants -/
theorem ej_var (e : α → D) [Fz e] (a : α) (i : Nat) (h : κ[i]? = some (some (e a))) : EK κ κ κx (eVar i) e (.ok a) := .mk fun ρ hl => ⟨ρ, by unfold eVar; rw [hl.get h]; exact if_pos (Fz.o a), hl⟩
theorem ek_move (e : α → D) (a : α) (i : Nat) (h : κ[i]? = some (some (e a))) : EK κ (κ.set i none) κx (eMove i) e (.ok a) := .mk fun ρ hl => ⟨ρ.set i none, by unfold eMove; rw [hl.get h], hl.set⟩
theorem ej_c (e : α → D) (a : α) : EK κ κ κx (eC (e a)) e (.ok a) := .mk fun ρ hl => ⟨ρ, rfl, hl⟩
theorem ek_frz {e e' : α → D} {o : Ex α} [Frz e e'] (h : EK κ κ2 κx f e o) : EK κ κ2 κx (eFrz f) e' o := by
  refine .mk fun ρ hl => ?_
  rcases h.elim hl with ⟨a, ρ', rfl, h1, h2⟩ | ⟨c, fs, ρ', rfl, h1, h2⟩ | rfl
  · exact ⟨ρ', by unfold eFrz; rw [mbind_of h1, Frz.z]; rfl, h2⟩
  · exact ⟨ρ', by unfold eFrz mbind; rw [h1], h2⟩
  · trivial
/-- two args that were moved: what is read is frozen -/
theorem ek_bor {κb : Env} {e : α → D} {o : Ex α} [Fl e] (hb : LeF κb κ) (h : EK κb κ2 κ3 f e o) : EK κ κ κ (eBor f) e o := by
  refine .mk fun ρ hl => ?_
  rcases h.elim (hb.trans hl.frz) with ⟨a, ρ', rfl, h1, h2⟩ | ⟨c, fs, ρ', rfl, h1, h2⟩ | rfl
  · exact ⟨ρ, by unfold eBor; rw [h1]; exact if_pos (Fl.f a), hl⟩
  · exact ⟨ρ, by unfold eBor; rw [h1], hl⟩
  · trivial
theorem ek_tbor {κb : Env} {c : M Bool} {o : Ex Bool} (hb : LeF κb κ) (h : EK κb κ2 κ3 c id o) : EK κ κ κ (tBor c) id o := by
  refine .mk fun ρ hl => ?_
  rcases h.elim (hb.trans hl.frz) with ⟨a, ρ', rfl, h1, h2⟩ | ⟨c, fs, ρ', rfl, h1, h2⟩ | rfl
  · exact ⟨ρ, (by unfold tBor; rw [h1]; first | done | rfl), hl⟩
  · exact ⟨ρ, by unfold tBor; rw [h1], hl⟩
  · trivial
/-! operators -/
theorem ek_e1 {op : D → Option D} {e1 : α1 → D} {e : α → D} {oa : Ex α1} {oc : α1 → Ex α} (ha : EK κ κ2 κx fa e1 oa) (ho : ∀ a, Op (op (e1 a)) e (oc a)) : EK κ κ2 κx (DL.e1 op fa) e (oa.bind oc) := ek_bind ha fun a => ek_lift (ho a).x
theorem ek_e2 {op : D → D → Option D} {e1 : α1 → D} {e2 : α2 → D} {e : α → D} {oa : Ex α1} {ob : Ex α2} {oc : α1 → α2 → Ex α} (ha : EK κ κ1 κx fa e1 oa) (hb : EK κ1 κ2 κx fb e2 ob) (ho : ∀ a b, Op (op (e1 a) (e2 b)) e (oc a b)) : EK κ κ2 κx (DL.e2 op fa fb) e (oa.bind fun a => ob.bind fun b => oc a b) := ek_bind ha fun a => ek_bind hb fun b => ek_lift (ho a b).x
theorem ek_bi {op : List D → Option D} {es : α1 → List D} {e : α → D} {oa : Ex α1} {oc : α1 → Ex α} (ha : EK κ κ2 κx g es oa) (ho : ∀ a, Op (op (es a)) e (oc a)) : EK κ κ2 κx (eBi op g) e (oa.bind oc) := ek_bind ha fun a => ek_lift (ho a).x
theorem ek_chain {F G : D → D → Option D} {e1 : α1 → D} {e2 : α2 → D} {e3 : α3 → D} [Fl e2] {oa : Ex α1} {ob : Ex α2} {oc : Ex α3} {p : α1 → α2 → Bool} {q : α2 → α3 → Bool} (ha : EK κ κ κx fa e1 oa) (hb : EK κ κ κx fb e2 ob) (hc : EK κ κ κx fc e3 oc) (hp : ∀ a b, Op (F (e1 a) (e2 b)) D.bl (.ok (p a b))) (hq : ∀ b c, Op (G (e2 b) (e3 c)) D.bl (.ok (q b c))) :
    EK κ κ κx (eChain F G fa fb fc) D.bl (oa.bind fun a => ob.bind fun b => if p a b = true then oc.bind fun c => .ok (q b c) else .ok false) := by
  refine ek_bind ha fun a => ek_bind hb fun b => ?_
  rw [show F (e1 a) (e2 b) = some (D.bl (p a b)) from hp a b]
  show EK κ κ κx (if p a b = true then (if (flat (e2 b)).isSome = true then mbind fc fun z => mlift (G (e2 b) z) else mlift none) else mret (D.bl false)) D.bl _
  by_cases c : p a b = true
  · rw [if_pos c, if_pos c, if_pos (Fl.f b)]
    exact ek_bind hc fun z => ek_lift (hq b z).x
  · rw [if_neg c, if_neg c]
    exact ek_ret rfl
/-- a ≤ b ≤ c, c at hand -/
theorem ek_chain_v {F G : D → D → Option D} {e1 : α1 → D} {e2 : α2 → D} {e3 : α3 → D} [Fl e2] {a : α1} {b : α2} {c : α3} {oa : Ex α1} {ob : Ex α2} {oc : Ex α3} {p : α1 → α2 → Bool} {q : α2 → α3 → Bool} (ha : EK κ κ κx fa e1 oa) (hb : EK κ κ κx fb e2 ob) (hc : EK κ κ κx fc e3 oc) (hp : ∀ a b, Op (F (e1 a) (e2 b)) D.bl (.ok (p a b))) (hq : ∀ b c, Op (G (e2 b) (e3 c)) D.bl (.ok (q b c))) (va : oa = .ok a := by rfl) (vb : ob = .ok b := by rfl) (vc : oc = .ok c := by rfl) :
    EK κ κ κx (eChain F G fa fb fc) D.bl (.ok (p a b && q b c)) := by
  subst va vb vc
  exact (ek_chain ha hb hc hp hq).conv (by show (if p a b = true then Ex.ok (q b c) else Ex.ok false) = _; cases p a b <;> rfl)
/-! tests -/
theorem ek_b {o : Ex Bool} (h : EK κ κ2 κx f D.bl o) : EK κ κ2 κx (eB f) id o := by
  have z := ek_bind (k := fun d => mlift (isB d)) (e2 := (id : Bool → Bool)) (ok := fun b => Ex.ok b) h fun b => ek_ret (κx := κx) (κ := κ2) (x := b) (e := id) rfl
  refine EK.conv z ?_
  cases o <;> rfl
theorem ek_not {c : M Bool} {o : Ex Bool} (h : EK κ κ2 κx c id o) : EK κ κ2 κx (mNot c) id (o.bind fun b => .ok (!b)) := ek_bind h fun b => ek_ret rfl
theorem ek_enot {o : Ex Bool} (h : EK κ κ2 κx f D.bl o) : EK κ κ2 κx (eNot f) D.bl (o.bind fun b => .ok (!b)) := ek_bind h fun b => ek_ret rfl
theorem ek_and {c c2 : M Bool} {o o2 : Ex Bool} (h : EK κ κ κx c id o) (h2 : EK κ κ κx c2 id o2) : EK κ κ κx (mAnd c c2) id (o.bind fun b => if b = true then o2 else .ok false) := ek_bind h fun b => by
  cases b with
  | true => exact h2
  | false => exact ek_ret (x := false) rfl
theorem ek_or {c c2 : M Bool} {o o2 : Ex Bool} (h : EK κ κ κx c id o) (h2 : EK κ κ κx c2 id o2) : EK κ κ κx (mOr c c2) id (o.bind fun b => if b = true then .ok true else o2) := ek_bind h fun b => by
  cases b with
  | true => exact ek_ret (x := true) rfl
  | false => exact h2
theorem ek_and_v {o2 : Ex Bool} {c c2 : M Bool} {o : Ex Bool} {b2 : Bool} (h : EK κ κ κx c id o) (h2 : EK κ κ κx c2 id o2) (v2 : o2 = .ok b2 := by rfl) : EK κ κ κx (mAnd c c2) id (o.bind fun b => .ok (b && b2)) := by
  subst v2
  exact (ek_and h h2).conv (by congr 1; funext b; cases b <;> rfl)
theorem ek_or_v {o2 : Ex Bool} {c c2 : M Bool} {o : Ex Bool} {b2 : Bool} (h : EK κ κ κx c id o) (h2 : EK κ κ κx c2 id o2) (v2 : o2 = .ok b2 := by rfl) : EK κ κ κx (mOr c c2) id (o.bind fun b => .ok (b || b2)) := by
  subst v2
  exact (ek_or h h2).conv (by congr 1; funext b; cases b <;> rfl)
theorem ek_eand {o o2 : Ex Bool} (h : EK κ κ κx fa D.bl o) (h2 : EK κ κ κx fb D.bl o2) : EK κ κ κx (eAnd fa fb) D.bl (o.bind fun b => if b = true then o2 else .ok false) := ek_bind h fun b => by
  cases b with
  | true => exact h2
  | false => exact ek_ret rfl
theorem ek_eor {o o2 : Ex Bool} (h : EK κ κ κx fa D.bl o) (h2 : EK κ κ κx fb D.bl o2) : EK κ κ κx (eOr fa fb) D.bl (o.bind fun b => if b = true then .ok true else o2) := ek_bind h fun b => by
  cases b with
  | true => exact ek_ret rfl
  | false => exact h2
theorem ek_eand_v {o2 : Ex Bool} {o : Ex Bool} {b2 : Bool} (h : EK κ κ κx fa D.bl o) (h2 : EK κ κ κx fb D.bl o2) (v2 : o2 = .ok b2 := by rfl) : EK κ κ κx (eAnd fa fb) D.bl (o.bind fun b => .ok (b && b2)) := by
  subst v2
  exact (ek_eand h h2).conv (by congr 1; funext b; cases b <;> rfl)
theorem ek_eor_v {o2 : Ex Bool} {o : Ex Bool} {b2 : Bool} (h : EK κ κ κx fa D.bl o) (h2 : EK κ κ κx fb D.bl o2) (v2 : o2 = .ok b2 := by rfl) : EK κ κ κx (eOr fa fb) D.bl (o.bind fun b => .ok (b || b2)) := by
  subst v2
  exact (ek_eor h h2).conv (by congr 1; funext b; cases b <;> rfl)
theorem ek_if {c : M Bool} {oc : Ex Bool} {e : α → D} {o o2 : Ex α} (hc : EK κ κ κx c id oc) (h : EK κ κ2 κx fa e o) (h2 : EK κ κ2 κx fb e o2) : EK κ κ2 κx (eIf c fa fb) e (oc.bind fun b => if b = true then o else o2) := ek_bind hc fun b => by
  cases b with
  | true => exact h
  | false => exact h2
theorem ek_if_v {c : M Bool} {oc : Ex Bool} {e : α → D} {a a2 : α} {o o2 : Ex α} (hc : EK κ κ κx c id oc) (h : EK κ κ2 κx fa e o) (h2 : EK κ κ2 κx fb e o2) (v : o = .ok a := by rfl) (v2 : o2 = .ok a2 := by rfl) : EK κ κ2 κx (eIf c fa fb) e (oc.bind fun b => .ok (if b = true then a else a2)) := by
  subst v v2
  exact (ek_if hc h h2).conv (by congr 1; funext b; cases b <;> rfl)
theorem ek_yes : EK κ κ κx mYes id (.ok true) := ek_ret rfl
theorem ek_inst {T : Ty} {e : α → D} {o : Ex α} {b : Bool} (h : EK κ κ2 κx f e o) (hb : ∀ a, instB T (e a) = some b) : EK κ κ2 κx (eInst T f) D.bl (o.bind fun _ => .ok b) := ek_bind h fun a => by
  rw [hb a]
  exact ek_ret rfl
theorem ek_instT {T : Ty} {e : α → D} {o : Ex α} {ob : α → Ex Bool} (h : EK κ κ2 κx f e o) (hb : ∀ a, OpX (instB T (e a)) id (ob a)) : EK κ κ2 κx (eInst T f) D.bl (o.bind ob) := by
  have z : EK κ κ2 κx (eInst T f) D.bl (o.bind fun a => (ob a).bind fun b => .ok b) := ek_bind h fun a => ek_bind (ek_lift (hb a)) fun b => ek_ret (e := D.bl) rfl
  refine z.conv ?_
  congr 1; funext a; cases ob a <;> rfl
theorem ek_isN {e : α → D} {o : Ex α} {p : α → Bool} (h : EK κ κ2 κx f e o) (hp : ∀ a, isN (e a) = p a) : EK κ κ2 κx (eIsN f) D.bl (o.bind fun a => .ok (p a)) := ek_bind h fun a => ek_ret (by rw [hp])
theorem ek_notN {e : α → D} {o : Ex α} {p : α → Bool} (h : EK κ κ2 κx f e o) (hp : ∀ a, isN (e a) = p a) : EK κ κ2 κx (eNotN f) D.bl (o.bind fun a => .ok (!(p a))) := ek_bind h fun a => ek_ret (by rw [hp])
/-! arguments, displays, calls -/
theorem ek_nil : EK κ κ κx aNil (fun _ : Unit => ([] : List D)) (.ok ()) := ek_ret rfl
theorem ek_cons {e1 : α1 → D} {es : α2 → List D} {oa : Ex α1} {ob : Ex α2} (ha : EK κ κ1 κx f e1 oa) (hb : EK κ1 κ2 κx g es ob) : EK κ κ2 κx (aCons f g) (fun p : α1 × α2 => e1 p.1 :: es p.2) (oa.bind fun a => ob.bind fun b => .ok (a, b)) := ek_bind ha fun a => ek_bind hb fun b => ek_ret rfl
theorem ek_tupH {e : α → D} [Fz e] {es : α1 → List D} {o : Ex α1} (xs : α1 → List α) (h : EK κ κ2 κx g es o) (he : ∀ p, es p = (xs p).map e) (hl : ∀ p, (xs p).length ≤ 1000) : EK κ κ2 κx (eTup g) (eT e) (o.bind fun p => .ok (xs p)) := ek_bind h fun p => by
  rw [if_pos (Nat.le_trans (by rw [he, List.length_map]; exact hl p) (by rw [sizeLine_eq]; decide))]
  exact ek_ret (by rw [he, frzL_map]; rfl)
theorem ek_tup2 {e1 : α1 → D} {e2 : α2 → D} [Fz e1] [Fz e2] {es : α3 → List D} {o : Ex α3} (x : α3 → α1) (y : α3 → α2) (h : EK κ κ2 κx g es o) (he : ∀ p, es p = [e1 (x p), e2 (y p)]) : EK κ κ2 κx (eTup g) (e2P e1 e2) (o.bind fun p => .ok (x p, y p)) := ek_bind h fun p => by
  rw [he, if_pos (show [e1 (x p), e2 (y p)].length ≤ sizeLine by rw [sizeLine_eq]; show 2 ≤ 16777216; decide)]
  exact ek_ret (by show D.tup [frz (e1 (x p)), frz (e2 (y p))] = _; rw [Fz.z, Fz.z]; rfl)
theorem ek_tup3 {β1 : Type} {e1 : α1 → D} {e2 : α2 → D} {e3 : β1 → D} [Fz e1] [Fz e2] [Fz e3] {es : α3 → List D} {o : Ex α3} (x : α3 → α1) (y : α3 → α2) (z : α3 → β1) (h : EK κ κ2 κx g es o) (he : ∀ p, es p = [e1 (x p), e2 (y p), e3 (z p)]) : EK κ κ2 κx (eTup g) (e3P e1 e2 e3) (o.bind fun p => .ok (x p, y p, z p)) := ek_bind h fun p => by
  rw [he, if_pos (show [e1 (x p), e2 (y p), e3 (z p)].length ≤ sizeLine by rw [sizeLine_eq]; show 3 ≤ 16777216; decide)]
  exact ek_ret (by show D.tup [frz (e1 (x p)), frz (e2 (y p)), frz (e3 (z p))] = _; rw [Fz.z, Fz.z, Fz.z]; rfl)
theorem ek_lstH {e : α → D} {es : α1 → List D} {o : Ex α1} (xs : α1 → List α) (h : EK κ κ2 κx g es o) (he : ∀ p, es p = (xs p).map e) (hl : ∀ p, (xs p).length ≤ 1000) : EK κ κ2 κx (eLst g) (eO e) (o.bind fun p => .ok (xs p)) := ek_bind h fun p => by
  rw [if_pos (Nat.le_trans (by rw [he, List.length_map]; exact hl p) (by rw [sizeLine_eq]; decide))]
  exact ek_ret (by rw [he]; rfl)
/-! walks -/
theorem ek_seq {e : List α → D} {f1 : α → D} [Sq e f1] {o : Ex (List α)} (h : EK κ κ2 κx f e o) : EK κ κ2 κx (iSeq f) (List.map f1) o := by
  have z := ek_bind (k := fun d => mlift (seqOf d)) (e2 := List.map f1) (ok := fun xs => Ex.ok xs) h fun xs => by rw [Sq.s (e := e)]; exact ek_ret (κ := κ2) (κx := κx) rfl
  refine EK.conv z ?_
  cases o <;> rfl
def rng (a b : Int) : List Int := (List.range (b - a).toNat).map fun i => a + (i : Nat)
theorem rng_D (a b : Int) : rgD a b = (rng a b).map D.int := by unfold rgD rng; rw [List.map_map]; rfl
def rg1T (n : Int) : Ex (List Int) := if -(2 ^ 62) ≤ n ∧ n < 2 ^ 62 then .ok (rng 0 n) else .stuck
def rg2T (m n : Int) : Ex (List Int) := if -(2 ^ 62) ≤ m ∧ m < 2 ^ 62 ∧ -(2 ^ 62) ≤ n ∧ n < 2 ^ 62 then .ok (rng m n) else .stuck
theorem ek_rg1 {o : Ex Int} (h : EK κ κ2 κx f D.int o) : EK κ κ2 κx (iRg1 (aCons f aNil)) (List.map D.int) (o.bind rg1T) := by
  unfold iRg1
  have hg := ek_cons h (ek_nil (κ := κ2) (κx := κx))
  have z := ek_bind (k := fun ds => match ds with
    | [.int j] => if -(2 ^ 62) ≤ j ∧ j < 2 ^ 62 then mret (rgD 0 j) else mlift none
    | _ => mlift none) (e2 := List.map D.int) (ok := fun p => rg1T p.1) hg fun p => by
      show EK κ2 κ2 κx (if -(2 ^ 62) ≤ p.1 ∧ p.1 < 2 ^ 62 then mret (rgD 0 p.1) else mlift none) _ _
      unfold rg1T
      by_cases c : -(2 ^ 62) ≤ p.1 ∧ p.1 < 2 ^ 62
      · rw [if_pos c, if_pos c]; exact ek_ret (rng_D _ _)
      · rw [if_neg c, if_neg c]; exact .mk fun _ _ => trivial
  refine z.conv ?_
  cases o <;> rfl
theorem ek_rg2 {o o2 : Ex Int} (h : EK κ κ1 κx fa D.int o) (h2 : EK κ1 κ2 κx fb D.int o2) : EK κ κ2 κx (iRg2 (aCons fa (aCons fb aNil))) (List.map D.int) (o.bind fun a => o2.bind fun b => rg2T a b) := by
  unfold iRg2
  have hg := ek_cons h (ek_cons h2 (ek_nil (κ := κ2) (κx := κx)))
  have z := ek_bind (k := fun ds => match ds with
    | [.int i, .int j] => if -(2 ^ 62) ≤ i ∧ i < 2 ^ 62 ∧ -(2 ^ 62) ≤ j ∧ j < 2 ^ 62 then mret (rgD i j) else mlift none
    | _ => mlift none) (e2 := List.map D.int) (ok := fun p => rg2T p.1 p.2.1) hg fun p => by
      show EK κ2 κ2 κx (if -(2 ^ 62) ≤ p.1 ∧ p.1 < 2 ^ 62 ∧ -(2 ^ 62) ≤ p.2.1 ∧ p.2.1 < 2 ^ 62 then mret (rgD p.1 p.2.1) else mlift none) _ _
      unfold rg2T
      by_cases c : -(2 ^ 62) ≤ p.1 ∧ p.1 < 2 ^ 62 ∧ -(2 ^ 62) ≤ p.2.1 ∧ p.2.1 < 2 ^ 62
      · rw [if_pos c, if_pos c]; exact ek_ret (rng_D _ _)
      · rw [if_neg c, if_neg c]; exact .mk fun _ _ => trivial
  refine z.conv ?_
  cases o with
  | ok a => cases o2 <;> rfl
  | exc c fs => rfl
  | stuck => rfl
theorem ek_tupRg {p : M (Int × Int)} {o : Ex (Int × Int)} (h : EK κ κ2 κx p id o) : EK κ κ2 κx (eTupRg p) (eT D.int) (o.bind fun q => if rgOk q.1 q.2 = true then .ok (rng q.1 q.2) else .stuck) := ek_bind h fun q => by
  show EK κ2 κ2 κx (if rgOk q.1 q.2 = true then mret (D.tup (rgD q.1 q.2)) else mlift none) _ _
  by_cases c : rgOk q.1 q.2 = true
  · rw [if_pos c, if_pos c]; exact ek_ret (by rw [rng_D]; rfl)
  · rw [if_neg c, if_neg c]; exact .mk fun _ _ => trivial
theorem ek_lstRg {p : M (Int × Int)} {o : Ex (Int × Int)} (h : EK κ κ2 κx p id o) : EK κ κ2 κx (eLstRg p) (eO D.int) (o.bind fun q => if rgOk q.1 q.2 = true then .ok (rng q.1 q.2) else .stuck) := ek_bind h fun q => by
  show EK κ2 κ2 κx (if rgOk q.1 q.2 = true then mret (D.lst true (rgD q.1 q.2)) else mlift none) _ _
  by_cases c : rgOk q.1 q.2 = true
  · rw [if_pos c, if_pos c]; exact ek_ret (by rw [rng_D]; rfl)
  · rw [if_neg c, if_neg c]; exact .mk fun _ _ => trivial
theorem ek_r1 {o : Ex Int} (h : EK κ κ2 κx f D.int o) : EK κ κ2 κx (rg1 f) id (o.bind fun n => .ok (0, n)) := ek_bind h fun n => by
  have z := ek_bind (ek_lift (κ := κ2) (κx := κx) (r := isI (.int n)) (e := id) (o := .ok n) rfl) (k := fun n => mret ((0 : Int), n)) (e2 := id) (ok := fun n => .ok (0, n)) fun n => ek_ret rfl
  exact z
theorem ek_r2 {o o2 : Ex Int} (h : EK κ κ1 κx fa D.int o) (h2 : EK κ1 κ2 κx fb D.int o2) : EK κ κ2 κx (rg2 fa fb) id (o.bind fun a => o2.bind fun b => .ok (a, b)) := ek_bind h fun a => ek_bind h2 fun b => .mk fun ρ hl => ⟨ρ, rfl, hl⟩
theorem ek_rev {e : List α → D} {f1 : α → D} [Sq e f1] {o : Ex (List α)} (h : EK κ κ2 κx f e o) : EK κ κ2 κx (iRevD f) (List.map f1) (o.bind fun xs => .ok xs.reverse) := ek_bind h fun xs => by
  rw [Sq.s (e := e)]
  exact ek_ret (by rw [List.map_reverse])
theorem zipD_map {f1 : α → D} {g1 : β → D} : ∀ (xs : List α) (ys : List β), zipD (xs.map f1) (ys.map g1) = (xs.zip ys).map (e2P f1 g1)
  | [], ys => by cases ys <;> rfl
  | x :: xs, [] => rfl
  | x :: xs, y :: ys => by show D.tup _ :: zipD (xs.map f1) (ys.map g1) = _; rw [zipD_map xs ys]; rfl
/-- two of one kind walked together -/
class Zp {α β : Type} (e : List α → D) (e' : List β → D) (f1 : outParam (α → D)) (g1 : outParam (β → D)) : Prop where
  z : ∀ xs ys, zipOf (frz (e xs)) (frz (e' ys)) = some (zipD (xs.map f1) (ys.map g1))
instance {f1 : α → D} {g1 : β → D} : Zp (eT f1) (eT g1) f1 g1 := ⟨fun _ _ => rfl⟩
instance {f1 : α → D} {g1 : β → D} [Fz f1] [Fz g1] : Zp (eL f1) (eL g1) f1 g1 := ⟨fun xs ys => by show some (zipD (frzL _) (frzL _)) = _; rw [frzL_map, frzL_map]⟩
instance {f1 : α → D} {g1 : β → D} [Fz f1] [Fz g1] : Zp (eO f1) (eL g1) f1 g1 := ⟨fun xs ys => by show some (zipD (frzL _) (frzL _)) = _; rw [frzL_map, frzL_map]⟩
instance {f1 : α → D} {g1 : β → D} [Fz f1] [Fz g1] : Zp (eL f1) (eO g1) f1 g1 := ⟨fun xs ys => by show some (zipD (frzL _) (frzL _)) = _; rw [frzL_map, frzL_map]⟩
instance {f1 : α → D} {g1 : β → D} [Fz f1] [Fz g1] : Zp (eO f1) (eO g1) f1 g1 := ⟨fun xs ys => by show some (zipD (frzL _) (frzL _)) = _; rw [frzL_map, frzL_map]⟩
theorem ek_zip {e : List α → D} {e' : List β → D} {f1 : α → D} {g1 : β → D} [Zp e e' f1 g1] {o : Ex (List α)} {o2 : Ex (List β)} (h : EK κ κ1 κx fa e o) (h2 : EK κ1 κ2 κx fb e' o2) : EK κ κ2 κx (iZipD (aCons fa (aCons fb aNil))) (List.map (e2P f1 g1)) (o.bind fun xs => o2.bind fun ys => .ok (xs.zip ys)) := by
  have hg := ek_cons h (ek_cons h2 (ek_nil (κ := κ2) (κx := κx)))
  have z := ek_bind (k := fun ds => mlift (zip2 ds)) (e2 := List.map (e2P f1 g1)) (ok := fun p => Ex.ok (p.1.zip p.2.1)) hg fun p => by
    show EK κ2 κ2 κx (mlift (zipOf (frz (e p.1)) (frz (e' p.2.1)))) _ _
    rw [Zp.z (e := e) (e' := e'), zipD_map]
    exact ek_ret rfl
  refine EK.conv z ?_
  cases o with
  | ok a => cases o2 <;> rfl
  | exc c fs => rfl
  | stuck => rfl
theorem ek_zipM {f1 : α → D} {g1 : β → D} {e : List α → D} [Frz e (eL f1)] {o : Ex (List α)} {o2 : Ex (List β)} (h : EK κ κ1 κx fa e o) (h2 : EK κ1 κ2 κx fb (eT g1) o2) : EK κ κ2 κx (iZipMD (aCons fa (aCons fb aNil))) (List.map (e2P f1 g1)) (o.bind fun xs => o2.bind fun ys => .ok (xs.zip ys)) := by
  have hg := ek_cons h (ek_cons h2 (ek_nil (κ := κ2) (κx := κx)))
  have z := ek_bind (k := fun ds => mlift (zip2M ds)) (e2 := List.map (e2P f1 g1)) (ok := fun p => Ex.ok (p.1.zip p.2.1)) hg fun p => by
    show EK κ2 κ2 κx (mlift (zipMf (frz (e p.1)) (frz (eT g1 p.2.1)))) _ _
    rw [Frz.z (e := e)]
    show EK κ2 κ2 κx (mlift (some (zipD (p.1.map f1) (p.2.1.map g1)))) _ _
    rw [zipD_map]
    exact ek_ret rfl
  refine EK.conv z ?_
  cases o with
  | ok a => cases o2 <;> rfl
  | exc c fs => rfl
  | stuck => rfl
def enm : Nat → List α → List (Int × α)
  | _, [] => []
  | n, x :: xs => ((n : Int), x) :: enm (n + 1) xs
theorem enumD_map {f1 : α → D} : ∀ (xs : List α) (n : Nat), enumD n (xs.map f1) = (enm n xs).map (e2P D.int f1)
  | [], n => rfl
  | x :: xs, n => by show D.tup _ :: enumD (n + 1) (xs.map f1) = _; rw [enumD_map xs]; rfl
class En {α : Type} (e : List α → D) (f1 : outParam (α → D)) : Prop where
  z : ∀ xs, enumOf (frz (e xs)) = some (enumD 0 (xs.map f1))
instance {f1 : α → D} [Fz f1] : En (eL f1) f1 := ⟨fun xs => by show some (enumD 0 (frzL _)) = _; rw [frzL_map]⟩
instance {f1 : α → D} [Fz f1] : En (eO f1) f1 := ⟨fun xs => by show some (enumD 0 (frzL _)) = _; rw [frzL_map]⟩
instance : En eX D.int := ⟨fun xs => rfl⟩
theorem ek_enum {e : List α → D} {f1 : α → D} [En e f1] {o : Ex (List α)} (h : EK κ κ2 κx f e o) : EK κ κ2 κx (iEnumD (aCons f aNil)) (List.map (e2P D.int f1)) (o.bind fun xs => .ok (enm 0 xs)) := by
  have hg := ek_cons h (ek_nil (κ := κ2) (κx := κx))
  have z := ek_bind (k := fun ds => mlift (enum1 ds)) (e2 := List.map (e2P D.int f1)) (ok := fun p => Ex.ok (enm 0 p.1)) hg fun p => by
    show EK κ2 κ2 κx (mlift (enumOf (frz (e p.1)))) _ _
    rw [En.z (e := e), enumD_map]
    exact ek_ret rfl
  refine EK.conv z ?_
  cases o <;> rfl
class EnA {α : Type} (e : List α → D) (f1 : outParam (α → D)) : Prop where
  z : ∀ xs, enumOfA (frz (e xs)) = some (enumD 0 (xs.map f1))
instance {f1 : α → D} [Fz f1] : EnA (eL f1) f1 := ⟨fun xs => by show some (enumD 0 (frzL _)) = _; rw [frzL_map]⟩
instance {f1 : α → D} [Fz f1] : EnA (eO f1) f1 := ⟨fun xs => by show some (enumD 0 (frzL _)) = _; rw [frzL_map]⟩
instance {f1 : α → D} : EnA (eT f1) f1 := ⟨fun xs => rfl⟩
theorem ek_enumA {e : List α → D} {f1 : α → D} [EnA e f1] {o : Ex (List α)} (h : EK κ κ2 κx f e o) : EK κ κ2 κx (iEnuA (aCons f aNil)) (List.map (e2P D.int f1)) (o.bind fun xs => .ok (enm 0 xs)) := by
  have hg := ek_cons h (ek_nil (κ := κ2) (κx := κx))
  have z := ek_bind (k := fun ds => mlift (enumA1 ds)) (e2 := List.map (e2P D.int f1)) (ok := fun p => Ex.ok (enm 0 p.1)) hg fun p => by
    show EK κ2 κ2 κx (mlift (enumOfA (frz (e p.1)))) _ _
    rw [EnA.z (e := e), enumD_map]
    exact ek_ret rfl
  refine EK.conv z ?_
  cases o <;> rfl
/-! targets -/
def TG (g : D → Env → Option Env) (κ : Env) (e : β → D) (κ' : β → Env) : Prop := ∀ b ρ, Le κ ρ → ∃ ρ', g (e b) ρ = some ρ' ∧ Le (κ' b) ρ'
def TGs (g : List D → Env → Option Env) (κ : Env) (es : β → List D) (κ' : β → Env) : Prop := ∀ b ρ, Le κ ρ → ∃ ρ', g (es b) ρ = some ρ' ∧ Le (κ' b) ρ'
theorem tg_set {e : β → D} (i : Nat) (h : i < κ.length) : TG (gSet i) κ e fun b => κ.set i (some (e b)) := fun b ρ hl => ⟨ρ.set i (some (e b)), by unfold gSet; rw [if_pos (by rw [← hl.1]; exact h)], hl.set⟩
theorem tg_2 {e1 : α1 → D} {e2 : α2 → D} {κ' : α1 × α2 → Env} {g1 g2 : D → Env → Option Env} {κ1 : α1 → Env} (h1 : TG g1 κ e1 κ1) (h2 : ∀ a, TG g2 (κ1 a) e2 fun b => κ' (a, b)) : TG (gTupD 2 (gsCons g1 (gsCons g2 gsNil))) κ (e2P e1 e2) κ' := fun p ρ hl => by
  obtain ⟨ρ1, e, l1⟩ := h1 p.1 ρ hl
  obtain ⟨ρ2, e3, l2⟩ := h2 p.1 p.2 ρ1 l1
  refine ⟨ρ2, ?_, l2⟩
  show (g1 (e1 p.1) ρ).bind (fun ρ' => (g2 (e2 p.2) ρ').bind fun ρ' => gsNil [] ρ') = _
  rw [e]
  show (g2 (e2 p.2) ρ1).bind (fun ρ' => gsNil [] ρ') = _
  rw [e3]
  rfl
theorem tg_3 {e1 : α1 → D} {e2 : α2 → D} {e3 : α3 → D} {κ' : α1 × α2 × α3 → Env} {g1 g2 g3 : D → Env → Option Env} {κ1 : α1 → Env} {κ2 : α1 → α2 → Env} (h1 : TG g1 κ e1 κ1) (h2 : ∀ a, TG g2 (κ1 a) e2 (κ2 a)) (h3 : ∀ a b, TG g3 (κ2 a b) e3 fun c => κ' (a, b, c)) : TG (gTupD 3 (gsCons g1 (gsCons g2 (gsCons g3 gsNil)))) κ (e3P e1 e2 e3) κ' := fun p ρ hl => by
  obtain ⟨ρ1, e, l1⟩ := h1 p.1 ρ hl
  obtain ⟨ρ2, e4, l2⟩ := h2 p.1 p.2.1 ρ1 l1
  obtain ⟨ρ3, e5, l3⟩ := h3 p.1 p.2.1 p.2.2 ρ2 l2
  refine ⟨ρ3, ?_, l3⟩
  show (g1 (e1 p.1) ρ).bind (fun ρ' => (g2 (e2 p.2.1) ρ').bind fun ρ' => (g3 (e3 p.2.2) ρ').bind fun ρ' => gsNil [] ρ') = _
  rw [e]
  show (g2 (e2 p.2.1) ρ1).bind (fun ρ' => (g3 (e3 p.2.2) ρ').bind fun ρ' => gsNil [] ρ') = _
  rw [e4]
  show (g3 (e3 p.2.2) ρ2).bind (fun ρ' => gsNil [] ρ') = _
  rw [e5]
  rfl
/-! comprehensions -/
theorem ek_lcGo {κbx : Env} {gt : D → Env → Option Env} {tt : M Bool} {te : M D} {vs : List Nat} {f1 : β → D} {e : γ → D} {κb : β → Env} {ot : β → Ex Bool} {oe : β → Ex γ} (hw : wipeE κ vs = κ) (hg : TG gt κ f1 κb) (ht : ∀ b, EK (κb b) (κb b) κbx tt id (ot b)) (he : ∀ b, EK (κb b) (κb b) κbx te e (oe b)) (hq : ∀ b, Le κ (wipeE (κb b) vs)) :
    ∀ (xs : List β) ρ ys, lcT ot oe xs = .ok ys → Le κ (wipeE ρ vs) → ∃ ρ', lcGo gt tt te vs (xs.map f1) ρ = .ok (ys.map e) ρ' ∧ Le κ ρ'
  | [], ρ, ys, h, hl => by
    cases h
    exact ⟨wipeE ρ vs, rfl, hl⟩
  | b :: xs, ρ, ys, h, hl => by
    obtain ⟨ρ1, e1, l1⟩ := hg b _ hl
    unfold lcT at h
    rcases (ht b).elim l1 with ⟨c, ρ2, q1, q2, l2⟩ | ⟨c, fs, ρ2, q1, q2, l2⟩ | q1
    · rw [q1] at h
      rw [List.map_cons]
      unfold lcGo
      rw [e1]
      show ∃ ρ', mbind tt _ ρ1 = _ ∧ _
      rw [mbind_of q2]
      change (if c = true then _ else _) = _ at h
      cases c with
      | true =>
        rw [if_pos rfl] at h
        show ∃ ρ', (mbind te fun y => mbind (lcGo gt tt te vs (xs.map f1)) fun ys => mret (y :: ys)) ρ2 = _ ∧ _
        rcases (he b).elim l2 with ⟨y, ρ3, q3, q4, l3⟩ | ⟨c, fs, ρ3, q3, q4, l3⟩ | q3
        · rw [q3] at h
          change (lcT ot oe xs).bind _ = _ at h
          cases hr : lcT ot oe xs with
          | ok zs =>
            rw [hr] at h
            cases h
            obtain ⟨ρ4, q5, l5⟩ := ek_lcGo hw hg ht he hq xs ρ3 zs hr ((hq b).trans (l3.wipe vs))
            rw [mbind_of q4, mbind_of q5]
            exact ⟨ρ4, rfl, l5⟩
          | exc c fs => rw [hr] at h; cases h
          | stuck => rw [hr] at h; cases h
        · rw [q3] at h; cases h
        · rw [q3] at h; cases h
      | false =>
        rw [if_neg Bool.false_ne_true] at h
        show ∃ ρ', lcGo gt tt te vs (xs.map f1) ρ2 = _ ∧ _
        exact ek_lcGo hw hg ht he hq xs ρ2 ys h ((hq b).trans (l2.wipe vs))
    · rw [q1] at h; cases h
    · rw [q1] at h; cases h
theorem ek_lc {L : Nat} {fi : M (List D)} {gt : D → Env → Option Env} {tt : M Bool} {te : M D} {vs : List Nat} {f1 : β → D} {e : γ → D} {κb : β → Env} {oi : Ex (List β)} {ot : β → Ex Bool} {oe : β → Ex γ} (hL : κ2.length = L) (hw : wipeE κ2 vs = κ2) (hi : EK κ κ2 κx fi (List.map f1) oi) (hg : TG gt κ2 f1 κb) (hq : ∀ b, Le κ2 (wipeE (κb b) vs)) (ht : ∀ b, EK (κb b) (κb b) (List.replicate L none) tt id (ot b)) (he : ∀ b, EK (κb b) (κb b) (List.replicate L none) te e (oe b)) :
    EK κ κ2 κx (eLcL L fi gt tt te vs) (eO e) (oi.bind fun xs => lcX ot oe xs) := ek_bind hi fun xs => .mk fun ρ hl => by
  unfold lcX
  by_cases c : xs.length < sizeLine
  · rw [if_pos c]
    have hl2 : Le κ2 (wipeE ρ vs) := by have := hl.wipe vs; rwa [hw] at this
    cases h : lcT ot oe xs with
    | ok ys =>
      obtain ⟨ρ', q1, l1⟩ := ek_lcGo hw hg ht he hq xs ρ ys h hl2
      refine ⟨ρ', ?_, l1⟩
      show (if (xs.map f1).length < sizeLine ∧ ρ.length = L then noX (mbind (lcGo gt tt te vs (xs.map f1)) (fun ys => mret (D.lst true ys)) ρ) else .stuck) = _
      rw [if_pos ⟨by rw [List.length_map]; exact c, by rw [← hl.1, hL]⟩, mbind_of q1]
      rfl
    | exc c fs => trivial
    | stuck => trivial
  · rw [if_neg c]
    trivial
theorem ek_lcM {L : Nat} {fi : M (List D)} {gt : D → Env → Option Env} {te : M D} {vs : List Nat} {f1 : β → D} {e : γ → D} {κb : β → Env} {oi : Ex (List β)} {oe : β → Ex γ} (hL : κ2.length = L) (hw : wipeE κ2 vs = κ2) (hi : EK κ κ2 κx fi (List.map f1) oi) (hg : TG gt κ2 f1 κb) (hq : ∀ b, Le κ2 (wipeE (κb b) vs)) (he : ∀ b, EK (κb b) (κb b) (List.replicate L none) te e (oe b)) :
    EK κ κ2 κx (eLcL L fi gt mYes te vs) (eO e) (oi.bind fun xs => lcM oe xs) := ek_lc hL hw hi hg hq (fun b => ek_yes) he
/-! slices -/
def slT (xs : List α) (lo hi : Option Int) : List α := (xs.drop (HT.sIx xs.length 0 lo)).take (HT.sIx xs.length xs.length hi - HT.sIx xs.length 0 lo)
theorem cut_map {f1 : α → D} (xs : List α) (lo hi : Option Int) : cutD (xs.map f1) lo hi = (slT xs lo hi).map f1 := by
  unfold cutD slT
  rw [List.length_map, List.map_take, List.map_drop]
class Sl_ {α : Type} (e : List α → D) (e' : outParam (List α → D)) : Prop where
  z : ∀ xs lo hi, slD (e xs) lo hi = some (e' (slT xs lo hi))
instance {f1 : α → D} : Sl_ (eT f1) (eT f1) := ⟨fun xs lo hi => by show some (D.tup (cutD _ _ _)) = _; rw [cut_map]; rfl⟩
instance {f1 : α → D} : Sl_ (eL f1) (eO f1) := ⟨fun xs lo hi => by show some (D.lst true (cutD _ _ _)) = _; rw [cut_map]; rfl⟩
instance {f1 : α → D} : Sl_ (eO f1) (eO f1) := ⟨fun xs lo hi => by show some (D.lst true (cutD _ _ _)) = _; rw [cut_map]; rfl⟩
instance : Sl_ eX (eO D.int) := ⟨fun xs lo hi => by show some (D.lst true (cutD _ _ _)) = _; rw [cut_map]; rfl⟩
theorem ek_pN : EK κ κ κx pNone id (.ok none) := ek_ret rfl
theorem ek_pS {o : Ex Int} (h : EK κ κ2 κx f D.int o) : EK κ κ2 κx (pSome f) id (o.bind fun i => .ok (some i)) := ek_bind h fun i => .mk fun ρ hl => ⟨ρ, rfl, hl⟩
theorem ek_sl {e e' : List α → D} [Sl_ e e'] {fl fu : M (Option Int)} {o : Ex (List α)} {ol ou : Ex (Option Int)} (h : EK κ κ1 κx fa e o) (hl : EK κ1 κ2 κx fl id ol) (hu : EK κ2 κ3 κx fu id ou) : EK κ κ3 κx (eSl fa fl fu) e' (o.bind fun xs => ol.bind fun l => ou.bind fun u => .ok (slT xs l u)) := ek_bind h fun xs => ek_bind hl fun l => ek_bind hu fun u => by
  show EK κ3 κ3 κx (mlift (slD (e xs) l u)) _ _
  rw [Sl_.z]
  exact ek_ret rfl
theorem ek_tupRev {f1 : α → D} {e : List α → D} [Frz e (eL f1)] {o : Ex (List α)} (hf : ∀ xs, ∃ b ds, e xs = .lst b ds) (h : EK κ κ2 κx f e o) : EK κ κ2 κx (eTupRev f) (eT f1) (o.bind fun xs => .ok xs.reverse) := ek_bind h fun xs => by
  obtain ⟨b, ds, he⟩ := hf xs
  have := Frz.z (e := e) (e' := eL f1) xs
  rw [he] at this
  rw [he]
  show EK κ2 κ2 κx (mret (D.tup (frzL ds).reverse)) _ _
  have h2 : frzL ds = xs.map f1 := by
    have : D.lst false (frzL ds) = D.lst false (xs.map f1) := this
    injection this
  exact ek_ret (by rw [h2, ← List.map_reverse]; rfl)
end
end DL

set_option Elab.async false
set_option linter.all false
set_option maxRecDepth 100000
set_option maxHeartbeats 4000000
set_option exponentiation.threshold 9000
namespace DL
open PySem PySem.Spec L2
/-! ## typed readings: operators -/
section
variable {α β γ : Type} {i j : Int}
theorem op_add (a b : Int) : Op (addD (.int a) (.int b)) D.int (.ok (a + b)) := rfl
theorem op_sub (a b : Int) : Op (subD (.int a) (.int b)) D.int (.ok (a - b)) := rfl
theorem op_neg (a : Int) : Op (negD (.int a)) D.int (.ok (-a)) := rfl
theorem op_lt (a b : Int) : Op (ltD (.int a) (.int b)) D.bl (.ok (decide (a < b))) := rfl
theorem op_gt (a b : Int) : Op (gtD (.int a) (.int b)) D.bl (.ok (decide (b < a))) := rfl
theorem op_le (a b : Int) : Op (lebD (.int a) (.int b)) D.bl (.ok (decide (a ≤ b))) := rfl
theorem op_ge (a b : Int) : Op (geD (.int a) (.int b)) D.bl (.ok (decide (b ≤ a))) := rfl
def mulT (a b : Int) : Ex Int := if CMulX a b then .ok (a * b) else .stuck
theorem op_mul (a b : Int) : Op (mulD (.int a) (.int b)) D.int (mulT a b) := by
  unfold mulT
  by_cases c : CMulX a b
  · rw [if_pos c]; show (if CMulX a b then some (D.int (a * b)) else none) = _; rw [if_pos c]
  · rw [if_neg c]; exact trivial
theorem op_mulI (a b : Int) : Op (mulI (.int a) (.int b)) D.int (mulT a b) := by
  unfold mulT
  by_cases c : CMulX a b
  · rw [if_pos c]; show (if decide (CMulX a b) = true then some (D.int (a * b)) else none) = _; rw [if_pos (decide_eq_true c)]
  · rw [if_neg c]; exact trivial
def fdivT (a b : Int) : Ex Int := if 0 < b ∧ b.natAbs < 2 ^ 8000 then .ok (a / b) else .stuck
theorem op_fdiv (a b : Int) : Op (fdivD (.int a) (.int b)) D.int (fdivT a b) := by
  unfold fdivT
  by_cases c : 0 < b ∧ b.natAbs < 2 ^ 8000
  · rw [if_pos c]; show (if decide (0 < b ∧ b.natAbs < 2 ^ 8000) = true then some (D.int (a / b)) else none) = _; rw [if_pos (decide_eq_true c)]
  · rw [if_neg c]; exact trivial
theorem op_fdivc {b : Int} (a : Int) (h : (decide (0 < b) && decide (b < 2 ^ 80)) = true) : Op (fdivD (.int a) (.int b)) D.int (.ok (a / b)) := by
  have h := Bool.and_eq_true_iff.mp h
  have h1 := of_decide_eq_true h.1
  have h2 := of_decide_eq_true h.2
  have : b.natAbs < 2 ^ 8000 := Nat.lt_of_lt_of_le (show b.natAbs < 2 ^ 80 by omega) (Nat.pow_le_pow_right (by decide) (by decide))
  show (if decide (0 < b ∧ b.natAbs < 2 ^ 8000) = true then some (D.int (a / b)) else none) = _
  rw [if_pos (decide_eq_true ⟨h1, this⟩)]
def modT (a b : Int) : Ex Int := if 0 < b then .ok (a % b) else .stuck
theorem op_mod (a b : Int) : Op (modD (.int a) (.int b)) D.int (modT a b) := by
  unfold modT
  by_cases c : 0 < b
  · rw [if_pos c]; show (if decide (0 < b) = true then some (D.int (a % b)) else none) = _; rw [if_pos (decide_eq_true c)]
  · rw [if_neg c]; exact trivial
theorem op_modc {b : Int} (a : Int) (h : decide (0 < b) = true) : Op (modD (.int a) (.int b)) D.int (.ok (a % b)) := by
  show (if decide (0 < b) = true then some (D.int (a % b)) else none) = _
  rw [if_pos h]
def powT (a b : Int) : Ex Int := if 0 ≤ b ∧ b ≤ 1000000 ∧ a.natAbs < 2 ^ 64 then .ok (a ^ b.toNat) else .stuck
theorem op_pow (a b : Int) : Op (powD (.int a) (.int b)) D.int (powT a b) := by
  unfold powT
  by_cases c : 0 ≤ b ∧ b ≤ 1000000 ∧ a.natAbs < 2 ^ 64
  · rw [if_pos c]; show (if decide (0 ≤ b ∧ b ≤ 1000000 ∧ a.natAbs < 2 ^ 64) = true then some (D.int (a ^ b.toNat)) else none) = _; rw [if_pos (decide_eq_true c)]
  · rw [if_neg c]; exact trivial
theorem op_powc {a b c : Int} (h : (decide (0 ≤ b) && (decide (b ≤ 1000000) && (decide (a.natAbs < 2 ^ 64) && decide (a ^ b.toNat = c)))) = true) : Op (powD (.int a) (.int b)) D.int (.ok c) := by
  obtain ⟨h1, h2⟩ := Bool.and_eq_true_iff.mp h
  obtain ⟨h2, h3⟩ := Bool.and_eq_true_iff.mp h2
  obtain ⟨h3, h4⟩ := Bool.and_eq_true_iff.mp h3
  show (if decide (0 ≤ b ∧ b ≤ 1000000 ∧ a.natAbs < 2 ^ 64) = true then some (D.int (a ^ b.toNat)) else none) = _
  rw [if_pos (decide_eq_true ⟨of_decide_eq_true h1, of_decide_eq_true h2, of_decide_eq_true h3⟩), of_decide_eq_true h4]
def shlT (a b : Int) : Ex Int := if 0 ≤ b ∧ b ≤ 1000000 ∧ a.natAbs < 2 ^ 64 then .ok (a * 2 ^ b.toNat) else .stuck
theorem op_shl (a b : Int) : Op (shlD (.int a) (.int b)) D.int (shlT a b) := by
  unfold shlT
  by_cases c : 0 ≤ b ∧ b ≤ 1000000 ∧ a.natAbs < 2 ^ 64
  · rw [if_pos c]; show (if decide (0 ≤ b ∧ b ≤ 1000000 ∧ a.natAbs < 2 ^ 64) = true then some (D.int (a * 2 ^ b.toNat)) else none) = _; rw [if_pos (decide_eq_true c)]
  · rw [if_neg c]; exact trivial
/-! == and in -/
theorem op_eq {e e' : α → D} [DecidableEq α] {py : α → PyData} {n m : Nat} [Py e py n] [Py e' py m] (a b : α) (h : n ≤ 64 := by decide) : Op (eqD (e a) (e' b)) D.bl (.ok (decide (a = b))) := by
  show (eqB (e a) (e' b)).map D.bl = _
  rw [eqB_py h]; rfl
theorem op_ne {e e' : α → D} [DecidableEq α] {py : α → PyData} {n m : Nat} [Py e py n] [Py e' py m] (a b : α) (h : n ≤ 64 := by decide) : Op (neD (e a) (e' b)) D.bl (.ok (!decide (a = b))) := by
  show (eqB (e a) (e' b)).map (fun b => D.bl !b) = _
  rw [eqB_py h]; rfl
def eqb {α : Type} [DecidableEq α] (a b : α) : Bool := decide (a = b)
theorem eqb_t {α : Type} [DecidableEq α] {a b : α} : eqb a b = true ↔ a = b := decide_eq_true_iff
theorem eqb_rfl {α : Type} [DecidableEq α] (a : α) : eqb a a = true := eqb_t.mpr rfl
theorem op_eqb {e e' : α → D} [DecidableEq α] {py : α → PyData} {n m : Nat} [Py e py n] [Py e' py m] (a b : α) (h : n ≤ 64 := by decide) : Op (eqD (e a) (e' b)) D.bl (.ok (eqb a b)) := op_eq a b h
theorem op_neb {e e' : α → D} [DecidableEq α] {py : α → PyData} {n m : Nat} [Py e py n] [Py e' py m] (a b : α) (h : n ≤ 64 := by decide) : Op (neD (e a) (e' b)) D.bl (.ok (!eqb a b)) := op_ne a b h
class PyS {α : Type} (ee : List α → D) (f : outParam (α → D)) (py : outParam (α → PyData)) (pl : outParam (List α → PyData)) : Prop where
  q : ∀ xs, seqP (pl xs) = some (xs.map py)
instance {f : α → D} [DecidableEq α] {py : α → PyData} {n : Nat} [Py f py n] : PyS (eT f) f py (fun xs => .tuple (xs.map py)) := ⟨fun _ => rfl⟩
instance {f : α → D} [DecidableEq α] {py : α → PyData} {n : Nat} [Py f py n] : PyS (eL f) f py (fun xs => .list (xs.map py)) := ⟨fun _ => rfl⟩
instance {f : α → D} [DecidableEq α] {py : α → PyData} {n : Nat} [Py f py n] : PyS (eO f) f py (fun xs => .list (xs.map py)) := ⟨fun _ => rfl⟩
theorem op_in {e f : α → D} {ee : List α → D} [DecidableEq α] {py : α → PyData} {pl : List α → PyData} {n m : Nat} [PyS ee f py pl] [Py e py n] [Py ee pl m] (a : α) (xs : List α) (h : n ≤ 64 := by decide) (h2 : m ≤ 64 := by decide) : Op (inD (e a) (ee xs)) D.bl (.ok (decide (a ∈ xs))) := by
  show (inB (e a) (ee xs)).map D.bl = _
  rw [inB_py (e := e) (f := f) (ee := ee) (PyS.q (ee := ee) (f := f)) h h2]; rfl
theorem op_nin {e f : α → D} {ee : List α → D} [DecidableEq α] {py : α → PyData} {pl : List α → PyData} {n m : Nat} [PyS ee f py pl] [Py e py n] [Py ee pl m] (a : α) (xs : List α) (h : n ≤ 64 := by decide) (h2 : m ≤ 64 := by decide) : Op (ninD (e a) (ee xs)) D.bl (.ok (!decide (a ∈ xs))) := by
  show (inB (e a) (ee xs)).map (fun b => D.bl !b) = _
  rw [inB_py (e := e) (f := f) (ee := ee) (PyS.q (ee := ee) (f := f)) h h2]; rfl
def inb {α : Type} [DecidableEq α] (a : α) (xs : List α) : Bool := decide (a ∈ xs)
theorem inb_t {α : Type} [DecidableEq α] {a : α} {xs : List α} : inb a xs = true ↔ a ∈ xs := decide_eq_true_iff
theorem op_inb {e f : α → D} {ee : List α → D} [DecidableEq α] {py : α → PyData} {pl : List α → PyData} {n m : Nat} [PyS ee f py pl] [Py e py n] [Py ee pl m] (a : α) (xs : List α) (h : n ≤ 64 := by decide) (h2 : m ≤ 64 := by decide) : Op (inD (e a) (ee xs)) D.bl (.ok (inb a xs)) := op_in (f := f) a xs h h2
theorem op_ninb {e f : α → D} {ee : List α → D} [DecidableEq α] {py : α → PyData} {pl : List α → PyData} {n m : Nat} [PyS ee f py pl] [Py e py n] [Py ee pl m] (a : α) (xs : List α) (h : n ≤ 64 := by decide) (h2 : m ≤ 64 := by decide) : Op (ninD (e a) (ee xs)) D.bl (.ok (!inb a xs)) := op_nin (f := f) a xs h h2
/-! sequences -/
def catT (xs ys : List α) : Ex (List α) := if xs.length + ys.length ≤ sizeLine then .ok (xs ++ ys) else .stuck
theorem op_catT {f : α → D} (xs ys : List α) : Op (addD (eT f xs) (eT f ys)) (eT f) (catT xs ys) := by
  unfold catT
  by_cases c : xs.length + ys.length ≤ sizeLine
  · rw [if_pos c]
    show (if (xs.map f).length + (ys.map f).length ≤ sizeLine then some (D.tup (xs.map f ++ ys.map f)) else none) = _
    rw [List.length_map, List.length_map, if_pos c, ← List.map_append]; rfl
  · rw [if_neg c]; exact trivial
class Ls {α : Type} (e : List α → D) (f : outParam (α → D)) : Prop where
  z : ∀ xs, ∃ o, e xs = .lst o (xs.map f)
instance {f : α → D} : Ls (eL f) f := ⟨fun _ => ⟨_, rfl⟩⟩
instance {f : α → D} : Ls (eO f) f := ⟨fun _ => ⟨_, rfl⟩⟩
theorem op_catL {f : α → D} {e e' : List α → D} [Ls e f] [Ls e' f] (xs ys : List α) : Op (addD (e xs) (e' ys)) (eO f) (catT xs ys) := by
  obtain ⟨o, h1⟩ := Ls.z (e := e) xs
  obtain ⟨o', h2⟩ := Ls.z (e := e') ys
  unfold catT
  by_cases c : xs.length + ys.length ≤ sizeLine
  · rw [if_pos c, h1, h2]
    show (if (xs.map f).length + (ys.map f).length ≤ sizeLine then some (D.lst true (xs.map f ++ ys.map f)) else none) = _
    rw [List.length_map, List.length_map, if_pos c, ← List.map_append]; rfl
  · rw [if_neg c]; exact trivial
def ixT (xs : List α) (i : Int) : Ex α := Ex.of (atI xs i)
theorem atI_map {f : α → β} (xs : List α) (i : Int) : atI (xs.map f) i = (atI xs i).map f := by
  unfold atI
  rw [List.length_map]
  cases ixN xs.length i with
  | none => rfl
  | some j => show (xs.map f)[j]? = (xs[j]?).map f; rw [List.getElem?_map]
theorem op_ix {e : List α → D} {f : α → D} [Sq e f] (xs : List α) (i : Int) : Op (ixD (e xs) (.int i)) f (ixT xs i) := by
  rw [Sq.x (e := e), atI_map]
  unfold ixT
  cases atI xs i with
  | none => trivial
  | some a => exact rfl
theorem op_fst {f : α → D} {g : β → D} (p : α × β) : Op (ixD (e2P f g p) (.int 0)) f (.ok p.1) := rfl
theorem op_snd {f : α → D} {g : β → D} (p : α × β) : Op (ixD (e2P f g p) (.int 1)) g (.ok p.2) := rfl
theorem op_1_3 {f : α → D} {g : β → D} {h : γ → D} (p : α × β × γ) : Op (ixD (e3P f g h p) (.int 0)) f (.ok p.1) := rfl
theorem op_2_3 {f : α → D} {g : β → D} {h : γ → D} (p : α × β × γ) : Op (ixD (e3P f g h p) (.int 1)) g (.ok p.2.1) := rfl
theorem op_3_3 {f : α → D} {g : β → D} {h : γ → D} (p : α × β × γ) : Op (ixD (e3P f g h p) (.int 2)) h (.ok p.2.2) := rfl
def repT (k : Int) (xs : List α) : List α := (List.replicate k.toNat xs).flatten
def mulLT (xs : List α) (k : Int) : Ex (List α) := if -(2 ^ 63) ≤ k ∧ k < 2 ^ 63 ∧ xs.length * k.toNat ≤ sizeLine then .ok (repT k xs) else .stuck
theorem rep_map {f : α → β} (k : Int) (xs : List α) : (List.replicate k.toNat (xs.map f)).flatten = (repT k xs).map f := by
  unfold repT
  rw [List.map_flatten, List.map_replicate]
theorem op_mulL {e : List α → D} {f : α → D} [Fz f] [Ls e f] (xs : List α) (k : Int) : Op (mulD (e xs) (.int k)) (eO f) (mulLT xs k) := by
  obtain ⟨o, h⟩ := Ls.z (e := e) xs
  unfold mulLT
  by_cases c : -(2 ^ 63) ≤ k ∧ k < 2 ^ 63 ∧ xs.length * k.toNat ≤ sizeLine
  · rw [if_pos c, h]
    show (if -(2 ^ 63) ≤ k ∧ k < 2 ^ 63 ∧ (xs.map f).length * k.toNat ≤ sizeLine then some (D.lst true (repD k (frzL (xs.map f)))) else none) = _
    rw [List.length_map, if_pos c, frzL_map]
    show some (D.lst true (List.replicate k.toNat (xs.map f)).flatten) = _
    rw [rep_map]; rfl
  · rw [if_neg c]; exact trivial
def mulTT (xs : List α) (k : Int) : Ex (List α) := if xs.isEmpty = false ∧ 2 ≤ k ∧ k ≤ 1000 ∧ xs.length ≤ 1000 then .ok (repT k xs) else .stuck
theorem op_mulT {f : α → D} (xs : List α) (k : Int) : Op (mulD (eT f xs) (.int k)) (eT f) (mulTT xs k) := by
  unfold mulTT
  by_cases c : xs.isEmpty = false ∧ 2 ≤ k ∧ k ≤ 1000 ∧ xs.length ≤ 1000
  · rw [if_pos c]
    show (if xs.map f ≠ [] ∧ 2 ≤ k ∧ k ≤ 1000 ∧ (xs.map f).length ≤ 1000 then some (D.tup (List.replicate k.toNat (xs.map f)).flatten) else none) = _
    rw [List.length_map, if_pos ⟨fun z => by rw [List.map_eq_nil_iff] at z; rw [z] at c; exact Bool.noConfusion c.1, c.2⟩, rep_map]; rfl
  · rw [if_neg c]; exact trivial
/-! built-ins -/
theorem bi_len {e : List α → D} {f : α → D} [Sq e f] (xs : List α) : Op (lenD [e xs]) D.int (.ok (xs.length : Int)) := Sq.n xs
theorem bi_int (a : Int) : Op (intD [.int a]) D.int (.ok a) := rfl
theorem bi_intB (b : Bool) : Op (intD [.bl b]) D.int (.ok (if b = true then 1 else 0)) := by cases b <;> rfl
theorem bi_abs (a : Int) : Op (absD [.int a]) D.int (.ok (if a < 0 then -a else a)) := rfl
theorem bi_max (a b : Int) : Op (max2D [.int a, .int b]) D.int (.ok (max a b)) := by
  show some (D.int (if b > a then b else a)) = _
  congr 2
  rw [Int.max_def]
  split <;> split <;> omega
theorem bi_min (a b : Int) : Op (min2D [.int a, .int b]) D.int (.ok (min a b)) := by
  show some (D.int (if b < a then b else a)) = _
  congr 2
  rw [Int.min_def]
  split <;> split <;> omega
theorem bi_tupT {f : α → D} (xs : List α) : Op (tupleD [eT f xs]) (eT f) (.ok xs) := rfl
theorem bi_tupL {e : List α → D} {f : α → D} [Fz f] [Ls e f] (xs : List α) : Op (tupleD [e xs]) (eT f) (.ok xs) := by
  obtain ⟨o, h⟩ := Ls.z (e := e) xs
  rw [h]
  show some (D.tup (frzL (xs.map f))) = _
  rw [frzL_map]; rfl
theorem bi_list {e : List α → D} {f : α → D} [Sq e f] (h : ∀ xs, listD [e xs] = (items (e xs)).map fun ds => .lst true ds) (xs : List α) : Op (listD [e xs]) (eO f) (.ok xs) := by
  rw [h, Sq.i]; rfl
theorem bi_all {e : List Bool → D} [Ls e D.bl] (xs : List Bool) : Op (allD [e xs]) D.bl (.ok (xs.all id)) := by
  obtain ⟨o, h⟩ := Ls.z (e := e) xs
  rw [h]
  show (boolsL (xs.map D.bl)).map (fun bs => D.bl (bs.all id)) = _
  rw [boolsL_map]; rfl
theorem bi_any {e : List Bool → D} [Ls e D.bl] (xs : List Bool) : Op (anyD [e xs]) D.bl (.ok (xs.any id)) := by
  obtain ⟨o, h⟩ := Ls.z (e := e) xs
  rw [h]
  show (boolsL (xs.map D.bl)).map (fun bs => D.bl (bs.any id)) = _
  rw [boolsL_map]; rfl
theorem bi_sum {e : List Int → D} [Ls e D.int] (xs : List Int) : Op (sumD [e xs]) D.int (.ok xs.sum) := by
  obtain ⟨o, h⟩ := Ls.z (e := e) xs
  rw [h]
  show (intsL (xs.map D.int)).map (fun is => D.int is.sum) = _
  rw [intsL_map]; rfl
/-- sorted, of tuples of ints that are not empty -/
def sortT (xs : List (List Int)) : Ex (List (List Int)) := if xs.all (fun x => !x.isEmpty) = true then .ok (isortL xs) else .stuck
theorem rows_map : ∀ xs : List (List Int), xs.all (fun x => !x.isEmpty) = true → rowsOf (xs.map (eT D.int)) = some xs
  | [], _ => rfl
  | x :: xs, h => by
    rw [List.all_cons, Bool.and_eq_true] at h
    show (intsL (x.map D.int)).bind (fun y => if y.isEmpty = true then none else (rowsOf (xs.map (eT D.int))).map fun z => y :: z) = _
    rw [intsL_map, rows_map xs h.2]
    show (if x.isEmpty = true then none else some (x :: xs)) = _
    rw [if_neg (by have := h.1; cases hx : x.isEmpty with | true => rw [hx] at this; cases this | false => exact Bool.false_ne_true)]
theorem bi_sort {e : List (List Int) → D} [Ls e (eT D.int)] (xs : List (List Int)) : Op (sortTD [e xs]) (eO (eT D.int)) (sortT xs) := by
  obtain ⟨o, h⟩ := Ls.z (e := e) xs
  unfold sortT
  by_cases c : xs.all (fun x => !x.isEmpty) = true
  · rw [if_pos c, h]
    show (rowsOf (frzL (xs.map (eT D.int)))).map (fun rs => D.lst true ((isortL rs).map fun r => D.tup (r.map .int))) = _
    rw [frzL_map, rows_map xs c]; rfl
  · rw [if_neg c]; exact trivial
def lenSetT (xs : List Int) : Ex Int := if xs.length < 1000 then .ok ((once xs).length : Int) else .stuck
theorem op_lenSet {e : List Int → D} [Sq e D.int] (xs : List Int) : Op (lenSetA (e xs)) D.int (lenSetT xs) := by
  unfold lenSetT lenSetA
  rw [Sq.i]
  show Op ((intsL (xs.map D.int)).bind _) _ _
  rw [intsL_map]
  show Op (if xs.length < 1000 then _ else _) _ _
  by_cases c : xs.length < 1000
  · rw [if_pos c, if_pos c]; exact rfl
  · rw [if_neg c, if_neg c]; trivial
end
end DL

set_option Elab.async false
set_option linter.all false
set_option maxRecDepth 100000
set_option maxHeartbeats 4000000
namespace DL
open PySem PySem.Spec L2
/-! ## typed readings: statements -/
section
variable {X Y Z α β γ σ σ1 σ2 τ : Type} {C : Cz τ α} {κ κ1 κ2 κ3 κx ρ : Env} {f fa fb fc : M D} {g : M (List D)} {F G : SF} {i j : Nat} {κ' : σ → Env}
theorem RS_id (r : RS) : (match r with | .nx ρ => RS.nx ρ | r => r) = r := by cases r <;> rfl
theorem SJ.elim {o : O τ σ α} (h : SJ C κ F κ' o) (hl : Le κ ρ) : (∃ x ρ', o = .nx x ∧ F ρ = .nx ρ' ∧ Le (κ' x) ρ') ∨ (∃ a ρ', o = .ret a ∧ F ρ = .ret (C.e a) ρ' ∧ Le (C.r a) ρ') ∨ (∃ y ρ', o = .brk y ∧ F ρ = .brk ρ' ∧ Le (C.b y) ρ') ∨ (∃ y ρ', o = .cnt y ∧ F ρ = .cnt ρ' ∧ Le (C.b y) ρ') ∨ (∃ c fs ρ', o = .exc c fs ∧ F ρ = .exc c fs ρ' ∧ Le C.x ρ') ∨ o = .stuck := by
  have z := h.h ρ hl
  cases o with
  | nx x => obtain ⟨ρ', h1, h2⟩ := z; exact .inl ⟨x, ρ', rfl, h1, h2⟩
  | ret a => obtain ⟨ρ', h1, h2⟩ := z; exact .inr (.inl ⟨a, ρ', rfl, h1, h2⟩)
  | brk y => obtain ⟨ρ', h1, h2⟩ := z; exact .inr (.inr (.inl ⟨y, ρ', rfl, h1, h2⟩))
  | cnt y => obtain ⟨ρ', h1, h2⟩ := z; exact .inr (.inr (.inr (.inl ⟨y, ρ', rfl, h1, h2⟩)))
  | exc c fs => obtain ⟨ρ', h1, h2⟩ := z; exact .inr (.inr (.inr (.inr (.inl ⟨c, fs, ρ', rfl, h1, h2⟩))))
  | stuck => exact .inr (.inr (.inr (.inr (.inr rfl))))
theorem sj_pre {o : O τ σ α} (h : Le κ2 κ1) (hs : SJ C κ2 F κ' o) : SJ C κ1 F κ' o := .mk fun ρ hl => hs.h ρ (h.trans hl)
theorem sj_post {o : O τ σ1 α} {κ1' : σ1 → Env} {t : σ1 → σ} (hs : SJ C κ F κ1' o) (h : ∀ x, Le (κ' (t x)) (κ1' x)) : SJ C κ F κ' (o.bind fun x => .nx (t x)) := .mk fun ρ hl => by
  have z := hs.h ρ hl
  cases o with
  | nx x => obtain ⟨ρ', h1, h2⟩ := z; exact ⟨ρ', h1, (h x).trans h2⟩
  | ret a => exact z
  | brk y => exact z
  | cnt y => exact z
  | exc c fs => exact z
  | stuck => trivial
theorem sj_seq {o : O τ σ1 α} {k : σ1 → O τ σ α} {κ1' : σ1 → Env} (h1 : SJ C κ F κ1' o) (h2 : ∀ x, SJ C (κ1' x) G κ' (k x)) : SJ C κ (sSeq F G) κ' (o.bind k) := .mk fun ρ hl => by
  rcases h1.elim hl with ⟨x, ρ', rfl, q, l⟩ | ⟨a, ρ', rfl, q, l⟩ | ⟨y, ρ', rfl, q, l⟩ | ⟨y, ρ', rfl, q, l⟩ | ⟨c, fs, ρ', rfl, q, l⟩ | rfl
  · rw [show sSeq F G ρ = G ρ' by unfold sSeq; rw [q]]
    exact (h2 x).h ρ' l
  · exact ⟨ρ', by unfold sSeq; rw [q], l⟩
  · exact ⟨ρ', by unfold sSeq; rw [q], l⟩
  · exact ⟨ρ', by unfold sSeq; rw [q], l⟩
  · exact ⟨ρ', by unfold sSeq; rw [q], l⟩
  · trivial
/-- a value, then what is done with it -/
theorem sj_sE {m : M X} {e : β → X} {o : Ex β} {K : X → SF} {k : β → O τ σ α} (hm : EK κ κ2 κx m e o) (hx : Le C.x κx) (hk : ∀ b, SJ C κ2 (K (e b)) κ' (k b)) : SJ C κ (sE m K) κ' (o.to k) := .mk fun ρ hl => by
  rcases hm.elim hl with ⟨a, ρ', rfl, q, l⟩ | ⟨c, fs, ρ', rfl, q, l⟩ | rfl
  · rw [show sE m K ρ = K (e a) ρ' by unfold sE; rw [q]]
    exact (hk a).h ρ' l
  · exact ⟨ρ', by unfold sE; rw [q], hx.trans l⟩
  · trivial
/-- the same where the slots behind hang on the value -/
theorem sj_sG {m : M X} {e : β → X} {κb : β → Env} {o : Ex β} {K : X → SF} {k : β → O τ σ α} (hm : EG κ κx m e κb o) (hx : Le C.x κx) (hk : ∀ b, SJ C (κb b) (K (e b)) κ' (k b)) : SJ C κ (sE m K) κ' (o.to k) := .mk fun ρ hl => by
  have z := hm.h ρ hl
  cases o with
  | ok b =>
    obtain ⟨ρ', q, l⟩ := z
    rw [show sE m K ρ = K (e b) ρ' by unfold sE; rw [q]]
    exact (hk b).h ρ' l
  | exc c fs =>
    obtain ⟨ρ', q, l⟩ := z
    exact ⟨ρ', by unfold sE; rw [q], hx.trans l⟩
  | stuck => trivial
theorem sj_tgt {gt : D → Env → Option Env} {e : β → D} {κb : β → Env} (hg : TG gt κ e κb) (b : β) : SJ (σ := β) C κ (fun ρ => match gt (e b) ρ with | some ρ' => RS.nx ρ' | none => .stuck) κb (.nx b) := .mk fun ρ hl => by
  obtain ⟨ρ', q, l⟩ := hg b ρ hl
  exact ⟨ρ', by show (match gt (e b) ρ with | some ρ' => RS.nx ρ' | none => .stuck) = _; rw [q], l⟩
theorem sj_asg {gt : D → Env → Option Env} {e : β → D} {κb : β → Env} {o : Ex β} (hm : EK κ κ2 κx f e o) (hg : TG gt κ2 e κb) (hx : Le C.x κx) : SJ (σ := β) C κ (sAsg f gt) κb (o.to fun b => .nx b) := sj_sE hm hx fun b => sj_tgt hg b
theorem sj_asgG {gt : D → Env → Option Env} {e : β → D} {κ1' κb : β → Env} {o : Ex β} (hm : EG κ κx f e κ1' o) (hg : ∀ b, ∀ ρ, Le (κ1' b) ρ → ∃ ρ', gt (e b) ρ = some ρ' ∧ Le (κb b) ρ') (hx : Le C.x κx) : SJ (σ := β) C κ (sAsg f gt) κb (o.to fun b => .nx b) := sj_sG hm hx fun b => .mk fun ρ hl => by
  obtain ⟨ρ', q, l⟩ := hg b ρ hl
  exact ⟨ρ', by rw [q], l⟩
theorem sj_ret {e : β → D} {o : Ex β} {t : β → α} (hm : EK κ κ2 κx f e o) (hx : Le C.x κx) (he : ∀ b, e b = C.e (t b)) (hr : ∀ b, Le (C.r (t b)) κ2) : SJ C κ (sRet f) κ' (o.to fun b => .ret (t b)) := sj_sE hm hx fun b => .mk fun ρ hl => ⟨ρ, by rw [he], (hr b).trans hl⟩
theorem sj_retG {e : β → D} {κb : β → Env} {o : Ex β} {t : β → α} (hm : EG κ κx f e κb o) (hx : Le C.x κx) (he : ∀ b, e b = C.e (t b)) (hr : ∀ b, Le (C.r (t b)) (κb b)) : SJ C κ (sRet f) κ' (o.to fun b => .ret (t b)) := sj_sG hm hx fun b => .mk fun ρ hl => ⟨ρ, by rw [he], (hr b).trans hl⟩
theorem sj_retN {a : α} (he : C.e a = .non) (hr : Le (C.r a) κ) : SJ C κ sRetN κ' (.ret a) := .mk fun ρ hl => ⟨ρ, by rw [he]; rfl, hr.trans hl⟩
theorem sj_next (x : σ) (h : Le (κ' x) κ) : SJ C κ sNext κ' (.nx x) := .mk fun ρ hl => ⟨ρ, rfl, h.trans hl⟩
theorem sj_brk (y : τ) (h : Le (C.b y) κ) : SJ C κ sBrk κ' (.brk y) := .mk fun ρ hl => ⟨ρ, rfl, h.trans hl⟩
theorem sj_cnt (y : τ) (h : Le (C.b y) κ) : SJ C κ sCnt κ' (.cnt y) := .mk fun ρ hl => ⟨ρ, rfl, h.trans hl⟩
theorem sj_raise (c : Str) (h : Le C.x κ) : SJ C κ (sRaise c) κ' (.exc c []) := .mk fun ρ hl => ⟨ρ, rfl, h.trans hl⟩
theorem sj_drop {e : β → D} {o : Ex β} (hm : EK κ κ2 κx f e o) (hx : Le C.x κx) : SJ (σ := Unit) C κ (sDrop f) (fun _ => κ2) (o.to fun _ => .nx ()) := sj_sE hm hx fun b => .mk fun ρ hl => ⟨ρ, rfl, hl⟩
theorem sj_dropG {e : β → D} {κb : β → Env} {o : Ex β} (hm : EG κ κx f e κb o) (hx : Le C.x κx) : SJ (σ := β) C κ (sDrop f) κb (o.to fun b => .nx b) := sj_sG hm hx fun b => .mk fun ρ hl => ⟨ρ, rfl, hl⟩
theorem sj_if {c : M Bool} {oc : Ex Bool} {o1 o2 : O τ σ α} (hc : EK κ κ2 κx c id oc) (hx : Le C.x κx) (h1 : SJ C κ2 F κ' o1) (h2 : SJ C κ2 G κ' o2) : SJ C κ (sIf c F G) κ' (oc.to fun b => if b = true then o1 else o2) := sj_sE hc hx fun b => by
  cases b with
  | true => exact h1
  | false => exact h2
theorem sj_ifG {c : M Bool} {e : β → Bool} {κb : β → Env} {oc : Ex β} {o1 o2 : β → O τ σ α} (hc : EG κ κx c e κb oc) (hx : Le C.x κx) (h1 : ∀ b, SJ C (κb b) F κ' (o1 b)) (h2 : ∀ b, SJ C (κb b) G κ' (o2 b)) : SJ C κ (sIf c F G) κ' (oc.to fun b => if e b = true then o1 b else o2 b) := sj_sG hc hx fun b => by
  cases h : e b with
  | true => exact h1 b
  | false => exact h2 b
/-! loops -/
theorem sj_forGo {gt : D → Env → Option Env} {e : β → D} {κb : β → σ → Env} {k : β → σ → O σ σ α} (hg : ∀ x, TG gt (κ' x) e fun b => κb b x) (hb : ∀ b x, SJ ⟨κ', C.e, C.r, C.x⟩ (κb b x) F κ' (k b x)) : ∀ (xs : List β) (x : σ), SJ C (κ' x) (forGo gt F (xs.map e)) κ' (forO k xs x)
  | [], x => .mk fun ρ hl => ⟨ρ, rfl, hl⟩
  | b :: xs, x => .mk fun ρ hl => by
    obtain ⟨ρ1, q1, l1⟩ := hg x b ρ hl
    have ih := sj_forGo hg hb xs
    rw [List.map_cons]
    unfold forO forGo
    rw [q1]
    dsimp only
    rcases (hb b x).elim l1 with ⟨y, ρ', h, q, l⟩ | ⟨a, ρ', h, q, l⟩ | ⟨y, ρ', h, q, l⟩ | ⟨y, ρ', h, q, l⟩ | ⟨c, fs, ρ', h, q, l⟩ | h
    · rw [h, q]; exact (ih y).h ρ' l
    · rw [h, q]; exact ⟨ρ', rfl, l⟩
    · rw [h, q]; exact ⟨ρ', rfl, l⟩
    · rw [h, q]; exact (ih y).h ρ' l
    · rw [h, q]; exact ⟨ρ', rfl, l⟩
    · rw [h]; trivial
theorem sj_for {fi : M (List D)} {gt : D → Env → Option Env} {e : β → D} {κb : β → σ → Env} {k : β → σ → O σ σ α} {oi : Ex (List β)} (x0 : σ) (hi : EK κ κ2 κx fi (List.map e) oi) (hx : Le C.x κx) (h0 : Le (κ' x0) κ2) (hg : ∀ x, TG gt (κ' x) e fun b => κb b x) (hb : ∀ b x, SJ ⟨κ', C.e, C.r, C.x⟩ (κb b x) F κ' (k b x)) : SJ C κ (sFor fi gt F) κ' (oi.to fun xs => forO k xs x0) := sj_sE hi hx fun xs => sj_pre h0 (sj_forGo hg hb xs x0)
theorem sj_forG {fi : M (List D)} {gt : D → Env → Option Env} {e : β → D} {es : γ → List β} {κ1' : γ → Env} {κb : β → σ → Env} {k : β → σ → O σ σ α} {oi : Ex γ} (x0 : γ → σ) (hi : EG κ κx fi (fun p => (es p).map e) κ1' oi) (hx : Le C.x κx) (h0 : ∀ p, Le (κ' (x0 p)) (κ1' p)) (hg : ∀ x, TG gt (κ' x) e fun b => κb b x) (hb : ∀ b x, SJ ⟨κ', C.e, C.r, C.x⟩ (κb b x) F κ' (k b x)) : SJ C κ (sFor fi gt F) κ' (oi.to fun p => forO k (es p) (x0 p)) := sj_sG hi hx fun p => sj_pre (h0 p) (sj_forGo hg hb (es p) (x0 p))
open Classical in
/-- a while loop -/
def whlN {σ α : Type} (c : σ → Ex Bool) (k : σ → O σ σ α) : Nat → σ → O σ σ α
  | 0, _ => .stuck
  | n + 1, x => (c x).to fun b => if b = true then (match k x with
    | .nx y => whlN c k n y
    | .cnt y => whlN c k n y
    | .brk y => .nx y
    | .ret a => .ret a
    | .exc c fs => .exc c fs
    | .stuck => .stuck) else .nx x
theorem sj_whlN {c : M Bool} {oc : σ → Ex Bool} {k : σ → O σ σ α} (hc : ∀ x, EK (κ' x) (κ' x) (κ' x) c id (oc x)) (hx : ∀ x, Le C.x (κ' x)) (hb : ∀ x, SJ ⟨κ', C.e, C.r, C.x⟩ (κ' x) F κ' (k x)) : ∀ (n : Nat) (x : σ), SJ ⟨κ', C.e, C.r, C.x⟩ (κ' x) (whileN c F n) κ' (whlN oc k n x)
  | 0, x => .mk fun ρ hl => trivial
  | n + 1, x => by
    unfold whlN
    refine sj_sE (C := ⟨κ', C.e, C.r, C.x⟩) (hc x) (hx x) fun b => ?_
    cases b with
    | false => exact .mk fun ρ hl => ⟨ρ, rfl, hl⟩
    | true =>
      refine .mk fun ρ hl => ?_
      have ih := sj_whlN hc hx hb n
      simp only [id_eq, if_true]
      rcases (hb x).elim hl with ⟨y, ρ', h, q, l⟩ | ⟨a, ρ', h, q, l⟩ | ⟨y, ρ', h, q, l⟩ | ⟨y, ρ', h, q, l⟩ | ⟨c, fs, ρ', h, q, l⟩ | h
      · rw [h, q]; exact (ih y).h ρ' l
      · rw [h, q]; exact ⟨ρ', rfl, l⟩
      · rw [h, q]; exact ⟨ρ', rfl, l⟩
      · rw [h, q]; exact (ih y).h ρ' l
      · rw [h, q]; exact ⟨ρ', rfl, l⟩
      · rw [h]; trivial
/-! lists of one's own -/
def appT (xs : List β) (b : β) : Ex (List β) := if xs.length < sizeLine then .ok (xs ++ [b]) else .stuck
theorem app_go {e : β → D} {xs : List β} {b : β} {ρ1 : Env} (hg : ρ1[i]? = some (some (eO e xs))) : (match ρ1[i]? with
    | some (some (.lst true ds)) => if ds.length < sizeLine then Res.ok D.non (ρ1.set i (some (.lst true (ds ++ [e b])))) else .stuck
    | _ => .stuck) = if xs.length < sizeLine then .ok .non (ρ1.set i (some (eO e (xs ++ [b])))) else .stuck := by
  rw [hg]
  show (if (xs.map e).length < sizeLine then Res.ok D.non (ρ1.set i (some (.lst true (xs.map e ++ [e b])))) else .stuck) = _
  rw [List.length_map]
  unfold eO
  rw [List.map_append]
  rfl
theorem eg_app {e : β → D} {xs : List β} {o : Ex β} (hs : κ[i]? = some (some (eO e xs))) (hm : EK κ κ κ f e o) : EG κ κ (eApp i f) (fun _ : List β => D.non) (fun ys => κ.set i (some (eO e ys))) (o.bind fun b => appT xs b) := .mk fun ρ hl => by
  unfold eApp
  rw [hl.get hs]
  rcases hm.elim hl with ⟨b, ρ', rfl, q, l⟩ | ⟨c, fs, ρ', rfl, q, l⟩ | rfl
  · show RG _ κ _ _ (appT xs b)
    unfold appT
    by_cases c : xs.length < sizeLine
    · rw [if_pos c]
      refine ⟨ρ'.set i (some (eO e (xs ++ [b]))), ?_, l.set⟩
      show mbind f _ ρ = _
      rw [mbind_of q]
      refine (app_go (e := e) (xs := xs) (b := b) (l.get hs)).trans ?_
      rw [if_pos c]
    · rw [if_neg c]; trivial
  · refine ⟨ρ', ?_, l⟩
    show mbind f _ ρ = _
    unfold mbind
    rw [q]
  · trivial
def extT (xs ys : List β) : Ex (List β) := if xs.length + ys.length ≤ 1000000 then .ok (xs ++ ys) else .stuck
theorem eg_ext {e : β → D} {ee : List β → D} [Ls ee e] {xs : List β} {o : Ex (List β)} (hs : κ[i]? = some (some (eO e xs))) (hm : EK κ κ κ f ee o) : EG κ κ (eExt i f) (fun _ : List β => D.non) (fun ys => κ.set i (some (eO e ys))) (o.bind fun ys => extT xs ys) := .mk fun ρ hl => by
  unfold eExt
  rw [hl.get hs]
  rcases hm.elim hl with ⟨b, ρ', rfl, q, l⟩ | ⟨c, fs, ρ', rfl, q, l⟩ | rfl
  · show RG _ κ _ _ (extT xs b)
    unfold extT
    obtain ⟨ow, ho⟩ := Ls.z (e := ee) b
    by_cases c : xs.length + b.length ≤ 1000000
    · rw [if_pos c]
      refine ⟨ρ'.set i (some (eO e (xs ++ b))), ?_, l.set⟩
      show mbind f _ ρ = _
      rw [mbind_of q, ho, l.get hs]
      show (if (xs.map e).length + (b.map e).length ≤ 1000000 then Res.ok D.non (ρ'.set i (some (.lst true (xs.map e ++ b.map e)))) else .stuck) = _
      rw [List.length_map, List.length_map, if_pos c, ← List.map_append]
      rfl
    · rw [if_neg c]; trivial
  · refine ⟨ρ', ?_, l⟩
    show mbind f _ ρ = _
    unfold mbind
    rw [q]
  · trivial
/-- x[j] = b -/
def setT (xs : List β) (j : Int) (b : β) : Ex (List β) := match ixN xs.length j with
  | some n => .ok (xs.set n b)
  | none => .stuck
theorem sj_item {e : β → D} {o : Ex β} {fj : M D} {oj : Ex Int} {xs : List β} (hs : κ[i]? = some (some (eO e xs))) (hm : EK κ κ κ f e o) (hj : EK κ κ κ fj D.int oj) (hx : Le C.x κ) : SJ (σ := List β) C κ (sAsg f (gItem i fj)) (fun ys => κ.set i (some (eO e ys))) ((o.bind fun b => oj.noX.bind fun j => setT xs j b).to fun ys => .nx ys) := .mk fun ρ hl => by
  unfold sAsg
  rcases hm.elim hl with ⟨b, ρ', rfl, q, l⟩ | ⟨c, fs, ρ', rfl, q, l⟩ | rfl
  · rw [sE_of q]
    unfold gItem
    rw [l.get hs]
    rcases hj.elim l with ⟨j, ρ2, rfl, q2, l2⟩ | ⟨c, fs, ρ2, rfl, q2, l2⟩ | rfl
    · show RJ C _ _ (Ex.to (setT xs j b) _)
      unfold setT
      cases hn : ixN xs.length j with
      | none => trivial
      | some n =>
        refine ⟨ρ2.set i (some (eO e (xs.set n b))), ?_, l2.set⟩
        simp only [eO, q2, l2.get hs]
        have e0 : ρ2.length = ρ'.length := by rw [← l2.1, ← l.1]
        rw [if_pos e0, List.length_map, hn]
        simp only [Option.map_some, List.map_set]
    · trivial
    · trivial
  · exact ⟨ρ', by unfold sE; rw [q], hx.trans l⟩
  · trivial
theorem ej_vix {e : List β → D} {f1 : β → D} [Sq e f1] [Fz f1] {xs : List β} {fj : M D} {oj : Ex Int} (i : Nat) (hs : κ[i]? = some (some (e xs))) (hj : EK κ κ κ fj D.int oj) : EK κ κ κ (eVix i fj) f1 (oj.bind fun j => ixT xs j) := .mk fun ρ hl => by
  unfold eVix
  rw [hl.get hs]
  rcases hj.elim hl with ⟨j, ρ2, rfl, q2, l2⟩ | ⟨c, fs, ρ2, rfl, q2, l2⟩ | rfl
  · show RG _ κ _ _ (ixT xs j)
    unfold ixT
    cases ha : atI xs j with
    | none => trivial
    | some a =>
      refine ⟨ρ2, ?_, l2⟩
      show mbind fj _ ρ = _
      rw [mbind_of q2]
      simp only [l2.get hs, Sq.i, Option.bind_some, atI_map, ha, Option.map_some]
      exact if_pos (Fz.o a)
  · refine ⟨ρ2, ?_, l2⟩
    show mbind fj _ ρ = _
    unfold mbind
    rw [q2]
  · trivial
/-- n op= b -/
theorem sj_aug {op : D → D → Option D} {n : Int} {e : β → D} {o : Ex β} {oc : β → Ex Int} (i : Nat) (hs : κ[i]? = some (some (.int n))) (hm : EK κ κ κ f e o) (ho : ∀ b, Op (op (.int n) (e b)) D.int (oc b)) (hx : Le C.x κ) : SJ (σ := Int) C κ (sAug i op f) (fun m => κ.set i (some (.int m))) ((o.bind oc).to fun m => .nx m) := .mk fun ρ hl => by
  unfold sAug
  rw [hl.get hs]
  rcases hm.elim hl with ⟨b, ρ', rfl, q, l⟩ | ⟨c, fs, ρ', rfl, q, l⟩ | rfl
  · have z := ho b
    show RJ C _ _ ((oc b).to _)
    cases h : oc b with
    | ok m =>
      rw [h] at z
      refine ⟨ρ'.set i (some (.int m)), ?_, l.set⟩
      show sE f _ ρ = _
      rw [sE_of q, show op (.int n) (e b) = some (.int m) from z]
      show (if i < ρ'.length then RS.nx (ρ'.set i (some (.int m))) else .stuck) = _
      rw [if_pos (by rw [← l.1]; exact (List.getElem?_eq_some_iff.mp hs).1)]
    | exc c fs => rw [h] at z; exact z.elim
    | stuck => trivial
  · refine ⟨ρ', ?_, hx.trans l⟩
    show sE f _ ρ = _
    unfold sE; rw [q]
  · trivial
theorem sj_frz {e e' : β → D} [Frz e e'] (a : β) (i : Nat) {o : O τ σ α} (hs : κ[i]? = some (some (e a))) (h : SJ C (κ.set i (some (e' a))) F κ' o) : SJ C κ (sFrz i F) κ' o := .mk fun ρ hl => by
  have e1 : frzAt i ρ = ρ.set i (some (e' a)) := by unfold frzAt; rw [hl.get hs]; show ρ.set i (some (frz (e a))) = _; rw [Frz.z (e := e)]
  have e2 : sFrz i F ρ = F (ρ.set i (some (e' a))) := by unfold sFrz; rw [e1]
  rw [e2]
  exact h.h _ hl.set
theorem sj_frz0 (i : Nat) {o : O τ σ α} (hs : κ[i]? = some none) (h : SJ C κ F κ' o) : SJ C κ (sFrz i F) κ' o := .mk fun ρ hl => by
  show RJ C κ' (F (frzAt i ρ)) o
  have : Le κ (frzAt i ρ) := by
    unfold frzAt
    split
    · have e : κ.set i none = κ := by
        refine List.ext_getElem? fun k => ?_
        rw [List.getElem?_set]
        split
        · rename_i c; subst c; rw [hs, if_pos (List.getElem?_eq_some_iff.mp hs).1]
        · rfl
      rw [← e]
      exact hl.setN
    · exact hl
  exact h.h _ this
/-! defs -/
theorem le_outs {κ ρ : Env} {pr : List Nat} {n : Nat} (h : Le κ ρ) (hn : ∀ j ∈ pr, j < n → ∃ d, κ[j]? = some (some d)) : outs pr n ρ = outs pr n κ := by
  refine List.ext_getElem? fun k => ?_
  unfold outs
  rw [List.getElem?_take, List.getElem?_take]
  by_cases c : k < n
  · rw [if_pos c, if_pos c]
    by_cases hk : k ∈ pr
    · have nm : k ∉ (List.range n).filter fun j => !pr.contains j := by
        intro z
        have := (List.mem_filter.mp z).2
        simp [hk] at this
      have keep : ∀ (vs : List Nat) (ρ : Env), k ∉ vs → (wipeE ρ vs)[k]? = ρ[k]? := by
        intro vs
        induction vs with
        | nil => intro ρ _; rfl
        | cons v vs ih =>
          intro ρ hv
          show ((wipeE ρ vs).set v none)[k]? = _
          rw [List.getElem?_set_ne (fun e => hv (by subst e; exact List.mem_cons_self)), ih ρ (fun z => hv (List.mem_cons_of_mem _ z))]
      rw [keep _ _ nm, keep _ _ nm]
      obtain ⟨d, hd⟩ := hn k hk c
      rw [hd, h.get hd]
    · have m : k ∈ (List.range n).filter fun j => !pr.contains j := List.mem_filter.mpr ⟨List.mem_range.mpr c, by simp [hk]⟩
      by_cases hl : k < ρ.length
      · rw [wipeE_none m hl, wipeE_none m (by rw [h.1]; exact hl)]
      · have wl : ∀ (vs : List Nat) (ρ : Env), (wipeE ρ vs).length = ρ.length := fun vs ρ => by
          induction vs with
          | nil => rfl
          | cons w ws ih => show ((wipeE ρ ws).set w none).length = _; rw [List.length_set, ih]
        rw [List.getElem?_eq_none (by rw [wl]; omega), List.getElem?_eq_none (by rw [wl]; have := h.1; omega)]
  · rw [if_neg c, if_neg c]
theorem ft_of {pr : List Nat} {n L : Nat} {ds : List D} {b : SF} {κ0 : Env} {C : Cz τ α} {κ' : σ → Env} {o : O τ σ α} {eo : α → Env} {nv : σ → Ex α} (h : SJ C κ0 b κ' o) (h0 : ds.map some ++ List.replicate (L - ds.length) none = κ0) (hL : n ≤ κ0.length) (hr : ∀ a, (C.r a).length = κ0.length) (hx : C.x.length = κ0.length) (ho : ∀ a, outs pr n (C.r a) = eo a) (hp : ∀ a, ∀ j ∈ pr, j < n → ∃ d, (C.r a)[j]? = some (some d)) (hn : ∀ x, (∃ a, nv x = .ok a ∧ C.e a = .non ∧ C.r a = κ' x) ∨ nv x = .stuck) : FT (runS pr n L b) ds C.e eo (o.fin nv) := by
  subst h0
  refine ⟨?_⟩
  have go : ∀ a ρ', Le (C.r a) ρ' → n ≤ ρ'.length ∧ outs pr n ρ' = eo a := fun a ρ' l => ⟨by rw [← l.1, hr]; exact hL, by rw [le_outs l (hp a), ho]⟩
  unfold runS
  rcases h.elim .refl with ⟨x, ρ', rfl, q, l⟩ | ⟨a, ρ', rfl, q, l⟩ | ⟨y, ρ', rfl, q, l⟩ | ⟨y, ρ', rfl, q, l⟩ | ⟨c, fs, ρ', rfl, q, l⟩ | rfl
  · rcases hn x with ⟨a, h1, h2, h3⟩ | h1
    · show RF _ _ _ (nv x)
      rw [h1]
      rw [← h3] at l
      obtain ⟨g1, g2⟩ := go a ρ' l
      show (match b _ with | .nx ρ => _ | .ret d ρ => _ | .exc c fs ρ => _ | _ => _) = _
      rw [q]
      show (if n ≤ ρ'.length then Res.ok D.non (outs pr n ρ') else .stuck) = _
      rw [if_pos g1, g2, h2]
    · show RF _ _ _ (nv x)
      rw [h1]; trivial
  · obtain ⟨g1, g2⟩ := go a ρ' l
    show (match b _ with | .nx ρ => _ | .ret d ρ => _ | .exc c fs ρ => _ | _ => _) = _
    rw [q]
    show (if n ≤ ρ'.length then Res.ok (C.e a) (outs pr n ρ') else .stuck) = _
    rw [if_pos g1, g2]
  · trivial
  · trivial
  · refine ⟨outs pr n ρ', ?_⟩
    show (match b _ with | .nx ρ => _ | .ret d ρ => _ | .exc c fs ρ => _ | _ => _) = _
    rw [q]
    exact if_pos (by rw [← l.1, hx]; exact hL)
  · trivial
theorem FT.conv {F : List D → Res D} {ds : List D} {e : β → D} {eo : β → Env} {o o' : Ex β} (h : FT F ds e eo o) (he : o = o') : FT F ds e eo o' := he ▸ h
end
end DL

set_option Elab.async false
set_option linter.all false
set_option maxRecDepth 100000
set_option maxHeartbeats 4000000
namespace DL
open PySem PySem.Spec L2
/-! ## typed readings: expressions that change a state -/
section
variable {X Y Z α β γ σ σ1 τ S α1 α2 α3 : Type} {C : Cz τ α} {κ κ1 κ2 κ3 κx ρ : Env} {f fa fb fc : M D} {g : M (List D)} {F G : SF} {i j : Nat} {κ' : σ → Env} {κs : S → Env}
theorem eg_bind {m : M X} {k : X → M Y} {e : α → X} {e2 : β → Y} {κ1 : α → Env} {κ2 : β → Env} {o : Ex α} {ok : α → Ex β} (h : EG κ κx m e κ1 o) (hk : ∀ a, EG (κ1 a) κx (k (e a)) e2 κ2 (ok a)) : EG κ κx (mbind m k) e2 κ2 (o.bind ok) := by
  refine .mk fun ρ hl => ?_
  have z := h.h ρ hl
  cases o with
  | ok a =>
    obtain ⟨ρ', q, l⟩ := z
    rw [show mbind m k ρ = k (e a) ρ' by unfold mbind; rw [q]]
    exact (hk a).h ρ' l
  | exc c fs => obtain ⟨ρ', q, l⟩ := z; exact ⟨ρ', by unfold mbind; rw [q], l⟩
  | stuck => trivial
theorem eg_ret {x : X} {e : α → X} {κ1 : α → Env} {a : α} (h : x = e a) (hk : κ = κ1 a) : EG κ κx (mret x) e κ1 (.ok a) := .mk fun ρ hl => ⟨ρ, by rw [h]; rfl, hk ▸ hl⟩
theorem eg_lift {x : Option X} {e : α → X} {s : S} {o : Ex α} (h : OpX x e o) : EG (κs s) κx (mlift x) (fun p => e p.1) (fun p => κs p.2) (o.st s) := by
  refine .mk fun ρ hl => ?_
  cases o with
  | ok a => exact ⟨ρ, by rw [show x = some (e a) from h]; rfl, hl⟩
  | exc c fs => exact absurd h id
  | stuck => trivial
abbrev GS (κs : S → Env) (κx : Env) (f : M X) (e : α → X) (o : S → Ex (α × S)) : Prop := ∀ s, EG (κs s) κx f (fun p => e p.1) (fun p => κs p.2) (o s)
theorem gs_p {f : M X} {e : α → X} {o : S → Ex α} (h : ∀ s, EK (κs s) (κs s) κx f e (o s)) : GS κs κx f e fun s => (o s).st s := fun s => .mk fun ρ hl => by
  have z := (h s).h ρ hl
  show RG _ κx _ (f ρ) ((o s).st s)
  cases hh : o s with
  | ok a => rw [hh] at z; exact z
  | exc c fs => rw [hh] at z; exact z
  | stuck => trivial
theorem GS.conv {f : M X} {e : α → X} {o o' : S → Ex (α × S)} (h : GS κs κx f e o) (he : ∀ s, o s = o' s) : GS κs κx f e o' := (funext he : o = o') ▸ h
theorem gs_frz {e e' : α → D} [Frz e e'] {o : S → Ex (α × S)} (h : GS κs κx f e o) : GS κs κx (eFrz f) e' o := fun s => .mk fun ρ hl => by
  have z := (h s).h ρ hl
  cases hh : o s with
  | ok a => rw [hh] at z; obtain ⟨ρ', q, l⟩ := z; exact ⟨ρ', by unfold eFrz; rw [mbind_of q, Frz.z]; rfl, l⟩
  | exc c fs => rw [hh] at z; obtain ⟨ρ', q, l⟩ := z; exact ⟨ρ', by unfold eFrz mbind; rw [q], l⟩
  | stuck => trivial
theorem gs_e1 {op : D → Option D} {e1 : α1 → D} {e : α → D} {oa : S → Ex (α1 × S)} {oc : α1 → Ex α} (ha : GS κs κx fa e1 oa) (ho : ∀ a, Op (op (e1 a)) e (oc a)) : GS κs κx (DL.e1 op fa) e fun s => (oa s).bind fun p => (oc p.1).st p.2 := fun s => eg_bind (ha s) fun p => eg_lift (ho p.1)
theorem gs_e2 {op : D → D → Option D} {e1 : α1 → D} {e2 : α2 → D} {e : α → D} {oa : S → Ex (α1 × S)} {ob : S → Ex (α2 × S)} {oc : α1 → α2 → Ex α} (ha : GS κs κx fa e1 oa) (hb : GS κs κx fb e2 ob) (ho : ∀ a b, Op (op (e1 a) (e2 b)) e (oc a b)) : GS κs κx (DL.e2 op fa fb) e fun s => (oa s).bind fun p => (ob p.2).bind fun q => (oc p.1 q.1).st q.2 := fun s => eg_bind (ha s) fun p => eg_bind (hb p.2) fun q => eg_lift (ho p.1 q.1)
theorem gs_bi {op : List D → Option D} {es : α1 → List D} {e : α → D} {oa : S → Ex (α1 × S)} {oc : α1 → Ex α} (ha : GS κs κx g es oa) (ho : ∀ a, Op (op (es a)) e (oc a)) : GS κs κx (eBi op g) e fun s => (oa s).bind fun p => (oc p.1).st p.2 := fun s => eg_bind (ha s) fun p => eg_lift (ho p.1)
theorem gs_b {o : S → Ex (Bool × S)} (h : GS κs κx f D.bl o) : GS κs κx (eB f) id o := fun s => .mk fun ρ hl => by
  have z := (h s).h ρ hl
  cases hh : o s with
  | ok a => rw [hh] at z; obtain ⟨ρ', q, l⟩ := z; exact ⟨ρ', by unfold eB; rw [mbind_of q]; rfl, l⟩
  | exc c fs => rw [hh] at z; obtain ⟨ρ', q, l⟩ := z; exact ⟨ρ', by unfold eB mbind; rw [q], l⟩
  | stuck => trivial
theorem gs_not {c : M Bool} {o : S → Ex (Bool × S)} (h : GS κs κx c id o) : GS κs κx (mNot c) id fun s => (o s).bind fun p => .ok (!p.1, p.2) := fun s => eg_bind (h s) fun p => eg_ret rfl rfl
theorem gs_enot {o : S → Ex (Bool × S)} (h : GS κs κx f D.bl o) : GS κs κx (eNot f) D.bl fun s => (o s).bind fun p => .ok (!p.1, p.2) := fun s => eg_bind (h s) fun p => eg_ret rfl rfl
theorem gs_and {c c2 : M Bool} {o o2 : S → Ex (Bool × S)} (h : GS κs κx c id o) (h2 : GS κs κx c2 id o2) : GS κs κx (mAnd c c2) id fun s => (o s).bind fun p => if p.1 = true then o2 p.2 else .ok (false, p.2) := fun s => eg_bind (h s) fun p => by
  obtain ⟨b, s2⟩ := p
  cases b with
  | true => exact h2 s2
  | false => exact eg_ret (x := false) rfl rfl
theorem gs_or {c c2 : M Bool} {o o2 : S → Ex (Bool × S)} (h : GS κs κx c id o) (h2 : GS κs κx c2 id o2) : GS κs κx (mOr c c2) id fun s => (o s).bind fun p => if p.1 = true then .ok (true, p.2) else o2 p.2 := fun s => eg_bind (h s) fun p => by
  obtain ⟨b, s2⟩ := p
  cases b with
  | true => exact eg_ret (x := true) rfl rfl
  | false => exact h2 s2
theorem gs_eand {o o2 : S → Ex (Bool × S)} (h : GS κs κx fa D.bl o) (h2 : GS κs κx fb D.bl o2) : GS κs κx (eAnd fa fb) D.bl fun s => (o s).bind fun p => if p.1 = true then o2 p.2 else .ok (false, p.2) := fun s => eg_bind (h s) fun p => by
  obtain ⟨b, s2⟩ := p
  cases b with
  | true => exact h2 s2
  | false => exact eg_ret (x := D.bl false) (a := (false, s2)) rfl rfl
theorem gs_eor {o o2 : S → Ex (Bool × S)} (h : GS κs κx fa D.bl o) (h2 : GS κs κx fb D.bl o2) : GS κs κx (eOr fa fb) D.bl fun s => (o s).bind fun p => if p.1 = true then .ok (true, p.2) else o2 p.2 := fun s => eg_bind (h s) fun p => by
  obtain ⟨b, s2⟩ := p
  cases b with
  | true => exact eg_ret (x := D.bl true) (a := (true, s2)) rfl rfl
  | false => exact h2 s2
theorem gs_if {c : M Bool} {e : α → D} {oc : S → Ex (Bool × S)} {o o2 : S → Ex (α × S)} (hc : GS κs κx c id oc) (h : GS κs κx fa e o) (h2 : GS κs κx fb e o2) : GS κs κx (eIf c fa fb) e fun s => (oc s).bind fun p => if p.1 = true then o p.2 else o2 p.2 := fun s => eg_bind (hc s) fun p => by
  obtain ⟨b, s2⟩ := p
  cases b with
  | true => exact h s2
  | false => exact h2 s2
theorem gs_cons {e1 : α1 → D} {es : α2 → List D} {oa : S → Ex (α1 × S)} {ob : S → Ex (α2 × S)} (ha : GS κs κx f e1 oa) (hb : GS κs κx g es ob) : GS κs κx (aCons f g) (fun p : α1 × α2 => e1 p.1 :: es p.2) fun s => (oa s).bind fun p => (ob p.2).bind fun q => .ok ((p.1, q.1), q.2) := fun s => eg_bind (ha s) fun p => eg_bind (hb p.2) fun q => eg_ret rfl rfl
theorem gs_tupH {e : α → D} [Fz e] {es : α1 → List D} {o : S → Ex (α1 × S)} (xs : α1 → List α) (h : GS κs κx g es o) (he : ∀ p, es p = (xs p).map e) (hl : ∀ p, (xs p).length ≤ 1000) : GS κs κx (eTup g) (eT e) fun s => (o s).bind fun p => .ok (xs p.1, p.2) := fun s => eg_bind (h s) fun p => by
  rw [if_pos (Nat.le_trans (by rw [he, List.length_map]; exact hl p.1) (by rw [sizeLine_eq]; decide))]
  exact eg_ret (by rw [he, frzL_map]; rfl) rfl
theorem gs_lstH {e : α → D} {es : α1 → List D} {o : S → Ex (α1 × S)} (xs : α1 → List α) (h : GS κs κx g es o) (he : ∀ p, es p = (xs p).map e) (hl : ∀ p, (xs p).length ≤ 1000) : GS κs κx (eLst g) (eO e) fun s => (o s).bind fun p => .ok (xs p.1, p.2) := fun s => eg_bind (h s) fun p => by
  rw [if_pos (Nat.le_trans (by rw [he, List.length_map]; exact hl p.1) (by rw [sizeLine_eq]; decide))]
  exact eg_ret (by rw [he]; rfl) rfl
theorem gs_tup2 {e1 : α1 → D} {e2 : α2 → D} [Fz e1] [Fz e2] {es : α3 → List D} {o : S → Ex (α3 × S)} (x : α3 → α1) (y : α3 → α2) (h : GS κs κx g es o) (he : ∀ p, es p = [e1 (x p), e2 (y p)]) : GS κs κx (eTup g) (e2P e1 e2) fun s => (o s).bind fun p => .ok ((x p.1, y p.1), p.2) := fun s => eg_bind (h s) fun p => by
  rw [he, if_pos (show [e1 (x p.1), e2 (y p.1)].length ≤ sizeLine by rw [sizeLine_eq]; show 2 ≤ 16777216; decide)]
  exact eg_ret (by show D.tup [frz (e1 (x p.1)), frz (e2 (y p.1))] = _; rw [Fz.z, Fz.z]; rfl) rfl
/-- a call; the state is not handed over -/
theorem gs_call {F : List D → Res D} {dfl : List D} {es : α1 → List D} {e : α → D} {o : S → Ex (α1 × S)} {oF : α1 → Ex α} {eo : α → Env} (hx : ∀ s, Le κx (κs s)) (h : GS κs κx g es o) (hF : ∀ p, FT F (es p ++ dfl) e eo (oF p)) : GS κs κx (eCall F g dfl []) e fun s => (o s).bind fun p => (oF p.1).st p.2 := fun s => eg_bind (h s) fun p => .mk fun ρ hl => by
  have z := (hF p.1).h
  cases ho : oF p.1 with
  | ok a => rw [ho] at z; exact ⟨ρ, by show (match F (es p.1 ++ dfl) with | .ok d os => _ | .exc c fs os => _ | .stuck => _) = _; rw [show F (es p.1 ++ dfl) = _ from z]; rfl, hl⟩
  | exc c fs => rw [ho] at z; obtain ⟨os, z⟩ := z; exact ⟨ρ, by show (match F (es p.1 ++ dfl) with | .ok d os => _ | .exc c fs os => _ | .stuck => _) = _; rw [z]; rfl, (hx _).trans hl⟩
  | stuck => trivial
theorem call_back {F : List D → Res D} {ds : List D} {e : β → D} {eS : S → D} {κ0 : Env} {eo : α × S → Env} {e' : α → D} {oF : Ex (α × S)} (hz_ : FT F ds (fun q : α × S => e' q.1) eo oF) (heo : ∀ q : α × S, (eo q)[0]? = some (some (eS q.2))) (hk : ∀ q : α × S, Le (κs q.2) (κ0.set i (some (eS q.2)))) (hn : κx[i]? = some none) (hx : Le κx κ0) {ρ : Env} (hl : Le κ0 ρ) : RG (fun p => κs p.2) κx (fun p : α × S => e' p.1) (match F ds with
    | .ok d os => .ok d (restore [(0, i)] os ρ)
    | .exc c fs os => .exc c fs (restore [(0, i)] os ρ)
    | .stuck => .stuck) oF := by
  have hz := hz_.h
  cases ho : oF with
  | ok q =>
    rw [ho] at hz
    have hz : F ds = .ok (e' q.1) (eo q) := hz
    rw [hz]
    refine ⟨ρ.set i (some (eS q.2)), ?_, (hk q).trans hl.set⟩
    show Res.ok _ (restore [(0, i)] (eo q) ρ) = _
    unfold restore
    rw [heo q]
    rfl
  | exc c fs =>
    rw [ho] at hz
    obtain ⟨os, hz⟩ := hz
    rw [hz]
    exact ⟨_, rfl, Le.restore _ os (fun p hp => by rw [List.mem_singleton.mp hp]; exact hn) (hx.trans hl)⟩
  | stuck => trivial
/-- a call by which the state is handed over, ahead of the others -/
theorem gs_callM {F : List D → Res D} {dfl : List D} {es : α1 → List D} {e : α → D} {eS : S → D} {og : S → Ex α1} {oF : S → α1 → Ex (α × S)} {eo : α × S → Env} (i : Nat) (hs : ∀ s, (κs s)[i]? = some (some (eS s))) (hk : ∀ s s', Le (κs s') ((κs s).set i (some (eS s')))) (hn : κx[i]? = some none) (hx : ∀ s, Le κx ((κs s).set i none)) (hg : ∀ s, EK ((κs s).set i none) ((κs s).set i none) κx g es (og s)) (heo : ∀ q, (eo q)[0]? = some (some (eS q.2))) (hF : ∀ s p, FT F ((eS s :: es p) ++ dfl) (fun q => e q.1) eo (oF s p)) : GS κs κx (eCall F (aCons (eMove i) g) dfl [(0, i)]) e fun s => (og s).bind fun p => oF s p := fun s => .mk fun ρ hl => by
  have m : eMove i ρ = .ok (eS s) (ρ.set i none) := by unfold eMove; rw [hl.get (hs s)]
  have hl2 : Le ((κs s).set i none) (ρ.set i none) := hl.set
  show RG _ κx _ _ ((og s).bind fun p => oF s p)
  rcases (hg s).elim hl2 with ⟨p, ρ', h, q, l⟩ | ⟨c, fs, ρ', h, q, l⟩ | h
  · have ha : aCons (eMove i) g ρ = .ok (eS s :: es p) ρ' := aCons_ok m q
    rw [h]
    show RG _ κx _ _ (oF s p)
    unfold eCall
    rw [mbind_of ha]
    refine call_back (e := e) (hF s p) heo (fun q => ?_) hn (hx s) l
    have := hk s q.2
    rwa [List.set_set]
  · rw [h]
    refine ⟨ρ', ?_, l⟩
    unfold eCall aCons mbind
    rw [m]
    dsimp only
    rw [q]
  · rw [h]; trivial
/-- f(x, g(x)) -/
theorem gs_callL {F : List D → Res D} {dfl : List D} {es : α1 → List D} {e : α → D} {eS : S → D} {og : S → Ex (α1 × S)} {oF : S → α1 → Ex (α × S)} {eo : α × S → Env} (i : Nat) (hs : ∀ s, (κs s)[i]? = some (some (eS s))) (hk : ∀ s s', Le (κs s') ((κs s).set i (some (eS s')))) (hn : κx[i]? = some none) (hx : ∀ s, Le κx ((κs s).set i none)) (hg : GS κs κx g es og) (heo : ∀ q, (eo q)[0]? = some (some (eS q.2))) (hF : ∀ s p, FT F ((eS s :: es p) ++ dfl) (fun q => e q.1) eo (oF s p)) : GS κs κx (eCall F (aMvL i g) dfl [(0, i)]) e fun s => (og s).bind fun p => oF p.2 p.1 := fun s => .mk fun ρ hl => by
  have z := (hg s).h ρ hl
  show RG _ κx _ _ ((og s).bind fun p => oF p.2 p.1)
  cases h : og s with
  | ok p =>
    rw [h] at z
    obtain ⟨ρ', q, l⟩ := z
    have ha : aMvL i g ρ = .ok (eS p.2 :: es p.1) (ρ'.set i none) := by
      unfold aMvL
      rw [hl.get (hs s)]
      show mbind g _ ρ = _
      rw [mbind_of q]
      simp only [l.get (hs p.2)]
    show RG _ κx _ _ (oF p.2 p.1)
    unfold eCall
    rw [mbind_of ha]
    refine call_back (e := e) (hF p.2 p.1) heo (fun q => ?_) hn (hx p.2) l.set
    have := hk p.2 q.2
    rwa [List.set_set]
  | exc c fs =>
    rw [h] at z
    obtain ⟨ρ', q, l⟩ := z
    refine ⟨ρ', ?_, l⟩
    have ha : aMvL i g ρ = .exc c fs ρ' := by
      unfold aMvL
      rw [hl.get (hs s)]
      show mbind g _ ρ = _
      unfold mbind
      rw [q]
    unfold eCall mbind
    rw [ha]
  | stuck => trivial
theorem gs_seq {e : List α → D} {f1 : α → D} [Sq e f1] {o : S → Ex (List α × S)} (h : GS κs κx f e o) : GS κs κx (iSeq f) (List.map f1) o := fun s => .mk fun ρ hl => by
  have z := (h s).h ρ hl
  cases hh : o s with
  | ok a => rw [hh] at z; obtain ⟨ρ', q, l⟩ := z; exact ⟨ρ', by unfold iSeq; rw [mbind_of q, Sq.s (e := e)]; rfl, l⟩
  | exc c fs => rw [hh] at z; obtain ⟨ρ', q, l⟩ := z; exact ⟨ρ', by unfold iSeq mbind; rw [q], l⟩
  | stuck => trivial
theorem gs_rg1 {o : S → Ex (Int × S)} (h : GS κs κx f D.int o) : GS κs κx (iRg1 (aCons f aNil)) (List.map D.int) fun s => (o s).bind fun p => (rg1T p.1).st p.2 := fun s => .mk fun ρ hl => by
  have z := (h s).h ρ hl
  show RG _ κx _ _ ((o s).bind fun p => (rg1T p.1).st p.2)
  cases hh : o s with
  | ok a =>
    rw [hh] at z
    obtain ⟨ρ', q, l⟩ := z
    show RG _ κx _ _ ((rg1T a.1).st a.2)
    have q2 : aCons f aNil ρ = .ok [.int a.1] ρ' := aCons_ok q rfl
    unfold iRg1
    rw [mbind_of q2]
    dsimp only
    by_cases c : -(2 ^ 62) ≤ a.1 ∧ a.1 < 2 ^ 62
    · have e : rg1T a.1 = .ok (rng 0 a.1) := if_pos c
      rw [if_pos c, e]; exact ⟨ρ', by rw [rng_D]; rfl, l⟩
    · have e : rg1T a.1 = .stuck := if_neg c
      rw [e]; trivial
  | exc c fs => rw [hh] at z; obtain ⟨ρ', q, l⟩ := z; exact ⟨ρ', by unfold iRg1 aCons mbind; rw [q], l⟩
  | stuck => trivial
theorem gs_lcGo {gt : D → Env → Option Env} {tt : M Bool} {te : M D} {vs : List Nat} {f1 : β → D} {e : γ → D} {κb : β → S → Env} {κbx : Env} {ot : β → S → Ex (Bool × S)} {oe : β → S → Ex (γ × S)} (hw : ∀ s, wipeE (κs s) vs = κs s) (hg : ∀ s, TG gt (κs s) f1 fun b => κb b s) (ht : ∀ b, GS (κb b) κbx tt id (ot b)) (he : ∀ b, GS (κb b) κbx te e (oe b)) (hq : ∀ b s, Le (κs s) (wipeE (κb b s) vs)) :
    ∀ (xs : List β) s ρ r, lcS_ ot oe xs s = .ok r → Le (κs s) (wipeE ρ vs) → ∃ ρ', lcGo gt tt te vs (xs.map f1) ρ = .ok (r.1.map e) ρ' ∧ Le (κs r.2) ρ'
  | [], s, ρ, r, h, hl => by
    cases h
    exact ⟨wipeE ρ vs, rfl, hl⟩
  | b :: xs, s, ρ, r, h, hl => by
    obtain ⟨ρ1, e1, l1⟩ := hg s b _ hl
    unfold lcS_ at h
    have z := (ht b s).h ρ1 l1
    cases q1 : ot b s with
    | ok p =>
      rw [q1] at h z
      obtain ⟨ρ2, q2, l2⟩ := z
      rw [List.map_cons]
      unfold lcGo
      rw [e1]
      show ∃ ρ', mbind tt _ ρ1 = _ ∧ _
      rw [mbind_of q2]
      change (if p.1 = true then _ else _) = _ at h
      obtain ⟨c, s2⟩ := p
      cases c with
      | true =>
        rw [if_pos rfl] at h
        show ∃ ρ', (mbind te fun y => mbind (lcGo gt tt te vs (xs.map f1)) fun ys => mret (y :: ys)) ρ2 = _ ∧ _
        have z3 := (he b s2).h ρ2 l2
        cases q3 : oe b s2 with
        | ok q =>
          rw [show oe b (true, s2).2 = oe b s2 from rfl, q3] at h
          rw [q3] at z3
          obtain ⟨ρ3, q4, l3⟩ := z3
          change (lcS_ ot oe xs q.2).bind _ = _ at h
          cases hr : lcS_ ot oe xs q.2 with
          | ok zs =>
            rw [hr] at h
            cases h
            obtain ⟨ρ4, q5, l5⟩ := gs_lcGo hw hg ht he hq xs q.2 ρ3 zs hr ((hq b q.2).trans (l3.wipe vs))
            rw [mbind_of q4, mbind_of q5]
            exact ⟨ρ4, rfl, l5⟩
          | exc c fs => rw [hr] at h; cases h
          | stuck => rw [hr] at h; cases h
        | exc c fs => rw [show oe b (true, s2).2 = oe b s2 from rfl, q3] at h; cases h
        | stuck => rw [show oe b (true, s2).2 = oe b s2 from rfl, q3] at h; cases h
      | false =>
        rw [if_neg Bool.false_ne_true] at h
        show ∃ ρ', lcGo gt tt te vs (xs.map f1) ρ2 = _ ∧ _
        exact gs_lcGo hw hg ht he hq xs s2 ρ2 r h ((hq b s2).trans (l2.wipe vs))
    | exc c fs => rw [q1] at h; cases h
    | stuck => rw [q1] at h; cases h
theorem gs_lc {L : Nat} {fi : M (List D)} {gt : D → Env → Option Env} {tt : M Bool} {te : M D} {vs : List Nat} {f1 : β → D} {e : γ → D} {κb : β → S → Env} {oi : S → Ex (List β × S)} {ot : β → S → Ex (Bool × S)} {oe : β → S → Ex (γ × S)} (hL : ∀ s, (κs s).length = L) (hw : ∀ s, wipeE (κs s) vs = κs s) (hi : GS κs κx fi (List.map f1) oi) (hg : ∀ s, TG gt (κs s) f1 fun b => κb b s) (hq : ∀ b s, Le (κs s) (wipeE (κb b s) vs)) (ht : ∀ b, GS (κb b) (List.replicate L none) tt id (ot b)) (he : ∀ b, GS (κb b) (List.replicate L none) te e (oe b)) :
    GS κs κx (eLcL L fi gt tt te vs) (eO e) fun s => (oi s).bind fun p => lcS ot oe p.1 p.2 := fun s => eg_bind (hi s) fun p => .mk fun ρ hl => by
  unfold lcS
  by_cases c : p.1.length < sizeLine
  · rw [if_pos c]
    have hl2 : Le (κs p.2) (wipeE ρ vs) := by have := hl.wipe vs; rwa [hw] at this
    cases h : lcS_ ot oe p.1 p.2 with
    | ok r =>
      obtain ⟨ρ', q1, l1⟩ := gs_lcGo hw hg ht he hq p.1 p.2 ρ r h hl2
      refine ⟨ρ', ?_, l1⟩
      show (if (p.1.map f1).length < sizeLine ∧ ρ.length = L then noX (mbind (lcGo gt tt te vs (p.1.map f1)) (fun ys => mret (D.lst true ys)) ρ) else .stuck) = _
      rw [if_pos ⟨by rw [List.length_map]; exact c, by rw [← hl.1, hL]⟩, mbind_of q1]
      rfl
    | exc c fs => trivial
    | stuck => trivial
  · rw [if_neg c]
    trivial
theorem eg_appG {e : β → D} {o : S → Ex (β × S)} {xs : List β} {κb : S → Env} (s : S) (hs : ∀ s, (κs s)[i]? = some (some (eO e xs))) (hm : GS κs κx f e o) : EG (κs s) κx (eApp i f) (fun _ : List β × S => D.non) (fun p => (κs p.2).set i (some (eO e p.1))) ((o s).bind fun p => (appT xs p.1).st p.2) := .mk fun ρ hl => by
  have z := (hm s).h ρ hl
  unfold eApp
  rw [hl.get (hs s)]
  cases h : o s with
  | ok p =>
    rw [h] at z
    obtain ⟨ρ', q, l⟩ := z
    show RG _ κx _ _ ((appT xs p.1).st p.2)
    unfold appT
    by_cases c : xs.length < sizeLine
    · rw [if_pos c]
      refine ⟨ρ'.set i (some (eO e (xs ++ [p.1]))), ?_, l.set⟩
      show mbind f _ ρ = _
      rw [mbind_of q]
      refine (app_go (e := e) (xs := xs) (b := p.1) (l.get (hs p.2))).trans ?_
      rw [if_pos c]
    · rw [if_neg c]; trivial
  | exc c fs =>
    rw [h] at z
    obtain ⟨ρ', q, l⟩ := z
    refine ⟨ρ', ?_, l⟩
    show mbind f _ ρ = _
    unfold mbind
    rw [q]
  | stuck => trivial
/-! ## one behind the other, fused -/
theorem sj_then {o : Ex β} {k : β → O τ σ α} {κ1' : β → Env} (h1 : SJ (σ := β) C κ F κ1' (o.to fun b => .nx b)) (h2 : ∀ b, SJ C (κ1' b) G κ' (k b)) : SJ C κ (sSeq F G) κ' (o.to k) := by
  have z := sj_seq h1 h2
  have e : (o.to fun b => (O.nx b : O τ β α)).bind k = o.to k := by cases o <;> rfl
  rw [e] at z
  exact z
theorem sj_thenU {o : Ex β} {k : O τ σ α} (h1 : SJ (σ := Unit) C κ F (fun _ => κ2) (o.to fun _ => .nx ())) (h2 : SJ C κ2 G κ' k) : SJ C κ (sSeq F G) κ' (o.to fun _ => k) := by
  have z := sj_seq h1 fun _ => h2
  have e : (o.to fun _ => (O.nx () : O τ Unit α)).bind (fun _ => k) = o.to fun _ => k := by cases o <;> rfl
  rw [e] at z
  exact z
/-- a def of one return -/
theorem le_x {L : Nat} (h : κ.length = L) : Le (List.replicate L none) κ := ⟨by rw [List.length_replicate, h], fun i d e => by
  rw [List.getElem?_replicate] at e
  split at e <;> cases e⟩
theorem ft_ret {pr : List Nat} {n L : Nat} {ds : List D} {κ0 : Env} {e : β → D} {o : Ex β} {eo : β → Env} (h0 : ds.map some ++ List.replicate (L - ds.length) none = κ0) (h : EK κ0 κ0 (List.replicate L none) f e o) (hL : Nat.ble n κ0.length = true) (hLL : κ0.length = L) (ho : ∀ b, outs pr n κ0 = eo b) (hp : ∀ j ∈ pr, j < n → ∃ d, κ0[j]? = some (some d)) : FT (runS pr n L (sRet f) ) ds e eo o := by
  have z := ft_of (pr := pr) (n := n) (L := L) (ds := ds) (b := sRet f) (C := (⟨fun y : Unit => κ0, e, fun _ => κ0, List.replicate L none⟩ : Cz Unit β)) (κ' := fun _ : Unit => κ0) (o := o.to fun b => .ret b) (eo := eo) (nv := fun _ => .stuck) (sj_ret (t := id) h .refl (fun _ => rfl) fun _ => .refl) h0 (Nat.le_of_ble_eq_true hL) (fun _ => rfl) (by rw [List.length_replicate, hLL]) ho (fun _ => hp) (fun _ => .inr rfl)
  refine FT.conv z ?_
  cases o <;> rfl
theorem gs_at (s : S) (hk : Le (κs s) κ) {f : M X} {e : α → X} {o : S → Ex (α × S)} (h : GS κs κx f e o) : EG κ κx f (fun p => e p.1) (fun p => κs p.2) (o s) := .mk fun ρ hl => (h s).h ρ (hk.trans hl)
end
end DL

set_option Elab.async false
set_option linter.all false
set_option maxRecDepth 100000
set_option maxHeartbeats 4000000
namespace DL
open PySem PySem.Spec L2
/-! ## typed readings: short forms -/
def eQ : D → D := fun d => d
def eD : D → D := frz
theorem frzL_id : ∀ ds : List D, (∀ d ∈ ds, frz d = d) → frzL ds = ds
  | [], _ => rfl
  | d :: ds, h => by show frz d :: frzL ds = _; rw [h d List.mem_cons_self, frzL_id ds fun d hd => h d (List.mem_cons_of_mem _ hd)]
mutual
theorem frz_idem : ∀ d : D, frz (frz d) = frz d
  | .lst _ ds => by show D.lst false (frzL (frzL ds)) = _; rw [frzL_idem ds]; rfl
  | .dk _ ks ds => by show D.dk false ks (frzL (frzL ds)) = _; rw [frzL_idem ds]; rfl
  | .dt _ ks ds => by show D.dt false ks (frzL (frzL ds)) = _; rw [frzL_idem ds]; rfl
  | .obj _ c ns ds => by show D.obj false c ns (frzL (frzL ds)) = _; rw [frzL_idem ds]; rfl
  | .tup _ => rfl
  | .non => rfl
  | .bl _ => rfl
  | .int _ => rfl
  | .str _ => rfl
  | .adr _ => rfl
  | .scr _ => rfl
theorem frzL_idem : ∀ ds : List D, frzL (frzL ds) = frzL ds
  | [] => rfl
  | d :: ds => by show frz (frz d) :: frzL (frzL ds) = _; rw [frz_idem d, frzL_idem ds]; rfl
end
instance : Fz eD := ⟨frz_idem, fro_frz⟩
instance (priority := 3000) : Frz eQ eD := ⟨fun _ => rfl⟩
section
variable {X Y Z α β γ σ σ1 τ S α1 α2 α3 : Type} {C : Cz τ α} {κ κ1 κ2 κ3 κx ρ : Env} {f fa fb fc : M D} {g : M (List D)} {F G R : SF} {i j : Nat} {κ' : σ → Env} {κs : S → Env}
theorem ek_up {e : β → D} [Fz e] {o : Ex β} (h : EK κ κ2 κx f e o) : EK κ κ2 κx f eD (o.bind fun a => .ok (e a)) := .mk fun ρ hl => by
  rcases h.elim hl with ⟨a, ρ', rfl, h1, h2⟩ | ⟨c, fs, ρ', rfl, h1, h2⟩ | rfl
  · exact ⟨ρ', by rw [h1]; show _ = Res.ok (frz (e a)) ρ'; rw [Fz.z], h2⟩
  · exact ⟨ρ', h1, h2⟩
  · trivial
theorem ek_some {e : β → D} {o : Ex β} (h : EK κ κ2 κx f e o) : EK κ κ2 κx f (eOp e) (o.bind fun a => .ok (some a)) := .mk fun ρ hl => by
  rcases h.elim hl with ⟨a, ρ', rfl, h1, h2⟩ | ⟨c, fs, ρ', rfl, h1, h2⟩ | rfl
  · exact ⟨ρ', h1, h2⟩
  · exact ⟨ρ', h1, h2⟩
  · trivial
theorem ek_none {e : β → D} {u : Unit} {o : Ex Unit} (h : EK κ κ2 κx f eN o) (v : o = .ok u := by rfl) : EK κ κ2 κx f (eOp e) (.ok none) := by subst v; exact .mk fun ρ hl => h.h ρ hl
theorem ek_unw {e : β → D} {o : Ex (Option β)} (h : EK κ κ2 κx f (eOp e) o) : EK κ κ2 κx f e (o.bind Ex.of) := .mk fun ρ hl => by
  rcases h.elim hl with ⟨a, ρ', rfl, h1, h2⟩ | ⟨c, fs, ρ', rfl, h1, h2⟩ | rfl
  · cases a with
    | none => trivial
    | some a => exact ⟨ρ', h1, h2⟩
  · exact ⟨ρ', h1, h2⟩
  · trivial
theorem ek_e2v {op : D → D → Option D} {e1 : α1 → D} {e2 : α2 → D} {e : α → D} {a : α1} {b : α2} {oc : Ex α} {oa : Ex α1} {ob : Ex α2} (ha : EK κ κ1 κx fa e1 oa) (hb : EK κ1 κ2 κx fb e2 ob) (ho : Op (op (e1 a) (e2 b)) e oc) (va : oa = .ok a := by rfl) (vb : ob = .ok b := by rfl) : EK κ κ2 κx (DL.e2 op fa fb) e oc := .mk fun ρ hl => by
  subst va vb
  obtain ⟨ρ', q, l⟩ := ha.h ρ hl
  obtain ⟨ρ2, q2, l2⟩ := hb.h ρ' l
  unfold DL.e2
  rw [mbind_of q, mbind_of q2]
  exact (ek_lift (κ := κ2) ho.x).h ρ2 l2
theorem ek_e2r {op : D → D → Option D} {e1 : α1 → D} {e2 : α2 → D} {e : α → D} {oa : Ex α1} {b : α2} {oc : α1 → Ex α} {ob : Ex α2} (ha : EK κ κ1 κx fa e1 oa) (hb : EK κ1 κ2 κx fb e2 ob) (ho : ∀ a, Op (op (e1 a) (e2 b)) e (oc a)) (vb : ob = .ok b := by rfl) : EK κ κ2 κx (DL.e2 op fa fb) e (oa.bind oc) := ek_bind ha fun a => .mk fun ρ hl => by
  subst vb
  obtain ⟨ρ', q, l⟩ := hb.h ρ hl
  rw [mbind_of q]
  exact (ek_lift (κ := κ2) (ho a).x).h ρ' l
theorem ek_biv {op : List D → Option D} {es : α1 → List D} {e : α → D} {a : α1} {oc : Ex α} (ha : EK κ κ2 κx g es (.ok a)) (ho : Op (op (es a)) e oc) : EK κ κ2 κx (eBi op g) e oc := .mk fun ρ hl => by
  obtain ⟨ρ', q, l⟩ := ha.h ρ hl
  unfold eBi
  rw [mbind_of q]
  exact (ek_lift (κ := κ2) ho.x).h ρ' l
theorem ek_e1v {op : D → Option D} {e1 : α1 → D} {e : α → D} {a : α1} {oc : Ex α} {oa : Ex α1} (ha : EK κ κ2 κx fa e1 oa) (ho : Op (op (e1 a)) e oc) (va : oa = .ok a := by rfl) : EK κ κ2 κx (DL.e1 op fa) e oc := .mk fun ρ hl => by
  subst va
  obtain ⟨ρ', q, l⟩ := ha.h ρ hl
  unfold DL.e1
  rw [mbind_of q]
  exact (ek_lift (κ := κ2) ho.x).h ρ' l
theorem ek_rg1v {o : Ex Int} (n : Int) (h : EK κ κ2 κx f D.int o) (v : o = .ok n := by rfl) (hn : (decide (-4611686018427387904 ≤ n) && decide (n < 4611686018427387904)) = true := by decide) : EK κ κ2 κx (iRg1 (aCons f aNil)) (List.map D.int) (.ok (rng 0 n)) := (ek_rg1 h).conv (by
  subst v
  have h := Bool.and_eq_true_iff.mp hn
  exact if_pos ⟨of_decide_eq_true h.1, of_decide_eq_true h.2⟩)
theorem ek_bor' {κb : Env} {e : α → D} {o : Ex α} [Fl e] (hb : LeF κb κ) (h : EK κb κb κb f e o) (hx : Le κx κ := by exact le_x rfl) : EK κ κ κx (eBor f) e o := ek_x hx (ek_bor hb h)
theorem ek_tbor' {κb : Env} {c : M Bool} {o : Ex Bool} (hb : LeF κb κ) (h : EK κb κb κb c id o) (hx : Le κx κ := by exact le_x rfl) : EK κ κ κx (tBor c) id o := ek_x hx (ek_tbor hb h)
/-! arguments one by one -/
theorem eg_cons {K : List D → M D} {e1 : α1 → D} {e : β → D} {κ4 : β → Env} {oa : Ex α1} {ob : α1 → Ex β} (ha : EK κ κ1 κx fa e1 oa) (hb : ∀ a, EG κ1 κx (mbind g fun ds => K (e1 a :: ds)) e κ4 (ob a)) : EG κ κx (mbind (aCons fa g) K) e κ4 (oa.bind ob) := by
  refine .mk fun ρ hl => ?_
  rcases ha.elim hl with ⟨a, ρ', rfl, q, l⟩ | ⟨c, fs, ρ', rfl, q, l⟩ | rfl
  · have z := (hb a).h ρ' l
    have e2 : mbind (aCons fa g) K ρ = mbind g (fun ds => K (e1 a :: ds)) ρ' := by
      unfold aCons mbind
      rw [q]
      dsimp only
      cases g ρ' <;> rfl
    rw [e2]
    exact z
  · exact ⟨ρ', by unfold aCons mbind; rw [q], l⟩
  · trivial
theorem eg_nil {K : List D → M D} {e : β → D} {κ4 : β → Env} {o : Ex β} (h : EG κ κx (K []) e κ4 o) : EG κ κx (mbind aNil K) e κ4 o := h
theorem eg_mv {K : List D → M D} {eS : S → D} {e : β → D} {κ4 : β → Env} {o : Ex β} (s : S) (i : Nat) (hs : κ[i]? = some (some (eS s))) (h : EG (κ.set i none) κx (mbind g fun ds => K (eS s :: ds)) e κ4 o) : EG κ κx (mbind (aCons (eMove i) g) K) e κ4 o := .mk fun ρ hl => by
  have m : eMove i ρ = .ok (eS s) (ρ.set i none) := by unfold eMove; rw [hl.get hs]
  have e2 : mbind (aCons (eMove i) g) K ρ = mbind g (fun ds => K (eS s :: ds)) (ρ.set i none) := by
    unfold aCons mbind
    rw [m]
    dsimp only
    cases g (ρ.set i none) <;> rfl
  rw [e2]
  exact h.h _ hl.set
/-- the end of a call -/
def callK (F : List D → Res D) (dfl : List D) (rs : List (Nat × Nat)) (ds : List D) : M D := fun ρ => match F (ds ++ dfl) with
    | .ok d os => .ok d (restore rs os ρ)
    | .exc c fs os => .exc c fs (restore rs os ρ)
    | .stuck => .stuck
theorem eg_call {F : List D → Res D} {dfl : List D} {rs : List (Nat × Nat)} {e : β → D} {κ4 : β → Env} {o : Ex β} (h : EG κ κx (mbind g (callK F dfl rs)) e κ4 o) : EG κ κx (eCall F g dfl rs) e κ4 o := h
theorem eg_end {F : List D → Res D} {ds ds' dfl : List D} {rs : List (Nat × Nat)} {e : β → D} {o : Ex β} {eo κ4 : β → Env} (hF : FT F ds' e eo o) (hn : ∀ p ∈ rs, κx[p.2]? = some none) (hx : Le κx κ) (hr : ∀ a ρ, Le κ ρ → Le (κ4 a) (restore rs (eo a) ρ)) (hd : ds ++ dfl = ds') : EG κ κx (callK F dfl rs ds) e κ4 o := .mk fun ρ hl => by
  subst hd
  have z : RF (F (ds ++ dfl)) e eo o := hF.h
  unfold callK
  cases ho : o with
  | ok a => rw [ho] at z; exact ⟨_, by rw [show F (ds ++ dfl) = .ok (e a) (eo a) from z], hr a ρ hl⟩
  | exc c fs => rw [ho] at z; obtain ⟨os, z⟩ := z; exact ⟨_, by rw [z], Le.restore rs os hn (hx.trans hl)⟩
  | stuck => trivial
theorem ek_end {F : List D → Res D} {ds ds' dfl : List D} {e : β → D} {o : Ex β} {eo : β → Env} (hF : FT F ds' e eo o) (hx : Le κx κ := by exact le_x rfl) (hd : ds ++ dfl = ds' := by rfl) : EK κ κ κx (callK F dfl [] ds) e o := eg_end hF (fun _ h => nomatch h) hx (fun _ _ h => h) hd
theorem eg_end1 {F : List D → Res D} {ds ds' dfl : List D} {e : α → D} {eS : S → D} {o : Ex (α × S)} {eo : α × S → Env} (i : Nat) (hF : FT F ds' (fun q => e q.1) eo o) (hk : ∀ s, Le (κs s) (κ.set i (some (eS s)))) (hx : Le κx κ := by exact le_x rfl) (heo : ∀ q, (eo q)[0]? = some (some (eS q.2)) := by exact fun _ => rfl) (hn : κx[i]? = some none := by rfl) (hd : ds ++ dfl = ds' := by rfl) : EG κ κx (callK F dfl [(0, i)] ds) (fun q => e q.1) (fun q => κs q.2) o := eg_end hF (fun p h => by rw [List.mem_singleton.mp h]; exact hn) hx (fun q ρ hl => by
  have e2 : restore [(0, i)] (eo q) ρ = ρ.set i (some (eS q.2)) := by
    unfold restore
    rw [heo q]
    rfl
  rw [e2]
  exact (hk q.2).trans hl.set) hd
theorem kk_tupH {e : α → D} [Fz e] {ds : List D} (xs : List α) (he : ds = xs.map e) (hl : Nat.ble xs.length 1000 = true) : EK κ κ κx (if ds.length ≤ sizeLine then mret (D.tup (frzL ds)) else mlift none) (eT e) (.ok xs) := by
  rw [if_pos (Nat.le_trans (by rw [he, List.length_map]; exact Nat.le_of_ble_eq_true hl) (by rw [sizeLine_eq]; decide))]
  exact ek_ret (by rw [he, frzL_map]; rfl)
theorem kk_lstH {e : α → D} {ds : List D} (xs : List α) (he : ds = xs.map e) (hl : Nat.ble xs.length 1000 = true) : EK κ κ κx (if ds.length ≤ sizeLine then mret (D.lst true ds) else mlift none) (eO e) (.ok xs) := by
  rw [if_pos (Nat.le_trans (by rw [he, List.length_map]; exact Nat.le_of_ble_eq_true hl) (by rw [sizeLine_eq]; decide))]
  exact ek_ret (by rw [he]; rfl)
theorem kk_tup2 {e1 : α1 → D} {e2 : α2 → D} [Fz e1] [Fz e2] (x : α1) (y : α2) : EK κ κ κx (if [e1 x, e2 y].length ≤ sizeLine then mret (D.tup (frzL [e1 x, e2 y])) else mlift none) (e2P e1 e2) (.ok (x, y)) := by
  rw [if_pos (show [e1 x, e2 y].length ≤ sizeLine by rw [sizeLine_eq]; show 2 ≤ 16777216; decide)]
  exact ek_ret (by show D.tup [frz (e1 x), frz (e2 y)] = _; rw [Fz.z, Fz.z]; rfl)
theorem kk_tup3 {e1 : α1 → D} {e2 : α2 → D} {e3 : α3 → D} [Fz e1] [Fz e2] [Fz e3] (x : α1) (y : α2) (z : α3) : EK κ κ κx (if [e1 x, e2 y, e3 z].length ≤ sizeLine then mret (D.tup (frzL [e1 x, e2 y, e3 z])) else mlift none) (e3P e1 e2 e3) (.ok (x, y, z)) := by
  rw [if_pos (show [e1 x, e2 y, e3 z].length ≤ sizeLine by rw [sizeLine_eq]; show 3 ≤ 16777216; decide)]
  exact ek_ret (by show D.tup [frz (e1 x), frz (e2 y), frz (e3 z)] = _; rw [Fz.z, Fz.z, Fz.z]; rfl)
abbrev kk_lift := @ek_lift
theorem ek_opl {r : Option D} {e : α → D} {o : Ex α} (h : Op r e o) : EK κ κ κx (mlift r) e o := ek_lift h.x
/-- the same under a state -/
theorem gk_cons {K : List D → M D} {e1 : α1 → D} {e : α → D} {oa : S → Ex (α1 × S)} {ob : α1 → S → Ex (α × S)} (ha : GS κs κx fa e1 oa) (hb : ∀ a, GS κs κx (mbind g fun ds => K (e1 a :: ds)) e (ob a)) : GS κs κx (mbind (aCons fa g) K) e fun s => (oa s).bind fun p => ob p.1 p.2 := fun s => by
  refine .mk fun ρ hl => ?_
  have z := (ha s).h ρ hl
  show RG _ κx _ _ ((oa s).bind fun p => ob p.1 p.2)
  cases h : oa s with
  | ok p =>
    rw [h] at z
    obtain ⟨ρ', q, l⟩ := z
    have e2 : mbind (aCons fa g) K ρ = mbind g (fun ds => K (e1 p.1 :: ds)) ρ' := by
      unfold aCons mbind
      rw [q]
      dsimp only
      cases g ρ' <;> rfl
    rw [e2]
    exact (hb p.1 p.2).h ρ' l
  | exc c fs =>
    rw [h] at z
    obtain ⟨ρ', q, l⟩ := z
    exact ⟨ρ', by unfold aCons mbind; rw [q], l⟩
  | stuck => trivial
theorem gk_nil {K : List D → M D} {e : α → D} {o : S → Ex (α × S)} (h : GS κs κx (K []) e o) : GS κs κx (mbind aNil K) e o := h
/-- f(x, g(x)): the rest first -/
theorem gk_mvL {K : List D → M D} {es : α1 → List D} {e : α → D} {eS : S → D} {og : S → Ex (α1 × S)} {oF : S → α1 → Ex (α × S)} (i : Nat) (hs : ∀ s, (κs s)[i]? = some (some (eS s))) (hg : GS κs κx g es og) (hK : ∀ s p, EG ((κs s).set i none) κx (K (eS s :: es p)) (fun q => e q.1) (fun q => κs q.2) (oF s p)) : GS κs κx (mbind (aMvL i g) K) e fun s => (og s).bind fun p => oF p.2 p.1 := fun s => .mk fun ρ hl => by
  have z := (hg s).h ρ hl
  show RG _ κx _ _ ((og s).bind fun p => oF p.2 p.1)
  cases h : og s with
  | ok p =>
    rw [h] at z
    obtain ⟨ρ', q, l⟩ := z
    have ha : aMvL i g ρ = .ok (eS p.2 :: es p.1) (ρ'.set i none) := by
      unfold aMvL
      rw [hl.get (hs s)]
      show mbind g _ ρ = _
      rw [mbind_of q]
      simp only [l.get (hs p.2)]
    show RG _ κx _ _ (oF p.2 p.1)
    rw [mbind_of ha]
    exact (hK p.2 p.1).h _ l.set
  | exc c fs =>
    rw [h] at z
    obtain ⟨ρ', q, l⟩ := z
    refine ⟨ρ', ?_, l⟩
    have ha : aMvL i g ρ = .exc c fs ρ' := by
      unfold aMvL
      rw [hl.get (hs s)]
      show mbind g _ ρ = _
      unfold mbind
      rw [q]
    unfold mbind
    rw [ha]
  | stuck => trivial
/-! short forms of what is derived (no rfl-lemmas: the kernel would unfold the defs) -/
theorem nf_bind (a : α) (k : α → Ex β) : (Ex.ok a).bind k = k a := (Eq.refl (k a)).trans rfl
theorem nf_st (a : α) (s : S) : (Ex.ok a).st s = .ok (a, s) := (Eq.refl (Ex.ok (a, s))).trans rfl
theorem nf_noX (a : α) : (Ex.ok a).noX = .ok a := (Eq.refl (Ex.ok a)).trans rfl
theorem nf_to (b : β) (k : β → O τ σ α) : (Ex.ok b).to k = k b := (Eq.refl (k b)).trans rfl
theorem nf_nx (x : σ) (k : σ → O τ σ1 α) : (O.nx x).bind k = k x := (Eq.refl (k x)).trans rfl
/-! statements -/
theorem sj_last {o : Ex β} {κ1' : β → Env} {t : β → σ} (h1 : SJ (σ := β) C κ F κ1' (o.to fun b => .nx b)) (h : ∀ b, Le (κ' (t b)) (κ1' b)) : SJ C κ F κ' (o.to fun b => .nx (t b)) := (sj_post h1 h).conv (by cases o <;> rfl)
theorem sj_lastU {o : Ex β} {t : σ} (h1 : SJ (σ := Unit) C κ F (fun _ => κ2) (o.to fun _ => .nx ())) (h : Le (κ' t) κ2) : SJ C κ F κ' (o.to fun _ => .nx t) := (sj_post (t := fun _ => t) h1 fun _ => h).conv (by cases o <;> rfl)
def O.void (o : O τ Empty α) : O τ σ α := o.bind fun x => x.elim
theorem nf_vret (a : α) : (O.ret a : O τ Empty α).void = (O.ret a : O τ σ α) := (Eq.refl (O.ret a)).trans rfl
theorem nf_vexc (c : Str) (fs : List (Str × D)) : (O.exc c fs : O τ Empty α).void = (O.exc c fs : O τ σ α) := (Eq.refl (O.exc c fs)).trans rfl
theorem nf_vbrk (y : τ) : (O.brk y : O τ Empty α).void = (O.brk y : O τ σ α) := (Eq.refl (O.brk y)).trans rfl
theorem nf_vcnt (y : τ) : (O.cnt y : O τ Empty α).void = (O.cnt y : O τ σ α) := (Eq.refl (O.cnt y)).trans rfl
theorem sj_void {o : O τ Empty α} {κe : Empty → Env} (h : SJ C κ F κe o) : SJ C κ (sSeq F G) κ' o.void := sj_seq h fun x => x.elim
theorem seq_nextL (F : SF) : sSeq sNext F = F := rfl
/-- if c: .. (that does not go on) -/
theorem sj_ifD {c : M Bool} {oc : Ex Bool} {κe : Empty → Env} {o1 : O τ Empty α} {o2 : O τ σ α} (hc : EK κ κ2 κx c id oc) (hx : Le C.x κx) (h1 : SJ C κ2 F κe o1) (h2 : SJ C κ2 (sSeq G R) κ' o2) : SJ C κ (sSeq (sIf c F G) R) κ' (oc.to fun b => if b = true then o1.void else o2) := .mk fun ρ hl => by
  rcases hc.elim hl with ⟨b, ρ', rfl, q, l⟩ | ⟨c, fs, ρ', rfl, q, l⟩ | rfl
  · show RJ C κ' (sSeq (sIf c F G) R ρ) (if b = true then o1.void else o2)
    cases b with
    | true =>
      rw [show sSeq (sIf c F G) R ρ = sSeq F R ρ' by unfold sSeq; rw [sIf_t q]]
      exact (sj_void h1).h ρ' l
    | false =>
      rw [show sSeq (sIf c F G) R ρ = sSeq G R ρ' by unfold sSeq; rw [sIf_f q]]
      exact h2.h ρ' l
  · exact ⟨ρ', by unfold sSeq sIf sE; rw [q], hx.trans l⟩
  · trivial
theorem sj_ifD0 {c : M Bool} {oc : Ex Bool} {κe : Empty → Env} {o1 : O τ Empty α} {o2 : O τ σ α} (hc : EK κ κ2 κx c id oc) (hx : Le C.x κx) (h1 : SJ C κ2 F κe o1) (h2 : SJ C κ2 R κ' o2) : SJ C κ (sSeq (sIf c F sNext) R) κ' (oc.to fun b => if b = true then o1.void else o2) := sj_ifD (G := sNext) hc hx h1 h2
theorem sj_ifE {c : M Bool} {oc : Ex Bool} {κe : Empty → Env} {o1 : O τ σ α} {o2 : O τ Empty α} (hc : EK κ κ2 κx c id oc) (hx : Le C.x κx) (h1 : SJ C κ2 (sSeq F R) κ' o1) (h2 : SJ C κ2 G κe o2) : SJ C κ (sSeq (sIf c F G) R) κ' (oc.to fun b => if b = true then o1 else o2.void) := .mk fun ρ hl => by
  rcases hc.elim hl with ⟨b, ρ', rfl, q, l⟩ | ⟨c, fs, ρ', rfl, q, l⟩ | rfl
  · show RJ C κ' (sSeq (sIf c F G) R ρ) (if b = true then o1 else o2.void)
    cases b with
    | true =>
      rw [show sSeq (sIf c F G) R ρ = sSeq F R ρ' by unfold sSeq; rw [sIf_t q]]
      exact h1.h ρ' l
    | false =>
      rw [show sSeq (sIf c F G) R ρ = sSeq G R ρ' by unfold sSeq; rw [sIf_f q]]
      exact (sj_void h2).h ρ' l
  · exact ⟨ρ', by unfold sSeq sIf sE; rw [q], hx.trans l⟩
  · trivial
theorem sj_ifDG {c : M Bool} {e : β → Bool} {κb : β → Env} {oc : Ex β} {κe : Empty → Env} {o1 : β → O τ Empty α} {o2 : β → O τ σ α} (hc : EG κ κx c e κb oc) (hx : Le C.x κx) (h1 : ∀ b, SJ C (κb b) F κe (o1 b)) (h2 : ∀ b, SJ C (κb b) (sSeq G R) κ' (o2 b)) : SJ C κ (sSeq (sIf c F G) R) κ' (oc.to fun b => if e b = true then (o1 b).void else o2 b) := .mk fun ρ hl => by
  have z := hc.h ρ hl
  cases oc with
  | ok b =>
    obtain ⟨ρ', q, l⟩ := z
    show RJ C κ' (sSeq (sIf c F G) R ρ) (if e b = true then (o1 b).void else o2 b)
    cases h : e b with
    | true =>
      rw [h] at q
      rw [show sSeq (sIf c F G) R ρ = sSeq F R ρ' by unfold sSeq; rw [sIf_t q]]
      exact (sj_void (h1 b)).h ρ' l
    | false =>
      rw [h] at q
      rw [show sSeq (sIf c F G) R ρ = sSeq G R ρ' by unfold sSeq; rw [sIf_f q]]
      exact (h2 b).h ρ' l
  | exc c fs =>
    obtain ⟨ρ', q, l⟩ := z
    exact ⟨ρ', by unfold sSeq sIf sE; rw [q], hx.trans l⟩
  | stuck => trivial
theorem sj_ifDG0 {c : M Bool} {e : β → Bool} {κb : β → Env} {oc : Ex β} {κe : Empty → Env} {o1 : β → O τ Empty α} {o2 : β → O τ σ α} (hc : EG κ κx c e κb oc) (hx : Le C.x κx) (h1 : ∀ b, SJ C (κb b) F κe (o1 b)) (h2 : ∀ b, SJ C (κb b) R κ' (o2 b)) : SJ C κ (sSeq (sIf c F sNext) R) κ' (oc.to fun b => if e b = true then (o1 b).void else o2 b) := sj_ifDG (G := sNext) hc hx h1 h2
/-! a def that hands back a number and its changed first argument -/
def adI (r : Res D) : Ex (Int × D) := match r with
  | .ok (.int i) [some s, none] => .ok (i, s)
  | _ => .stuck
theorem ft_adI {F : List D → Res D} {ds : List D} : FT F ds (fun q : Int × D => D.int q.1) (fun q => [some (eQ q.2), none]) (adI (F ds)) := by
  refine ⟨?_⟩
  unfold adI
  split
  · rename_i h; exact h
  · trivial
end
end DL

set_option Elab.async false
set_option linter.all false
set_option maxRecDepth 100000
set_option maxHeartbeats 4000000
namespace DL
open PySem PySem.Spec L2
/-! ## typed readings: dicts, the keys tuples of ints -/
section
variable {α β γ σ σ1 τ S : Type} {C : Cz τ α} {κ κ1 κ2 κ3 κx ρ : Env} {f fa fb fc : M D} {F G R : SF} {i j : Nat} {κ' : σ → Env}
def kI (r : List Int) : List Key := r.map Sum.inl
theorem kI_inj {a b : List Int} (h : kI a = kI b) : a = b := by
  have := congrArg (List.map fun k : Key => match k with | .inl i => i | .inr _ => 0) h
  simpa [kI, List.map_map, Function.comp_def] using this
theorem keyT_T (r : List Int) : keyT (eT D.int r) = some (kI r) := by
  show keysL (r.map D.int) = _
  induction r with
  | nil => rfl
  | cons x r ih => show (keysL (r.map D.int)).map (fun ks => Sum.inl x :: ks) = _; rw [ih]; rfl
def eDO (f : α → D) (kvs : List (List Int × α)) : D := .dt true (kvs.map fun p => kI p.1) (kvs.map fun p => f p.2)
def eDT (f : α → D) (kvs : List (List Int × α)) : D := .dt false (kvs.map fun p => kI p.1) (kvs.map fun p => f p.2)
theorem frzL_map2 {f : β → D} [Fz f] (g : γ → β) (xs : List γ) : frzL (xs.map fun p => f (g p)) = xs.map fun p => f (g p) := by
  have := frzL_map (f := f) (xs.map g)
  rw [List.map_map] at this
  exact this
instance {f : α → D} [Fz f] : Fz (eDT f) := ⟨fun a => by show D.dt false _ (frzL _) = _; rw [frzL_map2 (f := f) Prod.snd]; rfl, fun _ => rfl⟩
instance (priority := 2000) {f : α → D} [Fz f] : Frz (eDO f) (eDT f) := ⟨fun a => by show D.dt false _ (frzL _) = _; rw [frzL_map2 (f := f) Prod.snd]; rfl⟩
def hasA (kvs : List (List Int × α)) (k : List Int) : Bool := decide (k ∈ kvs.map Prod.fst)
def getA : List (List Int × α) → List Int → Option α
  | [], _ => none
  | p :: kvs, k => if p.1 = k then some p.2 else getA kvs k
def putA (kvs : List (List Int × α)) (k : List Int) (v : α) : List (List Int × α) := if k ∈ kvs.map Prod.fst then kvs.map (fun p => if p.1 = k then (p.1, v) else p) else kvs ++ [(k, v)]
def dputT (kvs : List (List Int × α)) (k : List Int) (v : α) : Ex (List (List Int × α)) := if kvs.length < sizeLine then .ok (putA kvs k v) else .stuck
theorem mem_kI {kvs : List (List Int × α)} {k : List Int} : kI k ∈ kvs.map (fun p => kI p.1) ↔ k ∈ kvs.map Prod.fst := by
  rw [List.mem_map, List.mem_map]
  exact ⟨fun ⟨p, h, e⟩ => ⟨p, h, kI_inj e⟩, fun ⟨p, h, e⟩ => ⟨p, h, by rw [e]⟩⟩
theorem getV_A {f : α → D} (k : List Int) : ∀ kvs : List (List Int × α), getV (kI k) (kvs.map fun p => kI p.1) (kvs.map fun p => f p.2) = (getA kvs k).map f
  | [] => rfl
  | p :: kvs => by
    show (if kI p.1 = kI k then some (f p.2) else getV (kI k) (kvs.map fun p => kI p.1) (kvs.map fun p => f p.2)) = (if p.1 = k then some p.2 else getA kvs k).map f
    by_cases h : p.1 = k
    · rw [if_pos h, if_pos (by rw [h])]; rfl
    · rw [if_neg h, if_neg (fun e => h (kI_inj e)), getV_A k kvs]
theorem getA_has (k : List Int) : ∀ kvs : List (List Int × α), (getA kvs k).isSome = hasA kvs k
  | [] => rfl
  | p :: kvs => by
    show (if p.1 = k then some p.2 else getA kvs k).isSome = decide (k ∈ p.1 :: kvs.map Prod.fst)
    by_cases h : p.1 = k
    · subst h; simp
    · rw [if_neg h, getA_has k kvs]
      unfold hasA
      have : ¬ k = p.1 := fun e => h e.symm
      simp [this]
theorem repV_A {f : α → D} (k : List Int) (v : α) : ∀ kvs : List (List Int × α), repV (kI k) (f v) (kvs.map fun p => kI p.1) (kvs.map fun p => f p.2) = (kvs.map (fun p => if p.1 = k then (p.1, v) else p)).map fun p => f p.2
  | [] => rfl
  | p :: kvs => by
    show (if kI p.1 = kI k then f v else f p.2) :: repV (kI k) (f v) _ _ = _
    rw [repV_A k v kvs, List.map_cons, List.map_cons]
    by_cases h : p.1 = k
    · rw [if_pos h, if_pos (by rw [h])]
    · rw [if_neg h, if_neg (fun e => h (kI_inj e))]
theorem dput_A {f : α → D} [Fz f] (kvs : List (List Int × α)) (k : List Int) (v : α) (d : D) (hd : frz d = f v) : dput (eDO f kvs) (eT D.int k) d = if kvs.length < sizeLine then some (eDO f (putA kvs k v)) else none := by
  show (keyT (eT D.int k)).bind (fun k => if (kvs.map fun p => kI p.1).length < sizeLine then some (D.dt true (putKs (kvs.map fun p => kI p.1) k) (putV (kvs.map fun p => kI p.1) (frzL (kvs.map fun p => f p.2)) k (frz d))) else none) = _
  rw [keyT_T, frzL_map2 (f := f) Prod.snd, hd]
  show (if (kvs.map fun p => kI p.1).length < sizeLine then some (D.dt true (putKs (kvs.map fun p => kI p.1) (kI k)) (putV (kvs.map fun p => kI p.1) (kvs.map fun p => f p.2) (kI k) (f v))) else none) = _
  rw [List.length_map]
  have e : D.dt true (putKs (kvs.map fun p => kI p.1) (kI k)) (putV (kvs.map fun p => kI p.1) (kvs.map fun p => f p.2) (kI k) (f v)) = eDO f (putA kvs k v) := by
    unfold putKs putV putA eDO
    by_cases h : k ∈ kvs.map Prod.fst
    · rw [if_pos (mem_kI.mpr h), if_pos (mem_kI.mpr h), if_pos h, repV_A]
      congr 1
      rw [List.map_map]
      refine List.map_congr_left fun p _ => ?_
      show kI p.1 = kI (if p.1 = k then (p.1, v) else p).1
      split <;> rfl
    · rw [if_neg (fun z => h (mem_kI.mp z)), if_neg (fun z => h (mem_kI.mp z)), if_neg h]
      rw [List.map_append, List.map_append]
      rfl
  rw [e]
class Dc {α : Type} (e : List (List Int × α) → D) (f : outParam (α → D)) : Prop where
  g : ∀ kvs k, dget (e kvs) (eT D.int k) = some ((getA kvs k).map f)
instance {f : α → D} : Dc (eDO f) f := ⟨fun kvs k => by show (keyT (eT D.int k)).map (fun k => getV k _ _) = _; rw [keyT_T]; show some (getV (kI k) _ _) = _; rw [getV_A]⟩
instance {f : α → D} : Dc (eDT f) f := ⟨fun kvs k => by show (keyT (eT D.int k)).map (fun k => getV k _ _) = _; rw [keyT_T]; show some (getV (kI k) _ _) = _; rw [getV_A]⟩
theorem sj_dput {f : β → D} [Fz f] {ev : β → D} [Frz ev f] {fv fk : M D} {kvs : List (List Int × β)} {ov : Ex β} {ok : Ex (List Int)} (hs : κ[i]? = some (some (eDO f kvs))) (hv : EK κ κ C.x fv ev ov) (hk : EK κ κ C.x fk (eT D.int) ok) : SJ (σ := List (List Int × β)) C κ (sDPutI i fv fk) (fun ys => κ.set i (some (eDO f ys))) ((ov.bind fun v => ok.bind fun k => dputT kvs k v).to fun ys => .nx ys) := .mk fun ρ hl => by
  unfold sDPutI
  rcases hv.elim hl with ⟨v, ρ', rfl, q, l⟩ | ⟨c, fs, ρ', rfl, q, l⟩ | rfl
  · rw [sE_of q]
    simp only [l.get hs]
    rcases hk.elim l with ⟨k, ρ2, rfl, q2, l2⟩ | ⟨c, fs, ρ2, rfl, q2, l2⟩ | rfl
    · rw [sE_of q2]
      simp only [l2.get hs]
      rw [dput_A kvs k v _ (Frz.z (e := ev) v)]
      show RJ C _ _ (Ex.to (dputT kvs k v) _)
      by_cases c : kvs.length < sizeLine
      · have e : dputT kvs k v = .ok (putA kvs k v) := if_pos c
        rw [if_pos c, e]
        exact ⟨_, rfl, l2.set⟩
      · have e : dputT kvs k v = .stuck := if_neg c
        rw [e]; trivial
    · exact ⟨ρ2, by unfold sE; rw [q2], l2⟩
    · trivial
  · exact ⟨ρ', by unfold sE; rw [q], l⟩
  · trivial
theorem ek_din {e : List (List Int × β) → D} {f : β → D} [Dc e f] {fk : M D} {kvs : List (List Int × β)} {ok : Ex (List Int)} (neg : Bool) (i : Nat) (hs : κ[i]? = some (some (e kvs))) (hk : EK κ κ κx fk (eT D.int) ok) : EK κ κ κx (eDin neg i fk) D.bl (ok.bind fun k => .ok (if neg = true then !(hasA kvs k) else hasA kvs k)) := ek_bind hk fun k => .mk fun ρ hl => ⟨ρ, by
    simp only [hl.get hs, Dc.g]
    cases neg <;> simp [← getA_has, Option.isSome_map], hl⟩
theorem ek_din0 {e : List (List Int × β) → D} {f : β → D} [Dc e f] {fk : M D} {kvs : List (List Int × β)} {ok : Ex (List Int)} (i : Nat) (hs : κ[i]? = some (some (e kvs))) (hk : EK κ κ κx fk (eT D.int) ok) : EK κ κ κx (eDin false i fk) D.bl (ok.bind fun k => .ok (hasA kvs k)) := ek_din false i hs hk
theorem ek_din1 {e : List (List Int × β) → D} {f : β → D} [Dc e f] {fk : M D} {kvs : List (List Int × β)} {ok : Ex (List Int)} (i : Nat) (hs : κ[i]? = some (some (e kvs))) (hk : EK κ κ κx fk (eT D.int) ok) : EK κ κ κx (eDin true i fk) D.bl (ok.bind fun k => .ok (!hasA kvs k)) := ek_din true i hs hk
/-- a last append: what the list holds is not asked again -/
def appU (xs : List β) : Ex Unit := if xs.length < sizeLine then .ok () else .stuck
theorem sj_appF {e : β → D} {e2 : γ → D} {xs : List β} {o : Ex γ} (hs : κ[i]? = some (some (eO e xs))) (hm : EK κ κ C.x f e2 o) : SJ (σ := Unit) C κ (sDrop (eApp i f)) (fun _ => κ.set i none) ((o.bind fun _ => appU xs).to fun u => .nx u) := .mk fun ρ hl => by
  rcases hm.elim hl with ⟨b, ρ', rfl, q, l⟩ | ⟨c, fs, ρ', rfl, q, l⟩ | rfl
  · show RJ C _ _ (Ex.to (appU xs) _)
    by_cases c : xs.length < sizeLine
    · have e3 : appU xs = .ok () := if_pos c
      rw [e3]
      have ha : eApp i f ρ = .ok .non (ρ'.set i (some (.lst true (xs.map e ++ [e2 b])))) := by
        unfold eApp
        rw [hl.get hs]
        show mbind f _ ρ = _
        rw [mbind_of q, l.get hs]
        show (if (xs.map e).length < sizeLine then Res.ok D.non (ρ'.set i (some (.lst true (xs.map e ++ [e2 b])))) else .stuck) = _
        rw [List.length_map, if_pos c]
      exact ⟨_, sDrop_ok ha, l.setN⟩
    · have e3 : appU xs = .stuck := if_neg c
      rw [e3]; trivial
  · have ha : eApp i f ρ = .exc c fs ρ' := by
      unfold eApp
      rw [hl.get hs]
      show mbind f _ ρ = _
      unfold mbind
      rw [q]
    exact ⟨ρ', by unfold sDrop sE; rw [ha], l⟩
  · trivial
theorem ek_dix {e : List (List Int × β) → D} {f : β → D} [Dc e f] [Fz f] {fk : M D} {kvs : List (List Int × β)} {ok : Ex (List Int)} (i : Nat) (hs : κ[i]? = some (some (e kvs))) (hk : EK κ κ κx fk (eT D.int) ok) : EK κ κ κx (eDix i fk) f (ok.bind fun k => Ex.of (getA kvs k)) := .mk fun ρ hl => by
  unfold eDix
  rw [hl.get hs]
  refine (ek_bind (k := fun y ρ1 => match ρ1[i]? with
    | some (some c) => (match dget c y with
      | some (some e) => if fro e = true then Res.ok e ρ1 else .stuck
      | _ => .stuck)
    | _ => .stuck) hk fun k => .mk fun ρ1 hl1 => ?_).h ρ hl
  simp only [hl1.get hs, Dc.g]
  cases h : getA kvs k with
  | none => trivial
  | some a => exact ⟨ρ1, if_pos (Fz.o a), hl1⟩
/-! walks over the keys -/
theorem ndtE_iff : ∀ {ρ : Env}, (∀ (j : Nat) (d : D), ρ[j]? = some (some d) → ndt d = true) → ndtE ρ = true
  | [], _ => rfl
  | none :: ρ, h => ndtE_iff (ρ := ρ) fun j d e => h (j + 1) d e
  | some d :: ρ, h => by
    show (ndt d && ndtE ρ) = true
    rw [h 0 d rfl, ndtE_iff (ρ := ρ) fun j d e => h (j + 1) d e]
    rfl
class Nd {α : Type} (e : α → D) : Prop where
  n : ∀ a, ndt (e a) = true
instance : Nd D.int := ⟨fun _ => rfl⟩
instance : Nd D.bl := ⟨fun _ => rfl⟩
instance : Nd D.str := ⟨fun _ => rfl⟩
instance : Nd eN := ⟨fun _ => rfl⟩
instance : Nd eX := ⟨fun _ => rfl⟩
theorem ndtL_map {f : β → D} [Nd f] : ∀ xs : List β, ndtL (xs.map f) = true
  | [] => rfl
  | x :: xs => by show (ndt (f x) && ndtL (xs.map f)) = true; rw [Nd.n, ndtL_map xs]; rfl
instance {f : β → D} [Nd f] : Nd (eT f) := ⟨fun a => ndtL_map a⟩
instance {f : β → D} [Nd f] : Nd (eL f) := ⟨fun a => ndtL_map a⟩
instance {f : β → D} [Nd f] : Nd (eO f) := ⟨fun a => ndtL_map a⟩
/-- forgotten, or known to be none of these -/
def NK (js : List Nat) (i : Nat) : Nat → Env → Prop
  | _, [] => True
  | n, o :: κ => ((js.contains n || n == i) = true ∨ ∃ d, o = some d ∧ ndt d = true) ∧ NK js i (n + 1) κ
theorem NK.get {js : List Nat} {i : Nat} : ∀ {n : Nat} {κ : Env} {j : Nat}, NK js i n κ → j < κ.length → (js.contains (n + j) || n + j == i) = true ∨ ∃ d, κ[j]? = some (some d) ∧ ndt d = true
  | n, [], j, _, h => by cases h
  | n, o :: κ, 0, h, _ => by
    rcases h.1 with h2 | ⟨d, rfl, h2⟩
    · exact .inl h2
    · exact .inr ⟨d, rfl, h2⟩
  | n, o :: κ, j + 1, h, hl => by
    have := NK.get (n := n + 1) (j := j) h.2 (by simpa using hl)
    rw [show n + 1 + j = n + (j + 1) by omega] at this
    exact this
theorem wipe_len : ∀ (vs : List Nat) (ρ : Env), (wipeE ρ vs).length = ρ.length
  | [], _ => rfl
  | v :: vs, ρ => by show ((wipeE ρ vs).set v none).length = _; rw [List.length_set, wipe_len vs ρ]
theorem wipe_keep : ∀ (vs : List Nat) (ρ : Env) {k : Nat}, k ∉ vs → (wipeE ρ vs)[k]? = ρ[k]?
  | [], _, _, _ => rfl
  | v :: vs, ρ, k, h => by
    show ((wipeE ρ vs).set v none)[k]? = _
    rw [List.getElem?_set_ne (fun e => h (by subst e; exact List.mem_cons_self)), wipe_keep vs ρ fun z => h (List.mem_cons_of_mem _ z)]
theorem nk_ndtE {js : List Nat} {i : Nat} {κ ρ : Env} (h : NK js i 0 κ) (hl : Le κ ρ) : ndtE ((wipeE ρ js).set i none) = true := ndtE_iff fun j d e => by
  have hj : j < ρ.length := by
    have := (List.getElem?_eq_some_iff.mp e).1
    rwa [List.length_set, wipe_len] at this
  have hji : ¬ i = j := fun c => by
    subst c
    rw [List.getElem?_set_self (by rw [wipe_len]; exact hj)] at e
    cases e
  rw [List.getElem?_set_ne hji] at e
  by_cases hm : j ∈ js
  · rw [wipeE_none hm hj] at e; cases e
  · rw [wipe_keep js ρ hm] at e
    rcases h.get (by rw [hl.1]; exact hj) with c | ⟨d', c, n⟩
    · rw [Nat.zero_add] at c
      simp only [Bool.or_eq_true, List.contains_iff_mem, beq_iff_eq] at c
      rcases c with c | c
      · exact absurd c hm
      · exact absurd c.symm hji
    · rw [hl.get c] at e
      cases e
      exact n
def O.onlyNx (o : O τ σ α) : O τ σ α := match o with
  | .nx x => .nx x
  | _ => .stuck
theorem sj_forK {f : γ → D} [Fz f] [Nd f] {kvs : List (List Int × γ)} {js : List Nat} {gt : D → Env → Option Env} {κb : List Int → σ → Env} {k : List Int → σ → O σ σ α} (x0 : σ) (hs : κ[i]? = some (some (eDO f kvs))) (h0 : Le (κ' x0) (κ.set i (some (eDT f kvs)))) (hi : ∀ x, (wipeE (κ' x) js)[i]? = some (some (eDT f kvs))) (hg : ∀ x, TG gt (κ' x) (eT D.int) fun b => κb b x) (hb : ∀ b x, SJ ⟨κ', C.e, C.r, C.x⟩ (κb b x) F κ' (k b x)) (hn : ∀ x, NK js i 0 (κ' x)) : SJ C κ (sForK i js gt F) (fun x => (wipeE (κ' x) js).set i (some (eDO f kvs))) (forO k (kvs.map Prod.fst) x0).onlyNx := .mk fun ρ hl => by
  have e1 : ((kvs.map fun p => kI p.1).map keyD) = (kvs.map Prod.fst).map (eT D.int) := by
    rw [List.map_map, List.map_map]
    refine List.map_congr_left fun p _ => ?_
    show D.tup ((kI p.1).map kD) = D.tup (p.1.map D.int)
    unfold kI
    rw [List.map_map]
    rfl
  have z := (sj_pre h0 (sj_forGo (C := C) hg hb (kvs.map Prod.fst) x0)).h (ρ.set i (some (eDT f kvs))) hl.set
  cases h : (forO k (kvs.map Prod.fst) x0 : O τ σ α) with
  | nx x =>
    rw [h] at z
    obtain ⟨ρ', q, l⟩ := z
    refine ⟨(wipeE ρ' js).set i (some (eDO f kvs)), ?_, (l.wipe js).set⟩
    unfold sForK
    rw [hl.get hs]
    unfold eDO
    dsimp only
    rw [e1, frzL_map2 (f := f) Prod.snd]
    change forGo gt F _ (ρ.set i (some (.dt false (kvs.map fun p => kI p.1) (kvs.map fun p => f p.2)))) = _ at q
    rw [q]
    have e3 := (l.wipe js).get (hi x)
    unfold eDT at e3
    simp only [e3]
    rw [nk_ndtE (hn x) l, show ndtL (kvs.map fun p => f p.2) = true by have := ndtL_map (f := f) (kvs.map Prod.snd); rwa [List.map_map] at this]
    rfl
  | ret a => trivial
  | brk y => trivial
  | cnt y => trivial
  | exc c fs => trivial
  | stuck => trivial
end
end DL
namespace DL
open PySem PySem.Spec L2
/-! a def that makes a thing of one's own of one argument -/
def adQ (r : Res D) : Ex D := match r with
  | .ok d [none] => .ok d
  | _ => .stuck
theorem ft_adQ {F : List D → Res D} {ds : List D} : FT F ds eQ (fun _ => [none]) (adQ (F ds)) := by
  refine ⟨?_⟩
  unfold adQ
  split
  · rename_i h; exact h
  · trivial
end DL

set_option Elab.async false
set_option linter.all false
set_option maxRecDepth 100000
set_option maxHeartbeats 4000000
namespace DL
open PySem PySem.Spec L2
/-! ## what typed readings come to -/
section
variable {α β γ δ σ σ1 σ2 τ S : Type}
/-- it comes to a value of which Q holds -/
inductive W (o : Ex α) (Q : α → Prop) : Prop where
  | mk (a : α) (e : o = .ok a) (h : Q a)
theorem W.ok {a : α} {Q : α → Prop} (h : Q a) : W (.ok a) Q := ⟨a, rfl, h⟩
theorem W.of {o : Ex α} {a : α} {Q : α → Prop} (e : o = .ok a) (h : Q a) : W o Q := ⟨a, e, h⟩
theorem W.is {o : Ex α} {a : α} (e : o = .ok a) : W o (· = a) := ⟨a, e, rfl⟩
theorem W.bind {o : Ex α} {k : α → Ex β} {P : α → Prop} {Q : β → Prop} (h : W o P) (hk : ∀ a, P a → W (k a) Q) : W (o.bind k) Q := by
  obtain ⟨a, rfl, ha⟩ := h
  exact hk a ha
theorem W.mono {o : Ex α} {P Q : α → Prop} (h : W o P) (k : ∀ a, P a → Q a) : W o Q := by
  obtain ⟨a, e, ha⟩ := h
  exact ⟨a, e, k a ha⟩
theorem W.st {o : Ex α} {s : S} {Q : α × S → Prop} (h : W o fun a => Q (a, s)) : W (o.st s) Q := by
  obtain ⟨a, rfl, ha⟩ := h
  exact ⟨(a, s), rfl, ha⟩
theorem W.eq {o : Ex α} {a : α} (h : W o (· = a)) : o = .ok a := by
  obtain ⟨b, e, rfl⟩ := h
  exact e
theorem bind_ok {o : Ex α} {a : α} (h : o = .ok a) (k : α → Ex β) : o.bind k = k a := by rw [h]; exact nf_bind a k
theorem to_ok {o : Ex α} {a : α} (h : o = .ok a) (k : α → O τ σ β) : o.to k = k a := by rw [h]; exact nf_to a k
/-- a statement: behind it N, at a return R, at break B, at continue K -/
abbrev WB_ (o : O τ σ α) (N : σ → Prop) (R : α → Prop) (B K : τ → Prop) : Prop := match o with
  | .nx x => N x
  | .ret a => R a
  | .brk y => B y
  | .cnt y => K y
  | _ => False
structure WB (o : O τ σ α) (N : σ → Prop) (R : α → Prop) (B K : τ → Prop) : Prop where
  h : WB_ o N R B K
def WO (o : O τ σ α) (N : σ → Prop) (R : α → Prop) : Prop := WB o N R (fun _ => False) (fun _ => False)
variable {N N' : σ → Prop} {R R' : α → Prop} {B K : τ → Prop}
theorem WB.to {e : Ex β} {k : β → O τ σ α} {P : β → Prop} (h : W e P) (hk : ∀ b, P b → WB (k b) N R B K) : WB (e.to k) N R B K := by
  obtain ⟨b, rfl, hb⟩ := h
  exact hk b hb
theorem WO.to {e : Ex β} {k : β → O τ σ α} {P : β → Prop} (h : W e P) (hk : ∀ b, P b → WO (k b) N R) : WO (e.to k) N R := WB.to h hk
theorem WB.bind {o : O τ σ1 α} {k : σ1 → O τ σ α} {P : σ1 → Prop} (h : WB o P R B K) (hk : ∀ x, P x → WB (k x) N R B K) : WB (o.bind k) N R B K := by
  cases o with
  | nx x => exact hk x h.h
  | ret a => exact ⟨h.h⟩
  | brk y => exact ⟨h.h⟩
  | cnt y => exact ⟨h.h⟩
  | exc c fs => exact h.h.elim
  | stuck => exact h.h.elim
theorem WO.bind {o : O τ σ1 α} {k : σ1 → O τ σ α} {P : σ1 → Prop} (h : WO o P R) (hk : ∀ x, P x → WO (k x) N R) : WO (o.bind k) N R := WB.bind h hk
theorem WO.nx {x : σ} (h : N x) : WO (.nx x : O τ σ α) N R := ⟨h⟩
theorem WO.ret {a : α} (h : R a) : WO (.ret a : O τ σ α) N R := ⟨h⟩
theorem WB.mono {o : O τ σ α} {B' K' : τ → Prop} (h : WB o N R B K) (n : ∀ x, N x → N' x) (r : ∀ a, R a → R' a) (b : ∀ y, B y → B' y) (k : ∀ y, K y → K' y) : WB o N' R' B' K' := by
  cases o with
  | nx x => exact ⟨n x h.h⟩
  | ret a => exact ⟨r a h.h⟩
  | brk y => exact ⟨b y h.h⟩
  | cnt y => exact ⟨k y h.h⟩
  | exc c fs => exact h.h.elim
  | stuck => exact h.h.elim
theorem WO.mono {o : O τ σ α} (h : WO o N R) (n : ∀ x, N x → N' x) (r : ∀ a, R a → R' a) : WO o N' R' := WB.mono h n r (fun _ z => z) fun _ z => z
theorem W.fin {o : O τ σ α} {nv : σ → Ex α} {Q : α → Prop} (h : WO o (fun x => W (nv x) Q) Q) : W (o.fin nv) Q := by
  cases o with
  | nx x => exact h.h
  | ret a => exact .ok h.h
  | brk y => exact h.h.elim
  | cnt y => exact h.h.elim
  | exc c fs => exact h.h.elim
  | stuck => exact h.h.elim
theorem WO.void {o : O τ Empty α} (h : WO o (fun _ => True) R) : WO (o.void : O τ σ α) N R := WO.bind h fun x => x.elim
theorem WO.if_ {b : Bool} {o1 o2 : O τ σ α} (h1 : b = true → WO o1 N R) (h2 : b = false → WO o2 N R) : WO (if b = true then o1 else o2) N R := by
  cases b with
  | true => exact h1 rfl
  | false => exact h2 rfl
theorem W.if_ {b : Bool} {o1 o2 : Ex α} {Q : α → Prop} (h1 : b = true → W o1 Q) (h2 : b = false → W o2 Q) : W (if b = true then o1 else o2) Q := by
  cases b with
  | true => exact h1 rfl
  | false => exact h2 rfl
/-! loops -/
theorem WO.for_ {k : β → σ → O σ σ α} (I : List β → σ → Prop) : ∀ (xs pre : List β) (x0 : σ), I pre x0 → (∀ p b q, pre ++ xs = p ++ b :: q → ∀ x, I p x → WB (k b x) (I (p ++ [b])) R (fun _ => False) (I (p ++ [b]))) → WO (forO k xs x0 : O τ σ α) (I (pre ++ xs)) R
  | [], pre, x0, h0, _ => ⟨by show I (pre ++ []) x0; rw [List.append_nil]; exact h0⟩
  | b :: xs, pre, x0, h0, h => by
    have z := h pre b xs rfl x0 h0
    have ih : ∀ y, I (pre ++ [b]) y → WO (forO k xs y : O τ σ α) (I (pre ++ b :: xs)) R := fun y hy => by
      have h3 := WO.for_ (k := k) I xs (pre ++ [b]) y hy fun p c q e x hx => h p c q (by rw [← e]; simp) x hx
      rwa [List.append_assoc] at h3
    unfold forO
    cases e : k b x0 with
    | nx y => rw [e] at z; exact ih y z.h
    | cnt y => rw [e] at z; exact ih y z.h
    | brk y => rw [e] at z; exact z.h.elim
    | ret a => rw [e] at z; exact ⟨z.h⟩
    | exc c fs => rw [e] at z; exact z.h.elim
    | stuck => rw [e] at z; exact z.h.elim
/-- by what has been walked -/
theorem WO.for {k : β → σ → O σ σ α} (I : List β → σ → Prop) {xs : List β} {x0 : σ} (h0 : I [] x0) (h : ∀ p b q, xs = p ++ b :: q → ∀ x, I p x → WO (k b x) (I (p ++ [b])) R) (hN : ∀ x, I xs x → N x) : WO (forO k xs x0 : O τ σ α) N R :=
  (WO.for_ I xs [] x0 h0 fun p b q e x hx => WB.mono (h p b q e x hx) (fun _ z => z) (fun _ z => z) (fun _ z => z) fun _ z => z.elim).mono hN fun _ z => z
/-- by the number of turns -/
theorem WO.for_n {k : β → σ → O σ σ α} (I : Nat → σ → Prop) {xs : List β} {x0 : σ} (h0 : I 0 x0) (h : ∀ b ∈ xs, ∀ i < xs.length, ∀ x, I i x → WO (k b x) (I (i + 1)) R) (hN : ∀ x, I xs.length x → N x) : WO (forO k xs x0 : O τ σ α) N R :=
  WO.for (fun p => I p.length) h0 (fun p b q e x hx => (h b (by rw [e]; simp) p.length (by rw [e]; simp) x hx).mono (fun y hy => by simpa using hy) fun _ z => z) hN
theorem WO.for_inv {k : β → σ → O σ σ α} (I : σ → Prop) {xs : List β} {x0 : σ} (h0 : I x0) (h : ∀ b ∈ xs, ∀ x, I x → WO (k b x) I R) (hN : ∀ x, I x → N x) : WO (forO k xs x0 : O τ σ α) N R := WO.for_n (fun _ => I) h0 (fun b hb _ _ x hx => h b hb x hx) hN
/-- a fold -/
theorem forO_fold {k : β → σ → O σ σ α} (f : σ → β → σ) (I : List β → σ → Prop) : ∀ (xs pre : List β) (x0 : σ), I pre x0 → (∀ p b q, pre ++ xs = p ++ b :: q → ∀ x, I p x → k b x = .nx (f x b) ∧ I (p ++ [b]) (f x b)) → (forO k xs x0 : O τ σ α) = .nx (xs.foldl f x0) ∧ I (pre ++ xs) (xs.foldl f x0)
  | [], pre, x0, h0, _ => by rw [List.append_nil]; exact ⟨rfl, h0⟩
  | b :: xs, pre, x0, h0, h => by
    obtain ⟨e, h1⟩ := h pre b xs rfl x0 h0
    have ih := forO_fold (k := k) f I xs (pre ++ [b]) (f x0 b) h1 fun p c q e x hx => h p c q (by rw [← e]; simp) x hx
    rw [List.append_assoc] at ih
    unfold forO
    rw [e]
    exact ih
theorem forO_foldl {k : β → σ → O σ σ α} (f : σ → β → σ) (I : List β → σ → Prop) {xs : List β} {x0 : σ} (h0 : I [] x0) (h : ∀ p b q, xs = p ++ b :: q → ∀ x, I p x → k b x = .nx (f x b) ∧ I (p ++ [b]) (f x b)) : (forO k xs x0 : O τ σ α) = .nx (xs.foldl f x0) := (forO_fold f I xs [] x0 h0 h).1
/-! comprehensions -/
theorem lcT_ok {ot : β → Ex Bool} {oe : β → Ex γ} {p : β → Bool} {g : β → γ} : ∀ {xs : List β}, (∀ a ∈ xs, ot a = .ok (p a)) → (∀ a ∈ xs, p a = true → oe a = .ok (g a)) → lcT ot oe xs = .ok ((xs.filter p).map g)
  | [], _, _ => rfl
  | a :: xs, h1, h2 => by
    have ih := lcT_ok (xs := xs) (fun b hb => h1 b (List.mem_cons_of_mem _ hb)) fun b hb => h2 b (List.mem_cons_of_mem _ hb)
    unfold lcT
    rw [h1 a List.mem_cons_self, nf_bind]
    cases hp : p a with
    | true =>
      rw [if_pos rfl, h2 a List.mem_cons_self hp, nf_bind, ih, nf_bind, List.filter_cons_of_pos hp]
      rfl
    | false => rw [if_neg Bool.false_ne_true, ih, List.filter_cons_of_neg (by rw [hp]; exact Bool.false_ne_true)]
theorem size_ok {n : Nat} (h : n ≤ 1000000) : n < sizeLine := Nat.lt_of_le_of_lt h (by rw [sizeLine_eq]; decide)
theorem size_le {n : Nat} (h : n ≤ 1000000) : n ≤ sizeLine := Nat.le_of_lt (size_ok h)
theorem lcX_ok {ot : β → Ex Bool} {oe : β → Ex γ} {p : β → Bool} {g : β → γ} {xs : List β} (hl : xs.length ≤ 1000000) (h1 : ∀ a ∈ xs, ot a = .ok (p a)) (h2 : ∀ a ∈ xs, p a = true → oe a = .ok (g a)) : lcX ot oe xs = .ok ((xs.filter p).map g) := by
  unfold lcX
  rw [if_pos (size_ok hl), lcT_ok h1 h2]; rfl
theorem lcM_ok {oe : β → Ex γ} {g : β → γ} {xs : List β} (hl : xs.length ≤ 1000000) (h : ∀ a ∈ xs, oe a = .ok (g a)) : lcM oe xs = .ok (xs.map g) := by
  have z := lcX_ok (ot := fun _ => .ok true) (p := fun _ => true) hl (fun _ _ => rfl) fun a ha _ => h a ha
  rw [List.filter_eq_self.mpr fun _ _ => rfl] at z
  exact z
theorem lcM_w {oe : β → Ex γ} {P : β → γ → Prop} {xs : List β} (hl : xs.length ≤ 1000000) (h : ∀ a ∈ xs, W (oe a) (P a)) : W (lcM oe xs) fun ys => ys.length = xs.length ∧ ∀ y ∈ ys, ∃ a ∈ xs, P a y := by
  have : ∃ ys : List γ, lcT (fun _ => .ok true) oe xs = .ok ys ∧ ys.length = xs.length ∧ ∀ y ∈ ys, ∃ a ∈ xs, P a y := by
    clear hl
    induction xs with
    | nil => exact ⟨[], rfl, rfl, fun _ h => nomatch h⟩
    | cons a xs ih =>
      obtain ⟨ys, e, l, q⟩ := ih fun b hb => h b (List.mem_cons_of_mem _ hb)
      obtain ⟨y, e1, q1⟩ := h a List.mem_cons_self
      refine ⟨y :: ys, ?_, by simp [l], fun z hz => ?_⟩
      · unfold lcT
        rw [nf_bind, if_pos rfl, e1, nf_bind, e, nf_bind]
      · rcases List.mem_cons.mp hz with rfl | hz
        · exact ⟨a, List.mem_cons_self, q1⟩
        · obtain ⟨b, hb, q2⟩ := q z hz
          exact ⟨b, List.mem_cons_of_mem _ hb, q2⟩
  obtain ⟨ys, e, l, q⟩ := this
  refine ⟨ys, ?_, l, q⟩
  unfold lcM lcX
  rw [if_pos (size_ok hl), e]; rfl
/-- under a state: each element by the number of turns -/
theorem lcS_w {ot : β → S → Ex (Bool × S)} {oe : β → S → Ex (γ × S)} (I : Nat → S → Prop) {P : β → γ → Prop} {xs : List β} {s : S} (hl : xs.length ≤ 1000000) (h0 : I 0 s) (h : ∀ a ∈ xs, ∀ i < xs.length, ∀ s, I i s → W (ot a s) fun p => (p.1 = false → I (i + 1) p.2) ∧ (p.1 = true → W (oe a p.2) fun q => P a q.1 ∧ I (i + 1) q.2)) : W (lcS ot oe xs s) fun r => (∃ zs : List β, zs.Sublist xs ∧ r.1.length = zs.length ∧ ∀ (j : Nat) (a : β) (y : γ), zs[j]? = some a → r.1[j]? = some y → P a y) ∧ I xs.length r.2 := by
  have go : ∀ (ys pre : List β) (s : S), xs = pre ++ ys → I pre.length s → ∃ r, lcS_ ot oe ys s = .ok r ∧ (∃ zs : List β, zs.Sublist ys ∧ r.1.length = zs.length ∧ ∀ (j : Nat) (a : β) (y : γ), zs[j]? = some a → r.1[j]? = some y → P a y) ∧ I xs.length r.2 := by
    intro ys
    induction ys with
    | nil => intro pre s e hI; exact ⟨([], s), rfl, ⟨[], .slnil, rfl, fun j a y h => by simp at h⟩, by rw [e]; simpa using hI⟩
    | cons a ys ih =>
      intro pre s e hI
      have hm : a ∈ xs := by rw [e]; simp
      have hlt : pre.length < xs.length := by rw [e]; simp
      obtain ⟨⟨c, s2⟩, e1, q1, q2⟩ := h a hm pre.length hlt s hI
      unfold lcS_
      rw [e1, nf_bind]
      have e' : xs = (pre ++ [a]) ++ ys := by rw [e]; simp
      have hl' : (pre ++ [a]).length = pre.length + 1 := by simp
      cases c with
      | true =>
        obtain ⟨⟨y, s3⟩, e2, p2, i2⟩ := q2 rfl
        obtain ⟨r, e3, ⟨zs, z1, z2, z3⟩, i3⟩ := ih (pre ++ [a]) s3 e' (by rw [hl']; exact i2)
        rw [if_pos rfl]
        refine ⟨(y :: r.1, r.2), ?_, ⟨a :: zs, z1.cons₂ a, by simp [z2], fun j b z hb hz => ?_⟩, i3⟩
        · show (oe a s2).bind _ = _
          rw [e2, nf_bind, e3, nf_bind]
        · cases j with
          | zero => cases hb; cases hz; exact p2
          | succ j => exact z3 j b z hb hz
      | false =>
        obtain ⟨r, e3, ⟨zs, z1, z2, z3⟩, i3⟩ := ih (pre ++ [a]) s2 e' (by rw [hl']; exact q1 rfl)
        rw [if_neg Bool.false_ne_true]
        exact ⟨r, e3, ⟨zs, z1.cons a, z2, z3⟩, i3⟩
  obtain ⟨r, e, q⟩ := go xs [] s rfl h0
  refine ⟨r, ?_, q⟩
  unfold lcS
  rw [if_pos (size_ok hl), e]; rfl
/-! operators -/
theorem ixT_ok {xs : List α} {i : Nat} (h : i < xs.length) : ixT xs (i : Int) = .ok xs[i] := by
  unfold ixT atI ixN
  simp only [Int.natCast_nonneg, if_true, Int.ofNat_lt, h, Int.toNat_natCast, Option.bind_some, List.getElem?_eq_getElem h]
  rfl
theorem ixT_int {xs : List α} {i : Int} (h0 : 0 ≤ i) (h : i < xs.length) : ixT xs i = .ok (xs[i.toNat]'(by omega)) := by
  obtain ⟨n, rfl⟩ := Int.eq_ofNat_of_zero_le h0
  exact ixT_ok (by omega)
theorem ixT_neg {xs : List α} {i : Int} (h0 : i < 0) (h : 0 ≤ i + xs.length) : ixT xs i = .ok (xs[(i + xs.length).toNat]'(by omega)) := by
  unfold ixT atI ixN
  rw [if_neg (by omega), if_pos (by omega)]
  show Ex.of (xs[(i + xs.length).toNat]?) = _
  rw [List.getElem?_eq_getElem (by omega)]
  rfl
theorem rg1T_ok {n : Int} (h : -1000000 ≤ n ∧ n ≤ 1000000) : rg1T n = .ok (rng 0 n) := if_pos (by omega)
theorem rg2T_ok {m n : Int} (h : -1000000 ≤ m ∧ m ≤ 1000000 ∧ -1000000 ≤ n ∧ n ≤ 1000000) : rg2T m n = .ok (rng m n) := if_pos (by omega)
theorem rng_nat (n : Nat) : rng 0 (n : Int) = (List.range n).map fun i : Nat => (i : Int) := by
  unfold rng
  rw [show ((n : Int) - 0).toNat = n by omega]
  exact List.map_congr_left fun i _ => by omega
theorem rng_mem {a b x : Int} : x ∈ rng a b ↔ a ≤ x ∧ x < b := by
  unfold rng
  rw [List.mem_map]
  refine ⟨fun ⟨i, h, e⟩ => by have := List.mem_range.mp h; omega, fun h => ⟨(x - a).toNat, List.mem_range.mpr (by omega), by omega⟩⟩
theorem rng_len (a b : Int) : (rng a b).length = (b - a).toNat := by unfold rng; simp
theorem catT_ok {xs ys : List α} (h : xs.length + ys.length ≤ 1000000) : catT xs ys = .ok (xs ++ ys) := if_pos (size_le h)
theorem appT_ok {xs : List α} {x : α} (h : xs.length ≤ 1000000) : appT xs x = .ok (xs ++ [x]) := if_pos (size_ok h)
theorem appU_ok {xs : List α} (h : xs.length ≤ 1000000) : appU xs = .ok () := if_pos (size_ok h)
theorem extT_ok {xs ys : List α} (h : xs.length + ys.length ≤ 1000000) : extT xs ys = .ok (xs ++ ys) := if_pos h
theorem mulT_ok {i j : Int} (hi : -(2 ^ 80 : Int) < i ∧ i < 2 ^ 80) (hj : -(2 ^ 80 : Int) < j ∧ j < 2 ^ 80) : mulT i j = .ok (i * j) := by
  have := DL.mulD_ok2 hi hj
  change (if CMulX i j then some (D.int (i * j)) else none) = _ at this
  by_cases c : CMulX i j
  · exact if_pos c
  · rw [if_neg c] at this; cases this
theorem modT_ok {i j : Int} (h : 0 < j) : modT i j = .ok (i % j) := if_pos h
theorem fdivT_ok {i j : Int} (h : 0 < j) (h2 : j < 2 ^ 80) : fdivT i j = .ok (i / j) := if_pos ⟨h, Nat.lt_of_lt_of_le (show j.natAbs < 2 ^ 80 by omega) (Nat.pow_le_pow_right (by decide) (by decide))⟩
theorem setT_ok {xs : List α} {i : Nat} {x : α} (h : i < xs.length) : setT xs (i : Int) x = .ok (xs.set i x) := by
  unfold setT ixN
  simp only [Int.natCast_nonneg, if_true, Int.ofNat_lt, h, Int.toNat_natCast]
theorem sl_to (xs : List α) {n : Nat} (h : n ≤ xs.length) : slT xs none (some (n : Int)) = xs.take n := by
  unfold slT
  have e3 : HT.sIx xs.length xs.length (some (n : Int)) = n := by rw [HT.sIx_nat]; exact Nat.min_eq_left h
  have e1 : HT.sIx xs.length 0 none = 0 := rfl
  rw [e3, e1, Nat.sub_zero, List.drop_zero]
theorem sl_from (xs : List α) {n : Nat} (h : n ≤ xs.length) : slT xs (some (n : Int)) none = xs.drop n := by
  unfold slT
  have e1 : HT.sIx xs.length xs.length none = xs.length := rfl
  have e3 : HT.sIx xs.length 0 (some (n : Int)) = n := by rw [HT.sIx_nat]; exact Nat.min_eq_left h
  rw [e1, e3]
  exact List.take_of_length_le (by rw [List.length_drop]; exact Nat.le_refl _)
theorem sortT_ok {xs : List (List Int)} (h : ∀ x ∈ xs, x ≠ []) : sortT xs = .ok (isortL xs) := if_pos (List.all_eq_true.mpr fun x hx => by
  cases x with
  | nil => exact absurd rfl (h [] hx)
  | cons => rfl)
end
/-- from the typed law to the law -/
theorem law_of {F : List D → Res D} {t : List Int → Ex Bool} {ns : List Int} {e : Bool → D} {eo : Bool → Env} (h : FT F [eX ns] e eo (t ns)) (he : e true = .bl true) (w : W (t ns) (· = true)) : ∃ os, F [.scr ns] = .ok (.bl true) os := by
  obtain ⟨b, hb, rfl⟩ := w
  have z := h.h
  rw [hb] at z
  have z : F [.scr ns] = .ok (e true) (eo true) := z
  rw [he] at z
  exact ⟨_, z⟩
end DL
namespace DL
open PySem PySem.Spec L2
section
variable {α β γ δ σ σ1 σ2 τ S : Type}
theorem WO.nxE {o : O τ σ α} {N : σ → Prop} (h : WO o N fun _ => False) : ∃ x, o = .nx x ∧ N x := by
  cases o with
  | nx x => exact ⟨x, rfl, h.h⟩
  | ret a => exact h.h.elim
  | brk y => exact h.h.elim
  | cnt y => exact h.h.elim
  | exc c fs => exact h.h.elim
  | stuck => exact h.h.elim
theorem WO.onlyNx {o : O τ σ α} {N : σ → Prop} {R : α → Prop} (h : WO o N fun _ => False) : WO o.onlyNx N R := by
  obtain ⟨x, rfl, hx⟩ := h.nxE
  exact ⟨hx⟩
theorem rng_split {n : Nat} {p q : List Int} {b : Int} (h : rng 0 (n : Int) = p ++ b :: q) : b = (p.length : Nat) ∧ p.length < n := by
  rw [rng_nat] at h
  have hl := congrArg List.length h
  simp at hl
  have hb : (p ++ b :: q)[p.length]? = some b := by simp
  rw [← h, List.getElem?_map, List.getElem?_range (by omega)] at hb
  exact ⟨(Option.some.inj hb).symm, by omega⟩
theorem rng_lt (a b : Int) : (rng a b).Pairwise (· < ·) := by
  unfold rng
  exact List.Pairwise.map _ (fun x y h => by omega) List.pairwise_lt_range
theorem lcS_sub {ot : β → S → Ex (Bool × S)} (I : Nat → S → Prop) {xs : List β} {s : S} (hl : xs.length ≤ 1000000) (h0 : I 0 s) (h : ∀ a ∈ xs, ∀ i < xs.length, ∀ s, I i s → W (ot a s) fun p => I (i + 1) p.2) : W (lcS ot (fun a s => .ok (a, s)) xs s) fun r => r.1.Sublist xs ∧ I xs.length r.2 := by
  refine (lcS_w I (P := fun a y => y = a) hl h0 fun a ha i hi s hs => (h a ha i hi s hs).mono fun p hp => ⟨fun _ => hp, fun _ => .ok ⟨rfl, hp⟩⟩).mono ?_
  rintro ⟨ys, s2⟩ ⟨⟨zs, z1, z2, z3⟩, hI⟩
  refine ⟨?_, hI⟩
  have : ys = zs := List.ext_getElem z2 fun j h1 h2 => z3 j zs[j] ys[j] (List.getElem?_eq_getElem h2) (List.getElem?_eq_getElem h1)
  rw [this]
  exact z1
theorem all_map {f : β → Bool} (xs : List β) : (xs.map f).all id = xs.all f := by rw [List.all_map]; rfl
theorem any_map {f : β → Bool} (xs : List β) : (xs.map f).any id = xs.any f := by rw [List.any_map]; rfl
theorem filter_snoc {p : β → Bool} (xs : List β) (b : β) : (xs ++ [b]).filter p = if p b = true then xs.filter p ++ [b] else xs.filter p := by
  rw [List.filter_append]
  cases h : p b with
  | true => rw [if_pos rfl, List.filter_cons_of_pos h]; rfl
  | false => rw [if_neg Bool.false_ne_true, List.filter_cons_of_neg (by rw [h]; exact Bool.false_ne_true)]; exact List.append_nil _
/-- a loop that keeps what a test lets -/
theorem WO.for_filter {k : β → List β → O (List β) (List β) α} {R : α → Prop} (p : β → Bool) {xs : List β} (h : ∀ b ∈ xs, ∀ ys : List β, ys.length ≤ xs.length → k b ys = .nx (if p b = true then ys ++ [b] else ys)) : WO (forO k xs [] : O τ (List β) α) (· = xs.filter p) R :=
  WO.for (fun pre ys => ys = pre.filter p) rfl (fun pre b q e ys hy => by
    subst hy
    rw [h b (by rw [e]; simp) _ (Nat.le_trans (List.length_filter_le p pre) (by rw [e]; simp))]
    exact ⟨(filter_snoc pre b).symm⟩) fun _ h => h
end
end DL

set_option Elab.async false
set_option linter.all false
set_option maxRecDepth 100000
set_option maxHeartbeats 4000000
noncomputable section
namespace Lk62
open PySem PySem.Spec L2 DL
def top (i : Nat) : Stmt := PySem.Challenge.pw_owncause_k62_whole_least_lots.main.body.getD i (.Pass ⟨0, 0, 0, 0⟩)
structure Txt (K : PySem.W.Frag) (mg : Str → Option Value) : Prop where
  f_abs : mg "abs" = none
  f_all : mg "all" = none
  f_any : mg "any" = none
  f_bool : mg "bool" = none
  f_int : mg "int" = none
  f_isinstance : mg "isinstance" = none
  f_len : mg "len" = none
  f_list : mg "list" = none
  f_range : mg "range" = none
  f_sorted : mg "sorted" = none
  f_tuple : mg "tuple" = none
  i_MOST_MEMBERS : ∃ t, mg "MOST_MEMBERS" = some (.int 8 t)
  x_NoKin : ExF ⟨K, mg⟩ "NoKin"
variable {P : Program} {w : World} {K : PySem.W.Frag} {mg : Str → Option Value} {base : Heap}
abbrev s_law_pool : Stmt := top 20
abbrev N_law_pool : List Str := ["_law_script", "_law_great", "_law_small", "_law_cell"]
abbrev P_law_pool : List Str := ["_law_script"]
theorem sc_law_pool : FnScope N_law_pool P_law_pool (defScope s_law_pool) := ⟨rfl, rfl, rfl, by decide +kernel, rfl, by decide +kernel, by decide +kernel⟩
def b_law_pool : SF := (sSeq (sAsg (eFrz (eLcL 4 (iSeq (eSl (eVar 0) pNone (pSome (eC (.int 63))))) (gSet 3) (eB (e2 geD (eBi absD (aCons (eVar 3) aNil)) (e2 powD (eC (.int 10)) (eC (.int 18))))) (eBi absD (aCons (eVar 3) aNil)) [3])) (gSet 1))
  (sSeq (sAsg (eFrz (eLcL 4 (iSeq (eSl (eVar 0) pNone (pSome (eC (.int 63))))) (gSet 3) (eB (e2 ltD (eBi absD (aCons (eVar 3) aNil)) (e2 powD (eC (.int 10)) (eC (.int 18))))) (e2 modD (eBi intD (aCons (eVar 3) aNil)) (eC (.int 1000003))) [3])) (gSet 2))
  (sRet (eLst (aCons (eVar 1) (aCons (eVar 2) (aCons (eC (.int 0)) (aCons (eC (.int 0)) aNil))))))))
def F_law_pool : List D → Res D := runS [] 1 4 b_law_pool
theorem ok_law_pool (T : Txt K mg)  {f : Addr} {fd : FuncData} (F : FunD K "_law_pool" "_law_pool" (defArgs s_law_pool) (defBody s_law_pool) (defScope s_law_pool) [] [] f fd) : FnOk P w K mg base (L2.CX P w) 1 f fd P_law_pool (spD ⟨K, mg⟩ P_law_pool.length F_law_pool) :=
  fnok_of (pr := []) F sc_law_pool fun cdv A outer s H E hr => by
    have c := cf_of (P := P) (w := w) (K := K) (mg := mg) (base := base) (E := E) (H := H) (outer := outer) sc_law_pool hr
    have po : ∀ i : Unit, PassesOwn (model ((fun _ : Unit => cxOf (L2.CX P w) P w K mg base N_law_pool "_law_pool" (defScope s_law_pool) f cdv A outer s H E) i).prog ((fun _ : Unit => cxOf (L2.CX P w) P w K mg base N_law_pool "_law_pool" (defScope s_law_pool) f cdv A outer s H E) i).w) ((fun _ : Unit => cxOf (L2.CX P w) P w K mg base N_law_pool "_law_pool" (defScope s_law_pool) f cdv A outer s H E) i).A ((fun _ : Unit => cxOf (L2.CX P w) P w K mg base N_law_pool "_law_pool" (defScope s_law_pool) f cdv A outer s H E) i).env ((fun _ : Unit => cxOf (L2.CX P w) P w K mg base N_law_pool "_law_pool" (defScope s_law_pool) f cdv A outer s H E) i).xe := fun _ => passes_of rfl
    exact (ss_cons (by first | exact (sd_setLcF (own := [("_law_cell", 3)]) 4 c.calm c.nd (fun _ => rfl) (fun _ => rfl) (fun _ => rfl) (by kernel_rfl) (by kernel_rfl) (by decide) (id_seq c (ed_sl c (ed_var 0 (fun _ => pv 0)) pod_none (pod_some ed_int))) (fun _ => blkOk_by (by kernel_rfl)) (gd_name (i := 3) (fun j => pg_name ((c.blk _).nd j) rfl (by first | exact Or.inl rfl | exact Or.inr rfl))) (ld_one (td_ge (c.blk _) (ed_abs (c.blk _) (fun _ => by rfl) T.f_abs (am_cons (ed_var 3 (fun _ => pv 3)) am_nil)) (ed_pow (c.blk _) ed_int ed_int))) (ed_abs (c.blk _) (fun _ => by rfl) T.f_abs (am_cons (ed_var 3 (fun _ => pv 3)) am_nil))) | exact (sd_asg (fun i te tg he hg => ps_asg he hg) (ed_frz (ed_lc (own := [("_law_cell", 3)]) 4 c.calm c.nd (id_seq c (ed_sl c (ed_var 0 (fun _ => pv 0)) pod_none (pod_some ed_int))) (fun _ => blkOk_by (by kernel_rfl)) (gd_name (i := 3) (fun j => pg_name ((c.blk _).nd j) rfl (by first | exact Or.inl rfl | exact Or.inr rfl))) (ld_one (td_ge (c.blk _) (ed_abs (c.blk _) (fun _ => by rfl) T.f_abs (am_cons (ed_var 3 (fun _ => pv 3)) am_nil)) (ed_pow (c.blk _) ed_int ed_int))) (ed_abs (c.blk _) (fun _ => by rfl) T.f_abs (am_cons (ed_var 3 (fun _ => pv 3)) am_nil)))) (gd_name (i := 1) (fun j => pg_name (c.nd j) rfl (by first | exact Or.inl rfl | exact Or.inr rfl)))))
  (ss_cons (by first | exact (sd_setLcF (own := [("_law_cell", 3)]) 4 c.calm c.nd (fun _ => rfl) (fun _ => rfl) (fun _ => rfl) (by kernel_rfl) (by kernel_rfl) (by decide) (id_seq c (ed_sl c (ed_var 0 (fun _ => pv 0)) pod_none (pod_some ed_int))) (fun _ => blkOk_by (by kernel_rfl)) (gd_name (i := 3) (fun j => pg_name ((c.blk _).nd j) rfl (by first | exact Or.inl rfl | exact Or.inr rfl))) (ld_one (td_lt (c.blk _) (ed_abs (c.blk _) (fun _ => by rfl) T.f_abs (am_cons (ed_var 3 (fun _ => pv 3)) am_nil)) (ed_pow (c.blk _) ed_int ed_int))) (ed_mod (c.blk _) (ed_toint (c.blk _) (fun _ => by rfl) T.f_int (am_cons (ed_var 3 (fun _ => pv 3)) am_nil)) ed_int)) | exact (sd_asg (fun i te tg he hg => ps_asg he hg) (ed_frz (ed_lc (own := [("_law_cell", 3)]) 4 c.calm c.nd (id_seq c (ed_sl c (ed_var 0 (fun _ => pv 0)) pod_none (pod_some ed_int))) (fun _ => blkOk_by (by kernel_rfl)) (gd_name (i := 3) (fun j => pg_name ((c.blk _).nd j) rfl (by first | exact Or.inl rfl | exact Or.inr rfl))) (ld_one (td_lt (c.blk _) (ed_abs (c.blk _) (fun _ => by rfl) T.f_abs (am_cons (ed_var 3 (fun _ => pv 3)) am_nil)) (ed_pow (c.blk _) ed_int ed_int))) (ed_mod (c.blk _) (ed_toint (c.blk _) (fun _ => by rfl) T.f_int (am_cons (ed_var 3 (fun _ => pv 3)) am_nil)) ed_int))) (gd_name (i := 2) (fun j => pg_name (c.nd j) rfl (by first | exact Or.inl rfl | exact Or.inr rfl)))))
  (ss_one (sd_ret (ed_lst (am_cons (ed_var 1 (fun _ => pv 1)) (am_cons (ed_var 2 (fun _ => pv 2)) (am_cons ed_int (am_cons ed_int am_nil)))))))))
abbrev s_law_draw : Stmt := top 21
abbrev N_law_draw : List Str := ["_law_pool_here", "_law_many", "_law_cell", "_law_number", "_law_digit"]
abbrev P_law_draw : List Str := ["_law_pool_here", "_law_many"]
theorem sc_law_draw : FnScope N_law_draw P_law_draw (defScope s_law_draw) := ⟨rfl, rfl, rfl, by decide +kernel, rfl, by decide +kernel, by decide +kernel⟩
def b_law_draw : SF := (sSeq (sIf (tBor (mAnd (eB (e2 lebD (e2 ixD (eVar 0) (eC (.int 2))) (eC (.int 1)))) (eB (e2 gtD (eBi lenD (aCons (e2 ixD (eVar 0) (eC (.int 0))) aNil)) (eC (.int 0)))))) (sSeq (sAsg (eFrz (e2 ixD (eVix 0 (eC (.int 0))) (eC (.int 0)))) (gItem 0 (eC (.int 2))))
  (sAsg (eFrz (eSl (eVix 0 (eC (.int 0))) (pSome (eC (.int 1))) pNone)) (gItem 0 (eC (.int 0))))) sNext)
  (sSeq (sIf (tBor (eB (e2 gtD (e2 ixD (eVar 0) (eC (.int 2))) (eC (.int 1))))) (sSeq (sAsg (eBor (e2 modD (eBi intD (aCons (e2 ixD (eVar 0) (eC (.int 2))) aNil)) (eVar 1))) (gSet 4))
  (sSeq (sAsg (eBor (e2 fdivD (e2 ixD (eVar 0) (eC (.int 2))) (eVar 1))) (gItem 0 (eC (.int 2))))
  (sRet (eVar 4)))) sNext)
  (sSeq (sAsg (eFrz (eBor (e2 addD (e2 ixD (eVar 0) (eC (.int 3))) (eC (.int 1))))) (gItem 0 (eC (.int 3))))
  (sSeq (sAsg (eC (.int 0)) (gSet 2))
  (sSeq (sIf (tBor (eB (e2 gtD (eBi lenD (aCons (e2 ixD (eVar 0) (eC (.int 1))) aNil)) (eC (.int 0))))) (sAsg (eFrz (e2 ixD (eVix 0 (eC (.int 1))) (eBor (e2 modD (eBi intD (aCons (e2 ixD (eVar 0) (eC (.int 3))) aNil)) (eBi lenD (aCons (e2 ixD (eVar 0) (eC (.int 1))) aNil)))))) (gSet 2)) sNext)
  (sSeq (sAsg (eBor (e2 modD (eBi intD (aCons (e2 mulD (e2 addD (e2 addD (eVar 2) (e2 mulD (eC (.int 7919)) (e2 ixD (eVar 0) (eC (.int 3))))) (eC (.int 1))) (eC (.int 48271))) aNil)) (eC (.int 2147483647)))) (gSet 3))
  (sSeq (sAsg (e2 modD (eBi intD (aCons (e2 mulD (eVar 3) (e2 addD (e2 fdivD (eVar 3) (eC (.int 1009))) (eC (.int 69621)))) aNil)) (eC (.int 2147483647))) (gSet 3))
  (sSeq (sAsg (e2 modD (eBi intD (aCons (e2 mulD (eVar 3) (e2 addD (e2 fdivD (eVar 3) (eC (.int 2003))) (eC (.int 40692)))) aNil)) (eC (.int 2147483399))) (gSet 3))
  (sRet (e2 modD (eBi intD (aCons (e2 fdivD (eVar 3) (eC (.int 16))) aNil)) (eVar 1)))))))))))
def F_law_draw : List D → Res D := runS [0] 2 5 b_law_draw
theorem ok_law_draw (T : Txt K mg)  {f : Addr} {fd : FuncData} (F : FunD K "_law_draw" "_law_draw" (defArgs s_law_draw) (defBody s_law_draw) (defScope s_law_draw) [] [] f fd) : FnOk P w K mg base (L2.CX P w) 1 f fd P_law_draw (spD ⟨K, mg⟩ P_law_draw.length F_law_draw) :=
  fnok_of (pr := [0]) F sc_law_draw fun cdv A outer s H E hr => by
    have c := cf_of (P := P) (w := w) (K := K) (mg := mg) (base := base) (E := E) (H := H) (outer := outer) sc_law_draw hr
    have po : ∀ i : Unit, PassesOwn (model ((fun _ : Unit => cxOf (L2.CX P w) P w K mg base N_law_draw "_law_draw" (defScope s_law_draw) f cdv A outer s H E) i).prog ((fun _ : Unit => cxOf (L2.CX P w) P w K mg base N_law_draw "_law_draw" (defScope s_law_draw) f cdv A outer s H E) i).w) ((fun _ : Unit => cxOf (L2.CX P w) P w K mg base N_law_draw "_law_draw" (defScope s_law_draw) f cdv A outer s H E) i).A ((fun _ : Unit => cxOf (L2.CX P w) P w K mg base N_law_draw "_law_draw" (defScope s_law_draw) f cdv A outer s H E) i).env ((fun _ : Unit => cxOf (L2.CX P w) P w K mg base N_law_draw "_law_draw" (defScope s_law_draw) f cdv A outer s H E) i).xe := fun _ => passes_of rfl
    exact (ss_cons (sd_if (td_bor (td_of (wd_and (td_le c (ed_ix c (ed_var 0 (fun _ => pv 0)) ed_int) ed_int) (wd_and1 (td_gt c (ed_len c (fun _ => by rfl) T.f_len (am_cons (ed_ix c (ed_var 0 (fun _ => pv 0)) ed_int) am_nil)) ed_int))))) (ss_cons (sd_asg (fun i te tg he hg => ps_asg he hg) (ed_frz (ed_ix c (ed_vix 0 c (fun _ => pv 0) ed_int) ed_int)) (gd_item 0 c (fun _ => pv 0) ed_int))
  (ss_one (sd_asg (fun i te tg he hg => ps_asg he hg) (ed_frz (ed_sl c (ed_vix 0 c (fun _ => pv 0) ed_int) (pod_some ed_int) pod_none)) (gd_item 0 c (fun _ => pv 0) ed_int)))) ss_nil)
  (ss_cons (sd_if (td_bor (td_gt c (ed_ix c (ed_var 0 (fun _ => pv 0)) ed_int) ed_int)) (ss_cons (sd_asg (fun i te tg he hg => ps_asg he hg) (ed_bor (ed_mod c (ed_toint c (fun _ => by rfl) T.f_int (am_cons (ed_ix c (ed_var 0 (fun _ => pv 0)) ed_int) am_nil)) (ed_var 1 (fun _ => pv 1)))) (gd_name (i := 4) (fun j => pg_name (c.nd j) rfl (by first | exact Or.inl rfl | exact Or.inr rfl))))
  (ss_cons (sd_asg (fun i te tg he hg => ps_asg he hg) (ed_bor (ed_fdiv c (ed_ix c (ed_var 0 (fun _ => pv 0)) ed_int) (ed_var 1 (fun _ => pv 1)))) (gd_item 0 c (fun _ => pv 0) ed_int))
  (ss_one (sd_ret (ed_var 4 (fun _ => pv 4)))))) ss_nil)
  (ss_cons (sd_asg (fun i te tg he hg => ps_asg he hg) (ed_frz (ed_bor (ed_add c (ed_ix c (ed_var 0 (fun _ => pv 0)) ed_int) ed_int))) (gd_item 0 c (fun _ => pv 0) ed_int))
  (ss_cons (sd_asg (fun i te tg he hg => ps_asg he hg) ed_int (gd_name (i := 2) (fun j => pg_name (c.nd j) rfl (by first | exact Or.inl rfl | exact Or.inr rfl))))
  (ss_cons (sd_if (td_bor (td_gt c (ed_len c (fun _ => by rfl) T.f_len (am_cons (ed_ix c (ed_var 0 (fun _ => pv 0)) ed_int) am_nil)) ed_int)) (ss_one (sd_asg (fun i te tg he hg => ps_asg he hg) (ed_frz (ed_ix c (ed_vix 0 c (fun _ => pv 0) ed_int) (ed_bor (ed_mod c (ed_toint c (fun _ => by rfl) T.f_int (am_cons (ed_ix c (ed_var 0 (fun _ => pv 0)) ed_int) am_nil)) (ed_len c (fun _ => by rfl) T.f_len (am_cons (ed_ix c (ed_var 0 (fun _ => pv 0)) ed_int) am_nil)))))) (gd_name (i := 2) (fun j => pg_name (c.nd j) rfl (by first | exact Or.inl rfl | exact Or.inr rfl))))) ss_nil)
  (ss_cons (sd_asg (fun i te tg he hg => ps_asg he hg) (ed_bor (ed_mod c (ed_toint c (fun _ => by rfl) T.f_int (am_cons (ed_mul c (ed_add c (ed_add c (ed_var 2 (fun _ => pv 2)) (ed_mul c ed_int (ed_ix c (ed_var 0 (fun _ => pv 0)) ed_int))) ed_int) ed_int) am_nil)) ed_int)) (gd_name (i := 3) (fun j => pg_name (c.nd j) rfl (by first | exact Or.inl rfl | exact Or.inr rfl))))
  (ss_cons (sd_asg (fun i te tg he hg => ps_asg he hg) (ed_mod c (ed_toint c (fun _ => by rfl) T.f_int (am_cons (ed_mul c (ed_var 3 (fun _ => pv 3)) (ed_add c (ed_fdiv c (ed_var 3 (fun _ => pv 3)) ed_int) ed_int)) am_nil)) ed_int) (gd_name (i := 3) (fun j => pg_name (c.nd j) rfl (by first | exact Or.inl rfl | exact Or.inr rfl))))
  (ss_cons (sd_asg (fun i te tg he hg => ps_asg he hg) (ed_mod c (ed_toint c (fun _ => by rfl) T.f_int (am_cons (ed_mul c (ed_var 3 (fun _ => pv 3)) (ed_add c (ed_fdiv c (ed_var 3 (fun _ => pv 3)) ed_int) ed_int)) am_nil)) ed_int) (gd_name (i := 3) (fun j => pg_name (c.nd j) rfl (by first | exact Or.inl rfl | exact Or.inr rfl))))
  (ss_one (sd_ret (ed_mod c (ed_toint c (fun _ => by rfl) T.f_int (am_cons (ed_fdiv c (ed_var 3 (fun _ => pv 3)) ed_int) am_nil)) (ed_var 1 (fun _ => pv 1)))))))))))))
abbrev s_law_kin : Stmt := top 23
abbrev N_law_kin : List Str := ["_law_pool_here", "_law_many", "_law_style", "_law_found", "_law_member", "_law_lot", "_law_other"]
abbrev P_law_kin : List Str := ["_law_pool_here", "_law_many"]
theorem sc_law_kin : FnScope N_law_kin P_law_kin (defScope s_law_kin) := ⟨rfl, rfl, rfl, by decide +kernel, rfl, by decide +kernel, by decide +kernel⟩
def b_law_kin : SF := (sSeq (sAsg (eFrz (eCall F_law_draw (aCons (eMove 0) (aCons (eC (.int 6)) aNil)) [] [(0, 0)])) (gSet 2))
  (sSeq (sAsg (eLst aNil) (gSet 3))
  (sSeq (sFor (iRg1 (aCons (eVar 1) aNil)) (gSet 4) (sSeq (sAsg (eFrz (eLst (aCons (eVar 4) aNil))) (gSet 5))
  (sSeq (sIf (eB (e2 eqD (eVar 2) (eC (.int 1)))) (sAsg (eFrz (eLcL 7 (iRg1 (aCons (eVar 1) aNil)) (gSet 6) (eB (eChain lebD lebD (e2 subD (eVar 4) (eC (.int 1))) (eVar 6) (e2 addD (eVar 4) (eC (.int 1))))) (eFrz (eVar 6)) [6])) (gSet 5)) (sIf (eB (e2 gtD (eVar 2) (eC (.int 2)))) (sSeq (sAsg (eFrz (eLcL 7 (iRg1 (aCons (eVar 1) aNil)) (gSet 6) (eB (e2 eqD (eCall F_law_draw (aCons (eMove 0) (aCons (e2 subD (eVar 2) (eC (.int 1))) aNil)) [] [(0, 0)]) (eC (.int 0)))) (eFrz (eVar 6)) [6])) (gSet 5))
  (sIf (mAnd (eB (e2 eqD (eBi lenD (aCons (eVar 5) aNil)) (eC (.int 0)))) (eB (e2 gtD (eCall F_law_draw (aCons (eMove 0) (aCons (eC (.int 4)) aNil)) [] [(0, 0)]) (eC (.int 0))))) (sAsg (eFrz (eLst (aCons (eFrz (eCall F_law_draw (aCons (eMove 0) (aCons (eVar 1) aNil)) [] [(0, 0)])) aNil))) (gSet 5)) sNext)) sNext))
  (sDrop (eApp 3 (eBi tupleD (aCons (eVar 5) aNil)))))))
  (sFrz 3 (sRet (eBi tupleD (aCons (eVar 3) aNil)))))))
def F_law_kin : List D → Res D := runS [0] 2 7 b_law_kin
theorem ok_law_kin (T : Txt K mg) (h_law_draw_2 : FnD P w K mg base 1 "_law_draw" 2 [] F_law_draw) {f : Addr} {fd : FuncData} (F : FunD K "_law_kin" "_law_kin" (defArgs s_law_kin) (defBody s_law_kin) (defScope s_law_kin) [] [] f fd) : FnOk P w K mg base (L2.CX P w) 2 f fd P_law_kin (spD ⟨K, mg⟩ P_law_kin.length F_law_kin) :=
  fnok_of (pr := [0]) F sc_law_kin fun cdv A outer s H E hr => by
    have c := cf_of (P := P) (w := w) (K := K) (mg := mg) (base := base) (E := E) (H := H) (outer := outer) sc_law_kin hr
    have po : ∀ i : Unit, PassesOwn (model ((fun _ : Unit => cxOf (L2.CX P w) P w K mg base N_law_kin "_law_kin" (defScope s_law_kin) f cdv A outer s H E) i).prog ((fun _ : Unit => cxOf (L2.CX P w) P w K mg base N_law_kin "_law_kin" (defScope s_law_kin) f cdv A outer s H E) i).w) ((fun _ : Unit => cxOf (L2.CX P w) P w K mg base N_law_kin "_law_kin" (defScope s_law_kin) f cdv A outer s H E) i).A ((fun _ : Unit => cxOf (L2.CX P w) P w K mg base N_law_kin "_law_kin" (defScope s_law_kin) f cdv A outer s H E) i).env ((fun _ : Unit => cxOf (L2.CX P w) P w K mg base N_law_kin "_law_kin" (defScope s_law_kin) f cdv A outer s H E) i).xe := fun _ => passes_of rfl
    exact (ss_cons (sd_asg (fun i te tg he hg => ps_asg he hg) (ed_frz (ed_fn c (fun _ => h_law_draw_2) (by decide) (fun _ => by rfl) (am_mv 0 (fun _ => pv 0) (am_cons ed_int am_nil)) (al_cons (al_cons al_nil)))) (gd_name (i := 2) (fun j => pg_name (c.nd j) rfl (by first | exact Or.inl rfl | exact Or.inr rfl))))
  (ss_cons (sd_asg (fun i te tg he hg => ps_asg he hg) (ed_lst am_nil) (gd_name (i := 3) (fun j => pg_name (c.nd j) rfl (by first | exact Or.inl rfl | exact Or.inr rfl))))
  (ss_cons (sd_for po c.calm (id_rg1 c (fun _ => by rfl) T.f_range (am_cons (ed_var 1 (fun _ => pv 1)) am_nil)) (gd_name (i := 4) (fun j => pg_name (c.nd j) rfl (by first | exact Or.inl rfl | exact Or.inr rfl))) (ss_cons (sd_asg (fun i te tg he hg => ps_asg he hg) (ed_frz (ed_lst (am_cons (ed_var 4 (fun _ => pv 4)) am_nil))) (gd_name (i := 5) (fun j => pg_name (c.nd j) rfl (by first | exact Or.inl rfl | exact Or.inr rfl))))
  (ss_cons (sd_if (td_eq c (ed_var 2 (fun _ => pv 2)) ed_int) (ss_one (by first | exact (sd_setLcF (own := [("_law_other", 6)]) 7 c.calm c.nd (fun _ => rfl) (fun _ => rfl) (fun _ => rfl) (by kernel_rfl) (by kernel_rfl) (by decide) (id_rg1 c (fun _ => by rfl) T.f_range (am_cons (ed_var 1 (fun _ => pv 1)) am_nil)) (fun _ => blkOk_by (by kernel_rfl)) (gd_name (i := 6) (fun j => pg_name ((c.blk _).nd j) rfl (by first | exact Or.inl rfl | exact Or.inr rfl))) (ld_one (td_chain (fun _ => op_le) (fun _ => op_le) ops_le ops_le (ed_sub (c.blk _) (ed_var 4 (fun _ => pv 4)) ed_int) (ed_var 6 (fun _ => pv 6)) (ed_add (c.blk _) (ed_var 4 (fun _ => pv 4)) ed_int))) (ed_frz (ed_var 6 (fun _ => pv 6)))) | exact (sd_asg (fun i te tg he hg => ps_asg he hg) (ed_frz (ed_lc (own := [("_law_other", 6)]) 7 c.calm c.nd (id_rg1 c (fun _ => by rfl) T.f_range (am_cons (ed_var 1 (fun _ => pv 1)) am_nil)) (fun _ => blkOk_by (by kernel_rfl)) (gd_name (i := 6) (fun j => pg_name ((c.blk _).nd j) rfl (by first | exact Or.inl rfl | exact Or.inr rfl))) (ld_one (td_chain (fun _ => op_le) (fun _ => op_le) ops_le ops_le (ed_sub (c.blk _) (ed_var 4 (fun _ => pv 4)) ed_int) (ed_var 6 (fun _ => pv 6)) (ed_add (c.blk _) (ed_var 4 (fun _ => pv 4)) ed_int))) (ed_frz (ed_var 6 (fun _ => pv 6))))) (gd_name (i := 5) (fun j => pg_name (c.nd j) rfl (by first | exact Or.inl rfl | exact Or.inr rfl)))))) (ss_one (sd_if (td_gt c (ed_var 2 (fun _ => pv 2)) ed_int) (ss_cons (by first | exact (sd_setLcF (own := [("_law_other", 6)]) 7 c.calm c.nd (fun _ => rfl) (fun _ => rfl) (fun _ => rfl) (by kernel_rfl) (by kernel_rfl) (by decide) (id_rg1 c (fun _ => by rfl) T.f_range (am_cons (ed_var 1 (fun _ => pv 1)) am_nil)) (fun _ => blkOk_by (by kernel_rfl)) (gd_name (i := 6) (fun j => pg_name ((c.blk _).nd j) rfl (by first | exact Or.inl rfl | exact Or.inr rfl))) (ld_one (td_eq (c.blk _) (ed_fn (c.blk _) (fun _ => h_law_draw_2) (by decide) (fun _ => by rfl) (am_mv 0 (fun _ => pv 0) (am_cons (ed_sub (c.blk _) (ed_var 2 (fun _ => pv 2)) ed_int) am_nil)) (al_cons (al_cons al_nil))) ed_int)) (ed_frz (ed_var 6 (fun _ => pv 6)))) | exact (sd_asg (fun i te tg he hg => ps_asg he hg) (ed_frz (ed_lc (own := [("_law_other", 6)]) 7 c.calm c.nd (id_rg1 c (fun _ => by rfl) T.f_range (am_cons (ed_var 1 (fun _ => pv 1)) am_nil)) (fun _ => blkOk_by (by kernel_rfl)) (gd_name (i := 6) (fun j => pg_name ((c.blk _).nd j) rfl (by first | exact Or.inl rfl | exact Or.inr rfl))) (ld_one (td_eq (c.blk _) (ed_fn (c.blk _) (fun _ => h_law_draw_2) (by decide) (fun _ => by rfl) (am_mv 0 (fun _ => pv 0) (am_cons (ed_sub (c.blk _) (ed_var 2 (fun _ => pv 2)) ed_int) am_nil)) (al_cons (al_cons al_nil))) ed_int)) (ed_frz (ed_var 6 (fun _ => pv 6))))) (gd_name (i := 5) (fun j => pg_name (c.nd j) rfl (by first | exact Or.inl rfl | exact Or.inr rfl)))))
  (ss_one (sd_if (td_of (wd_and (td_eq c (ed_len c (fun _ => by rfl) T.f_len (am_cons (ed_var 5 (fun _ => pv 5)) am_nil)) ed_int) (wd_and1 (td_gt c (ed_fn c (fun _ => h_law_draw_2) (by decide) (fun _ => by rfl) (am_mv 0 (fun _ => pv 0) (am_cons ed_int am_nil)) (al_cons (al_cons al_nil))) ed_int)))) (ss_one (sd_asg (fun i te tg he hg => ps_asg he hg) (ed_frz (ed_lst (am_cons (ed_frz (ed_fn c (fun _ => h_law_draw_2) (by decide) (fun _ => by rfl) (am_mv 0 (fun _ => pv 0) (am_cons (ed_var 1 (fun _ => pv 1)) am_nil)) (al_cons (al_cons al_nil)))) am_nil))) (gd_name (i := 5) (fun j => pg_name (c.nd j) rfl (by first | exact Or.inl rfl | exact Or.inr rfl))))) ss_nil))) ss_nil)))
  (ss_one (sd_expr (ed_app 3 (fun _ => pv 3) (ed_tuple c (fun _ => by rfl) T.f_tuple (am_cons (ed_var 5 (fun _ => pv 5)) am_nil)) c))))))
  (ss_frz (i := 3) (ss_one (sd_ret (ed_tuple c (fun _ => by rfl) T.f_tuple (am_cons (ed_var 3 (fun _ => pv 3)) am_nil))))))))
abbrev s_law_all_lots : Stmt := top 24
abbrev N_law_all_lots : List Str := ["_law_many", "_law_found", "_law_member", "_law_lot"]
abbrev P_law_all_lots : List Str := ["_law_many"]
theorem sc_law_all_lots : FnScope N_law_all_lots P_law_all_lots (defScope s_law_all_lots) := ⟨rfl, rfl, rfl, by decide +kernel, rfl, by decide +kernel, by decide +kernel⟩
def b_law_all_lots : SF := (sSeq (sAsg (eFrz (eLst (aCons (eTup aNil) aNil))) (gSet 1))
  (sSeq (sFor (iRg1 (aCons (eVar 0) aNil)) (gSet 2) (sAsg (eFrz (e2 addD (eVar 1) (eLcL 4 (iSeq (eVar 1)) (gSet 3) mYes (eFrz (e2 addD (eVar 3) (eTup (aCons (eVar 2) aNil)))) [3]))) (gSet 1)))
  (sRet (eVar 1))))
def F_law_all_lots : List D → Res D := runS [] 1 4 b_law_all_lots
theorem ok_law_all_lots (T : Txt K mg)  {f : Addr} {fd : FuncData} (F : FunD K "_law_all_lots" "_law_all_lots" (defArgs s_law_all_lots) (defBody s_law_all_lots) (defScope s_law_all_lots) [] [] f fd) : FnOk P w K mg base (L2.CX P w) 1 f fd P_law_all_lots (spD ⟨K, mg⟩ P_law_all_lots.length F_law_all_lots) :=
  fnok_of (pr := []) F sc_law_all_lots fun cdv A outer s H E hr => by
    have c := cf_of (P := P) (w := w) (K := K) (mg := mg) (base := base) (E := E) (H := H) (outer := outer) sc_law_all_lots hr
    have po : ∀ i : Unit, PassesOwn (model ((fun _ : Unit => cxOf (L2.CX P w) P w K mg base N_law_all_lots "_law_all_lots" (defScope s_law_all_lots) f cdv A outer s H E) i).prog ((fun _ : Unit => cxOf (L2.CX P w) P w K mg base N_law_all_lots "_law_all_lots" (defScope s_law_all_lots) f cdv A outer s H E) i).w) ((fun _ : Unit => cxOf (L2.CX P w) P w K mg base N_law_all_lots "_law_all_lots" (defScope s_law_all_lots) f cdv A outer s H E) i).A ((fun _ : Unit => cxOf (L2.CX P w) P w K mg base N_law_all_lots "_law_all_lots" (defScope s_law_all_lots) f cdv A outer s H E) i).env ((fun _ : Unit => cxOf (L2.CX P w) P w K mg base N_law_all_lots "_law_all_lots" (defScope s_law_all_lots) f cdv A outer s H E) i).xe := fun _ => passes_of rfl
    exact (ss_cons (sd_asg (fun i te tg he hg => ps_asg he hg) (ed_frz (ed_lst (am_cons (ed_tup am_nil) am_nil))) (gd_name (i := 1) (fun j => pg_name (c.nd j) rfl (by first | exact Or.inl rfl | exact Or.inr rfl))))
  (ss_cons (sd_for po c.calm (id_rg1 c (fun _ => by rfl) T.f_range (am_cons (ed_var 0 (fun _ => pv 0)) am_nil)) (gd_name (i := 2) (fun j => pg_name (c.nd j) rfl (by first | exact Or.inl rfl | exact Or.inr rfl))) (ss_one (sd_asg (fun i te tg he hg => ps_asg he hg) (ed_frz (ed_add c (ed_var 1 (fun _ => pv 1)) (ed_lc (own := [("_law_lot", 3)]) 4 c.calm c.nd (id_seq c (ed_var 1 (fun _ => pv 1))) (fun _ => blkOk_by (by kernel_rfl)) (gd_name (i := 3) (fun j => pg_name ((c.blk _).nd j) rfl (by first | exact Or.inl rfl | exact Or.inr rfl))) ld_nil (ed_frz (ed_add (c.blk _) (ed_var 3 (fun _ => pv 3)) (ed_tup (am_cons (ed_var 2 (fun _ => pv 2)) am_nil))))))) (gd_name (i := 1) (fun j => pg_name (c.nd j) rfl (by first | exact Or.inl rfl | exact Or.inr rfl))))))
  (ss_one (sd_ret (ed_var 1 (fun _ => pv 1))))))
abbrev s_law_least_lots : Stmt := top 25
abbrev N_law_least_lots : List Str := ["_law_kin_here", "_law_hits", "_law_lot", "_law_found", "_law_spared", "_law_at", "_law_own", "_law_less", "_law_member"]
abbrev P_law_least_lots : List Str := ["_law_kin_here"]
theorem sc_law_least_lots : FnScope N_law_least_lots P_law_least_lots (defScope s_law_least_lots) := ⟨rfl, rfl, rfl, by decide +kernel, rfl, by decide +kernel, by decide +kernel⟩
def b_law_least_lots : SF := (sSeq (sAsg (eC (.dt true [] [])) (gSet 1))
  (sSeq (sFor (iSeq (eCall F_law_all_lots (aCons (eBi lenD (aCons (eVar 0) aNil)) aNil) [] [])) (gSet 2) (sIf (eB (eBi allD (aCons (eLcL 9 (iSeq (eVar 0)) (gSet 6) mYes (eBi anyD (aCons (eLcL 9 (iSeq (eVar 2)) (gSet 8) mYes (e2 inD (eVar 8) (eVar 6)) [8]) aNil)) [6]) aNil))) (sDPutI 1 (eC (.bl true)) (eVar 2)) sNext))
  (sSeq (sAsg (eLst aNil) (gSet 3))
  (sSeq (sForK 1 [0, 2, 4, 5, 6, 7, 8] (gSet 2) (sSeq (sAsg (eFrz (eLcL 9 (iRg1 (aCons (eBi lenD (aCons (eVar 2) aNil)) aNil)) (gSet 5) mYes (eFrz (e2 addD (eSl (eVar 2) pNone (pSome (eVar 5))) (eSl (eVar 2) (pSome (e2 addD (eVar 5) (eC (.int 1)))) pNone))) [5])) (gSet 4))
  (sIf (tBor (mNot (eB (eBi anyD (aCons (eLcL 9 (iSeq (eVar 4)) (gSet 7) mYes (eDin false 1 (eVar 7)) [7]) aNil))))) (sDrop (eApp 3 (eVar 2))) sNext)))
  (sFrz 3 (sRet (eBi sortTD (aCons (eVar 3) aNil))))))))
def F_law_least_lots : List D → Res D := runS [] 1 9 b_law_least_lots
theorem ok_law_least_lots (T : Txt K mg) (h_law_all_lots_1 : FnD P w K mg base 1 "_law_all_lots" 1 [] F_law_all_lots) {f : Addr} {fd : FuncData} (F : FunD K "_law_least_lots" "_law_least_lots" (defArgs s_law_least_lots) (defBody s_law_least_lots) (defScope s_law_least_lots) [] [] f fd) : FnOk P w K mg base (L2.CX P w) 2 f fd P_law_least_lots (spD ⟨K, mg⟩ P_law_least_lots.length F_law_least_lots) :=
  fnok_of (pr := []) F sc_law_least_lots fun cdv A outer s H E hr => by
    have c := cf_of (P := P) (w := w) (K := K) (mg := mg) (base := base) (E := E) (H := H) (outer := outer) sc_law_least_lots hr
    have po : ∀ i : Unit, PassesOwn (model ((fun _ : Unit => cxOf (L2.CX P w) P w K mg base N_law_least_lots "_law_least_lots" (defScope s_law_least_lots) f cdv A outer s H E) i).prog ((fun _ : Unit => cxOf (L2.CX P w) P w K mg base N_law_least_lots "_law_least_lots" (defScope s_law_least_lots) f cdv A outer s H E) i).w) ((fun _ : Unit => cxOf (L2.CX P w) P w K mg base N_law_least_lots "_law_least_lots" (defScope s_law_least_lots) f cdv A outer s H E) i).A ((fun _ : Unit => cxOf (L2.CX P w) P w K mg base N_law_least_lots "_law_least_lots" (defScope s_law_least_lots) f cdv A outer s H E) i).env ((fun _ : Unit => cxOf (L2.CX P w) P w K mg base N_law_least_lots "_law_least_lots" (defScope s_law_least_lots) f cdv A outer s H E) i).xe := fun _ => passes_of rfl
    exact (ss_cons (sd_asg (fun i te tg he hg => ps_asg he hg) ed_dict0T (gd_name (i := 1) (fun j => pg_name (c.nd j) rfl (by first | exact Or.inl rfl | exact Or.inr rfl))))
  (ss_cons (sd_for po c.calm (id_seq c (ed_fn c (fun _ => h_law_all_lots_1) (by decide) (fun _ => by rfl) (am_cons (ed_len c (fun _ => by rfl) T.f_len (am_cons (ed_var 0 (fun _ => pv 0)) am_nil)) am_nil) (al_cons al_nil))) (gd_name (i := 2) (fun j => pg_name (c.nd j) rfl (by first | exact Or.inl rfl | exact Or.inr rfl))) (ss_one (sd_if (td_val (ed_all c (fun _ => by rfl) T.f_all (am_cons (ed_lc (own := [("_law_own", 6)]) 9 c.calm c.nd (id_seq c (ed_var 0 (fun _ => pv 0))) (fun _ => blkOk_by (by kernel_rfl)) (gd_name (i := 6) (fun j => pg_name ((c.blk _).nd j) rfl (by first | exact Or.inl rfl | exact Or.inr rfl))) ld_nil (ed_any (c.blk _) (fun _ => by rfl) T.f_any (am_cons (ed_lc (own := [("_law_member", 8)]) 9 (c.blk _).calm (c.blk _).nd (id_seq (c.blk _) (ed_var 2 (fun _ => pv 2))) (fun _ => blkOk_by (by kernel_rfl)) (gd_name (i := 8) (fun j => pg_name (((c.blk _).blk _).nd j) rfl (by first | exact Or.inl rfl | exact Or.inr rfl))) ld_nil (ed_in ((c.blk _).blk _) (ed_var 8 (fun _ => pv 8)) (ed_var 6 (fun _ => pv 6)))) am_nil))) am_nil))) (ss_one (sd_dput 1 c (fun _ => pv 1) ed_bl (ed_var 2 (fun _ => pv 2)))) ss_nil)))
  (ss_cons (sd_asg (fun i te tg he hg => ps_asg he hg) (ed_lst am_nil) (gd_name (i := 3) (fun j => pg_name (c.nd j) rfl (by first | exact Or.inl rfl | exact Or.inr rfl))))
  (ss_cons (sd_forK 1 [0, 2, 4, 5, 6, 7, 8] (fun _ => pv 1) po c.calm (gd_name (i := 2) (fun j => pg_name (c.nd j) rfl (by first | exact Or.inl rfl | exact Or.inr rfl))) (ss_cons (by first | exact (sd_setLcF (own := [("_law_at", 5)]) 9 c.calm c.nd (fun _ => rfl) (fun _ => rfl) (fun _ => rfl) (by kernel_rfl) (by kernel_rfl) (by decide) (id_rg1 c (fun _ => by rfl) T.f_range (am_cons (ed_len c (fun _ => by rfl) T.f_len (am_cons (ed_var 2 (fun _ => pv 2)) am_nil)) am_nil)) (fun _ => blkOk_by (by kernel_rfl)) (gd_name (i := 5) (fun j => pg_name ((c.blk _).nd j) rfl (by first | exact Or.inl rfl | exact Or.inr rfl))) ld_nil (ed_frz (ed_add (c.blk _) (ed_sl (c.blk _) (ed_var 2 (fun _ => pv 2)) pod_none (pod_some (ed_var 5 (fun _ => pv 5)))) (ed_sl (c.blk _) (ed_var 2 (fun _ => pv 2)) (pod_some (ed_add (c.blk _) (ed_var 5 (fun _ => pv 5)) ed_int)) pod_none)))) | exact (sd_asg (fun i te tg he hg => ps_asg he hg) (ed_frz (ed_lc (own := [("_law_at", 5)]) 9 c.calm c.nd (id_rg1 c (fun _ => by rfl) T.f_range (am_cons (ed_len c (fun _ => by rfl) T.f_len (am_cons (ed_var 2 (fun _ => pv 2)) am_nil)) am_nil)) (fun _ => blkOk_by (by kernel_rfl)) (gd_name (i := 5) (fun j => pg_name ((c.blk _).nd j) rfl (by first | exact Or.inl rfl | exact Or.inr rfl))) ld_nil (ed_frz (ed_add (c.blk _) (ed_sl (c.blk _) (ed_var 2 (fun _ => pv 2)) pod_none (pod_some (ed_var 5 (fun _ => pv 5)))) (ed_sl (c.blk _) (ed_var 2 (fun _ => pv 2)) (pod_some (ed_add (c.blk _) (ed_var 5 (fun _ => pv 5)) ed_int)) pod_none))))) (gd_name (i := 4) (fun j => pg_name (c.nd j) rfl (by first | exact Or.inl rfl | exact Or.inr rfl)))))
  (ss_one (sd_if (td_bor (td_not (td_val (ed_any c (fun _ => by rfl) T.f_any (am_cons (ed_lc (own := [("_law_less", 7)]) 9 c.calm c.nd (id_seq c (ed_var 4 (fun _ => pv 4))) (fun _ => blkOk_by (by kernel_rfl)) (gd_name (i := 7) (fun j => pg_name ((c.blk _).nd j) rfl (by first | exact Or.inl rfl | exact Or.inr rfl))) ld_nil (ed_din 1 (c.blk _) (fun _ => pv 1) (ed_var 7 (fun _ => pv 7)))) am_nil))))) (ss_one (sd_expr (ed_app 3 (fun _ => pv 3) (ed_var 2 (fun _ => pv 2)) c))) ss_nil))))
  (ss_frz (i := 3) (ss_one (sd_ret (ed_sortT c (fun _ => by rfl) T.f_sorted (am_cons (ed_var 3 (fun _ => pv 3)) am_nil)))))))))
abbrev s_all_lots : Stmt := top 13
abbrev N_all_lots : List Str := ["many", "found", "member", "lot"]
abbrev P_all_lots : List Str := ["many"]
theorem sc_all_lots : FnScope N_all_lots P_all_lots (defScope s_all_lots) := ⟨rfl, rfl, rfl, by decide +kernel, rfl, by decide +kernel, by decide +kernel⟩
def b_all_lots : SF := (sSeq (sAsg (eFrz (eLst (aCons (eTup aNil) aNil))) (gSet 1))
  (sSeq (sFor (iRg1 (aCons (eVar 0) aNil)) (gSet 2) (sAsg (eFrz (e2 addD (eVar 1) (eLcL 4 (iSeq (eVar 1)) (gSet 3) mYes (eFrz (e2 addD (eVar 3) (eTup (aCons (eVar 2) aNil)))) [3]))) (gSet 1)))
  (sRet (eVar 1))))
def F_all_lots : List D → Res D := runS [] 1 4 b_all_lots
theorem ok_all_lots (T : Txt K mg)  {f : Addr} {fd : FuncData} (F : FunD K "all_lots" "all_lots" (defArgs s_all_lots) (defBody s_all_lots) (defScope s_all_lots) [] [] f fd) : FnOk P w K mg base (L2.CX P w) 1 f fd P_all_lots (spD ⟨K, mg⟩ P_all_lots.length F_all_lots) :=
  fnok_of (pr := []) F sc_all_lots fun cdv A outer s H E hr => by
    have c := cf_of (P := P) (w := w) (K := K) (mg := mg) (base := base) (E := E) (H := H) (outer := outer) sc_all_lots hr
    have po : ∀ i : Unit, PassesOwn (model ((fun _ : Unit => cxOf (L2.CX P w) P w K mg base N_all_lots "all_lots" (defScope s_all_lots) f cdv A outer s H E) i).prog ((fun _ : Unit => cxOf (L2.CX P w) P w K mg base N_all_lots "all_lots" (defScope s_all_lots) f cdv A outer s H E) i).w) ((fun _ : Unit => cxOf (L2.CX P w) P w K mg base N_all_lots "all_lots" (defScope s_all_lots) f cdv A outer s H E) i).A ((fun _ : Unit => cxOf (L2.CX P w) P w K mg base N_all_lots "all_lots" (defScope s_all_lots) f cdv A outer s H E) i).env ((fun _ : Unit => cxOf (L2.CX P w) P w K mg base N_all_lots "all_lots" (defScope s_all_lots) f cdv A outer s H E) i).xe := fun _ => passes_of rfl
    exact (ss_cons (sd_asg (fun i te tg he hg => ps_asg he hg) (ed_frz (ed_lst (am_cons (ed_tup am_nil) am_nil))) (gd_name (i := 1) (fun j => pg_name (c.nd j) rfl (by first | exact Or.inl rfl | exact Or.inr rfl))))
  (ss_cons (sd_for po c.calm (id_rg1 c (fun _ => by rfl) T.f_range (am_cons (ed_var 0 (fun _ => pv 0)) am_nil)) (gd_name (i := 2) (fun j => pg_name (c.nd j) rfl (by first | exact Or.inl rfl | exact Or.inr rfl))) (ss_one (sd_asg (fun i te tg he hg => ps_asg he hg) (ed_frz (ed_add c (ed_var 1 (fun _ => pv 1)) (ed_lc (own := [("lot", 3)]) 4 c.calm c.nd (id_seq c (ed_var 1 (fun _ => pv 1))) (fun _ => blkOk_by (by kernel_rfl)) (gd_name (i := 3) (fun j => pg_name ((c.blk _).nd j) rfl (by first | exact Or.inl rfl | exact Or.inr rfl))) ld_nil (ed_frz (ed_add (c.blk _) (ed_var 3 (fun _ => pv 3)) (ed_tup (am_cons (ed_var 2 (fun _ => pv 2)) am_nil))))))) (gd_name (i := 1) (fun j => pg_name (c.nd j) rfl (by first | exact Or.inl rfl | exact Or.inr rfl))))))
  (ss_one (sd_ret (ed_var 1 (fun _ => pv 1))))))
abbrev s_has_some : Stmt := top 14
abbrev N_has_some : List Str := ["lot", "other", "member"]
abbrev P_has_some : List Str := ["lot", "other"]
theorem sc_has_some : FnScope N_has_some P_has_some (defScope s_has_some) := ⟨rfl, rfl, rfl, by decide +kernel, rfl, by decide +kernel, by decide +kernel⟩
def b_has_some : SF := (sRet (eBi anyD (aCons (eLcL 3 (iSeq (eVar 0)) (gSet 2) mYes (e2 inD (eVar 2) (eVar 1)) [2]) aNil)))
def F_has_some : List D → Res D := runS [] 2 3 b_has_some
theorem ok_has_some (T : Txt K mg)  {f : Addr} {fd : FuncData} (F : FunD K "has_some" "has_some" (defArgs s_has_some) (defBody s_has_some) (defScope s_has_some) [] [] f fd) : FnOk P w K mg base (L2.CX P w) 1 f fd P_has_some (spD ⟨K, mg⟩ P_has_some.length F_has_some) :=
  fnok_of (pr := []) F sc_has_some fun cdv A outer s H E hr => by
    have c := cf_of (P := P) (w := w) (K := K) (mg := mg) (base := base) (E := E) (H := H) (outer := outer) sc_has_some hr
    have po : ∀ i : Unit, PassesOwn (model ((fun _ : Unit => cxOf (L2.CX P w) P w K mg base N_has_some "has_some" (defScope s_has_some) f cdv A outer s H E) i).prog ((fun _ : Unit => cxOf (L2.CX P w) P w K mg base N_has_some "has_some" (defScope s_has_some) f cdv A outer s H E) i).w) ((fun _ : Unit => cxOf (L2.CX P w) P w K mg base N_has_some "has_some" (defScope s_has_some) f cdv A outer s H E) i).A ((fun _ : Unit => cxOf (L2.CX P w) P w K mg base N_has_some "has_some" (defScope s_has_some) f cdv A outer s H E) i).env ((fun _ : Unit => cxOf (L2.CX P w) P w K mg base N_has_some "has_some" (defScope s_has_some) f cdv A outer s H E) i).xe := fun _ => passes_of rfl
    exact (ss_one (sd_ret (ed_any c (fun _ => by rfl) T.f_any (am_cons (ed_lc (own := [("member", 2)]) 3 c.calm c.nd (id_seq c (ed_var 0 (fun _ => pv 0))) (fun _ => blkOk_by (by kernel_rfl)) (gd_name (i := 2) (fun j => pg_name ((c.blk _).nd j) rfl (by first | exact Or.inl rfl | exact Or.inr rfl))) ld_nil (ed_in (c.blk _) (ed_var 2 (fun _ => pv 2)) (ed_var 1 (fun _ => pv 1)))) am_nil))))
abbrev s_meets_all : Stmt := top 15
abbrev N_meets_all : List Str := ["lot", "kin", "other"]
abbrev P_meets_all : List Str := ["lot", "kin"]
theorem sc_meets_all : FnScope N_meets_all P_meets_all (defScope s_meets_all) := ⟨rfl, rfl, rfl, by decide +kernel, rfl, by decide +kernel, by decide +kernel⟩
def b_meets_all : SF := (sRet (eBi allD (aCons (eLcL 3 (iSeq (eVar 1)) (gSet 2) mYes (eFrz (eCall F_has_some (aCons (eVar 0) (aCons (eVar 2) aNil)) [] [])) [2]) aNil)))
def F_meets_all : List D → Res D := runS [] 2 3 b_meets_all
theorem ok_meets_all (T : Txt K mg) (h_has_some_2 : FnD P w K mg base 1 "has_some" 2 [] F_has_some) {f : Addr} {fd : FuncData} (F : FunD K "meets_all" "meets_all" (defArgs s_meets_all) (defBody s_meets_all) (defScope s_meets_all) [] [] f fd) : FnOk P w K mg base (L2.CX P w) 2 f fd P_meets_all (spD ⟨K, mg⟩ P_meets_all.length F_meets_all) :=
  fnok_of (pr := []) F sc_meets_all fun cdv A outer s H E hr => by
    have c := cf_of (P := P) (w := w) (K := K) (mg := mg) (base := base) (E := E) (H := H) (outer := outer) sc_meets_all hr
    have po : ∀ i : Unit, PassesOwn (model ((fun _ : Unit => cxOf (L2.CX P w) P w K mg base N_meets_all "meets_all" (defScope s_meets_all) f cdv A outer s H E) i).prog ((fun _ : Unit => cxOf (L2.CX P w) P w K mg base N_meets_all "meets_all" (defScope s_meets_all) f cdv A outer s H E) i).w) ((fun _ : Unit => cxOf (L2.CX P w) P w K mg base N_meets_all "meets_all" (defScope s_meets_all) f cdv A outer s H E) i).A ((fun _ : Unit => cxOf (L2.CX P w) P w K mg base N_meets_all "meets_all" (defScope s_meets_all) f cdv A outer s H E) i).env ((fun _ : Unit => cxOf (L2.CX P w) P w K mg base N_meets_all "meets_all" (defScope s_meets_all) f cdv A outer s H E) i).xe := fun _ => passes_of rfl
    exact (ss_one (sd_ret (ed_all c (fun _ => by rfl) T.f_all (am_cons (ed_lc (own := [("other", 2)]) 3 c.calm c.nd (id_seq c (ed_var 1 (fun _ => pv 1))) (fun _ => blkOk_by (by kernel_rfl)) (gd_name (i := 2) (fun j => pg_name ((c.blk _).nd j) rfl (by first | exact Or.inl rfl | exact Or.inr rfl))) ld_nil (ed_frz (ed_fn (c.blk _) (fun _ => h_has_some_2) (by decide) (fun _ => by rfl) (am_cons (ed_var 0 (fun _ => pv 0)) (am_cons (ed_var 2 (fun _ => pv 2)) am_nil)) (al_cons (al_cons al_nil))))) am_nil))))
abbrev s_without : Stmt := top 16
abbrev N_without : List Str := ["lot", "member", "other"]
abbrev P_without : List Str := ["lot", "member"]
theorem sc_without : FnScope N_without P_without (defScope s_without) := ⟨rfl, rfl, rfl, by decide +kernel, rfl, by decide +kernel, by decide +kernel⟩
def b_without : SF := (sRet (eBi tupleD (aCons (eLcL 3 (iSeq (eVar 0)) (gSet 2) (eB (e2 neD (eVar 2) (eVar 1))) (eFrz (eVar 2)) [2]) aNil)))
def F_without : List D → Res D := runS [] 2 3 b_without
theorem ok_without (T : Txt K mg)  {f : Addr} {fd : FuncData} (F : FunD K "without" "without" (defArgs s_without) (defBody s_without) (defScope s_without) [] [] f fd) : FnOk P w K mg base (L2.CX P w) 1 f fd P_without (spD ⟨K, mg⟩ P_without.length F_without) :=
  fnok_of (pr := []) F sc_without fun cdv A outer s H E hr => by
    have c := cf_of (P := P) (w := w) (K := K) (mg := mg) (base := base) (E := E) (H := H) (outer := outer) sc_without hr
    have po : ∀ i : Unit, PassesOwn (model ((fun _ : Unit => cxOf (L2.CX P w) P w K mg base N_without "without" (defScope s_without) f cdv A outer s H E) i).prog ((fun _ : Unit => cxOf (L2.CX P w) P w K mg base N_without "without" (defScope s_without) f cdv A outer s H E) i).w) ((fun _ : Unit => cxOf (L2.CX P w) P w K mg base N_without "without" (defScope s_without) f cdv A outer s H E) i).A ((fun _ : Unit => cxOf (L2.CX P w) P w K mg base N_without "without" (defScope s_without) f cdv A outer s H E) i).env ((fun _ : Unit => cxOf (L2.CX P w) P w K mg base N_without "without" (defScope s_without) f cdv A outer s H E) i).xe := fun _ => passes_of rfl
    exact (ss_one (sd_ret (ed_tuple c (fun _ => by rfl) T.f_tuple (am_cons (ed_lc (own := [("other", 2)]) 3 c.calm c.nd (id_seq c (ed_var 0 (fun _ => pv 0))) (fun _ => blkOk_by (by kernel_rfl)) (gd_name (i := 2) (fun j => pg_name ((c.blk _).nd j) rfl (by first | exact Or.inl rfl | exact Or.inr rfl))) (ld_one (td_ne (c.blk _) (ed_var 2 (fun _ => pv 2)) (ed_var 1 (fun _ => pv 1)))) (ed_frz (ed_var 2 (fun _ => pv 2)))) am_nil))))
abbrev s_least_of : Stmt := top 17
abbrev N_least_of : List Str := ["kin", "found", "lot", "member"]
abbrev P_least_of : List Str := ["kin"]
theorem sc_least_of : FnScope N_least_of P_least_of (defScope s_least_of) := ⟨rfl, rfl, rfl, by decide +kernel, rfl, by decide +kernel, by decide +kernel⟩
def b_least_of : SF := (sSeq (sAsg (eLst aNil) (gSet 1))
  (sSeq (sFor (iSeq (eCall F_all_lots (aCons (eBi lenD (aCons (eVar 0) aNil)) aNil) [] [])) (gSet 2) (sIf (mAnd (eB (eCall F_meets_all (aCons (eVar 2) (aCons (eVar 0) aNil)) [] [])) (mNot (eB (eBi anyD (aCons (eLcL 4 (iSeq (eVar 2)) (gSet 3) mYes (eFrz (eCall F_meets_all (aCons (eFrz (eCall F_without (aCons (eVar 2) (aCons (eVar 3) aNil)) [] [])) (aCons (eVar 0) aNil)) [] [])) [3]) aNil))))) (sDrop (eApp 1 (eVar 2))) sNext))
  (sFrz 1 (sRet (eBi sortTD (aCons (eVar 1) aNil))))))
def F_least_of : List D → Res D := runS [] 1 4 b_least_of
theorem ok_least_of (T : Txt K mg) (h_all_lots_1 : FnD P w K mg base 1 "all_lots" 1 [] F_all_lots) (h_meets_all_2 : FnD P w K mg base 2 "meets_all" 2 [] F_meets_all) (h_without_2 : FnD P w K mg base 1 "without" 2 [] F_without) {f : Addr} {fd : FuncData} (F : FunD K "least_of" "least_of" (defArgs s_least_of) (defBody s_least_of) (defScope s_least_of) [] [] f fd) : FnOk P w K mg base (L2.CX P w) 3 f fd P_least_of (spD ⟨K, mg⟩ P_least_of.length F_least_of) :=
  fnok_of (pr := []) F sc_least_of fun cdv A outer s H E hr => by
    have c := cf_of (P := P) (w := w) (K := K) (mg := mg) (base := base) (E := E) (H := H) (outer := outer) sc_least_of hr
    have po : ∀ i : Unit, PassesOwn (model ((fun _ : Unit => cxOf (L2.CX P w) P w K mg base N_least_of "least_of" (defScope s_least_of) f cdv A outer s H E) i).prog ((fun _ : Unit => cxOf (L2.CX P w) P w K mg base N_least_of "least_of" (defScope s_least_of) f cdv A outer s H E) i).w) ((fun _ : Unit => cxOf (L2.CX P w) P w K mg base N_least_of "least_of" (defScope s_least_of) f cdv A outer s H E) i).A ((fun _ : Unit => cxOf (L2.CX P w) P w K mg base N_least_of "least_of" (defScope s_least_of) f cdv A outer s H E) i).env ((fun _ : Unit => cxOf (L2.CX P w) P w K mg base N_least_of "least_of" (defScope s_least_of) f cdv A outer s H E) i).xe := fun _ => passes_of rfl
    exact (ss_cons (sd_asg (fun i te tg he hg => ps_asg he hg) (ed_lst am_nil) (gd_name (i := 1) (fun j => pg_name (c.nd j) rfl (by first | exact Or.inl rfl | exact Or.inr rfl))))
  (ss_cons (sd_for po c.calm (id_seq c (ed_fn c (fun _ => h_all_lots_1) (by decide) (fun _ => by rfl) (am_cons (ed_len c (fun _ => by rfl) T.f_len (am_cons (ed_var 0 (fun _ => pv 0)) am_nil)) am_nil) (al_cons al_nil))) (gd_name (i := 2) (fun j => pg_name (c.nd j) rfl (by first | exact Or.inl rfl | exact Or.inr rfl))) (ss_one (sd_if (td_of (wd_and (td_val (ed_fn c (fun _ => h_meets_all_2) (by decide) (fun _ => by rfl) (am_cons (ed_var 2 (fun _ => pv 2)) (am_cons (ed_var 0 (fun _ => pv 0)) am_nil)) (al_cons (al_cons al_nil)))) (wd_and1 (td_not (td_val (ed_any c (fun _ => by rfl) T.f_any (am_cons (ed_lc (own := [("member", 3)]) 4 c.calm c.nd (id_seq c (ed_var 2 (fun _ => pv 2))) (fun _ => blkOk_by (by kernel_rfl)) (gd_name (i := 3) (fun j => pg_name ((c.blk _).nd j) rfl (by first | exact Or.inl rfl | exact Or.inr rfl))) ld_nil (ed_frz (ed_fn (c.blk _) (fun _ => h_meets_all_2) (by decide) (fun _ => by rfl) (am_cons (ed_frz (ed_fn (c.blk _) (fun _ => h_without_2) (by decide) (fun _ => by rfl) (am_cons (ed_var 2 (fun _ => pv 2)) (am_cons (ed_var 3 (fun _ => pv 3)) am_nil)) (al_cons (al_cons al_nil)))) (am_cons (ed_var 0 (fun _ => pv 0)) am_nil)) (al_cons (al_cons al_nil))))) am_nil))))))) (ss_one (sd_expr (ed_app 1 (fun _ => pv 1) (ed_var 2 (fun _ => pv 2)) c))) ss_nil)))
  (ss_frz (i := 1) (ss_one (sd_ret (ed_sortT c (fun _ => by rfl) T.f_sorted (am_cons (ed_var 1 (fun _ => pv 1)) am_nil)))))))
abbrev s_is_integer : Stmt := top 5
abbrev N_is_integer : List Str := ["thing"]
abbrev P_is_integer : List Str := ["thing"]
theorem sc_is_integer : FnScope N_is_integer P_is_integer (defScope s_is_integer) := ⟨rfl, rfl, rfl, by decide +kernel, rfl, by decide +kernel, by decide +kernel⟩
def b_is_integer : SF := (sRet (eAnd (eInst .int (eVar 0)) (eNot (eInst .bool (eVar 0)))))
def F_is_integer : List D → Res D := runS [] 1 1 b_is_integer
theorem ok_is_integer (T : Txt K mg)  {f : Addr} {fd : FuncData} (F : FunD K "is_integer" "is_integer" (defArgs s_is_integer) (defBody s_is_integer) (defScope s_is_integer) [] [] f fd) : FnOk P w K mg base (L2.CX P w) 1 f fd P_is_integer (spD ⟨K, mg⟩ P_is_integer.length F_is_integer) :=
  fnok_of (pr := []) F sc_is_integer fun cdv A outer s H E hr => by
    have c := cf_of (P := P) (w := w) (K := K) (mg := mg) (base := base) (E := E) (H := H) (outer := outer) sc_is_integer hr
    have po : ∀ i : Unit, PassesOwn (model ((fun _ : Unit => cxOf (L2.CX P w) P w K mg base N_is_integer "is_integer" (defScope s_is_integer) f cdv A outer s H E) i).prog ((fun _ : Unit => cxOf (L2.CX P w) P w K mg base N_is_integer "is_integer" (defScope s_is_integer) f cdv A outer s H E) i).w) ((fun _ : Unit => cxOf (L2.CX P w) P w K mg base N_is_integer "is_integer" (defScope s_is_integer) f cdv A outer s H E) i).A ((fun _ : Unit => cxOf (L2.CX P w) P w K mg base N_is_integer "is_integer" (defScope s_is_integer) f cdv A outer s H E) i).env ((fun _ : Unit => cxOf (L2.CX P w) P w K mg base N_is_integer "is_integer" (defScope s_is_integer) f cdv A outer s H E) i).xe := fun _ => passes_of rfl
    exact (ss_one (sd_ret (ed_and (ed_inst .int c (fun _ => by rfl) T.f_isinstance (fun _ => by rfl) T.f_int (by decide +kernel) (ed_var 0 (fun _ => pv 0))) (ed_one (ed_not (ed_inst .bool c (fun _ => by rfl) T.f_isinstance (fun _ => by rfl) T.f_bool (by decide +kernel) (ed_var 0 (fun _ => pv 0))))))))
abbrev s_is_within : Stmt := top 6
abbrev N_is_within : List Str := ["thing", "least", "most"]
abbrev P_is_within : List Str := ["thing", "least", "most"]
theorem sc_is_within : FnScope N_is_within P_is_within (defScope s_is_within) := ⟨rfl, rfl, rfl, by decide +kernel, rfl, by decide +kernel, by decide +kernel⟩
def b_is_within : SF := (sRet (eAnd (eCall F_is_integer (aCons (eVar 0) aNil) [] []) (eChain lebD lebD (eVar 1) (eVar 0) (eVar 2))))
def F_is_within : List D → Res D := runS [] 3 3 b_is_within
theorem ok_is_within (T : Txt K mg) (h_is_integer_1 : FnD P w K mg base 1 "is_integer" 1 [] F_is_integer) {f : Addr} {fd : FuncData} (F : FunD K "is_within" "is_within" (defArgs s_is_within) (defBody s_is_within) (defScope s_is_within) [] [] f fd) : FnOk P w K mg base (L2.CX P w) 2 f fd P_is_within (spD ⟨K, mg⟩ P_is_within.length F_is_within) :=
  fnok_of (pr := []) F sc_is_within fun cdv A outer s H E hr => by
    have c := cf_of (P := P) (w := w) (K := K) (mg := mg) (base := base) (E := E) (H := H) (outer := outer) sc_is_within hr
    have po : ∀ i : Unit, PassesOwn (model ((fun _ : Unit => cxOf (L2.CX P w) P w K mg base N_is_within "is_within" (defScope s_is_within) f cdv A outer s H E) i).prog ((fun _ : Unit => cxOf (L2.CX P w) P w K mg base N_is_within "is_within" (defScope s_is_within) f cdv A outer s H E) i).w) ((fun _ : Unit => cxOf (L2.CX P w) P w K mg base N_is_within "is_within" (defScope s_is_within) f cdv A outer s H E) i).A ((fun _ : Unit => cxOf (L2.CX P w) P w K mg base N_is_within "is_within" (defScope s_is_within) f cdv A outer s H E) i).env ((fun _ : Unit => cxOf (L2.CX P w) P w K mg base N_is_within "is_within" (defScope s_is_within) f cdv A outer s H E) i).xe := fun _ => passes_of rfl
    exact (ss_one (sd_ret (ed_and (ed_fn c (fun _ => h_is_integer_1) (by decide) (fun _ => by rfl) (am_cons (ed_var 0 (fun _ => pv 0)) am_nil) (al_cons al_nil)) (ed_one (ed_chain (fun _ => op_le) (fun _ => op_le) ops_le ops_le (ed_var 1 (fun _ => pv 1)) (ed_var 0 (fun _ => pv 0)) (ed_var 2 (fun _ => pv 2)))))))
abbrev s_is_many : Stmt := top 9
abbrev N_is_many : List Str := ["thing"]
abbrev P_is_many : List Str := ["thing"]
theorem sc_is_many : FnScope N_is_many P_is_many (defScope s_is_many) := ⟨rfl, rfl, rfl, by decide +kernel, rfl, by decide +kernel, by decide +kernel⟩
def b_is_many : SF := (sRet (eCall F_is_within (aCons (eVar 0) (aCons (eC (.int 1)) (aCons (eC (.int 8)) aNil))) [] []))
def F_is_many : List D → Res D := runS [] 1 1 b_is_many
theorem ok_is_many (T : Txt K mg) (h_is_within_3 : FnD P w K mg base 2 "is_within" 3 [] F_is_within) {f : Addr} {fd : FuncData} (F : FunD K "is_many" "is_many" (defArgs s_is_many) (defBody s_is_many) (defScope s_is_many) [] [] f fd) : FnOk P w K mg base (L2.CX P w) 3 f fd P_is_many (spD ⟨K, mg⟩ P_is_many.length F_is_many) :=
  fnok_of (pr := []) F sc_is_many fun cdv A outer s H E hr => by
    have c := cf_of (P := P) (w := w) (K := K) (mg := mg) (base := base) (E := E) (H := H) (outer := outer) sc_is_many hr
    have po : ∀ i : Unit, PassesOwn (model ((fun _ : Unit => cxOf (L2.CX P w) P w K mg base N_is_many "is_many" (defScope s_is_many) f cdv A outer s H E) i).prog ((fun _ : Unit => cxOf (L2.CX P w) P w K mg base N_is_many "is_many" (defScope s_is_many) f cdv A outer s H E) i).w) ((fun _ : Unit => cxOf (L2.CX P w) P w K mg base N_is_many "is_many" (defScope s_is_many) f cdv A outer s H E) i).A ((fun _ : Unit => cxOf (L2.CX P w) P w K mg base N_is_many "is_many" (defScope s_is_many) f cdv A outer s H E) i).env ((fun _ : Unit => cxOf (L2.CX P w) P w K mg base N_is_many "is_many" (defScope s_is_many) f cdv A outer s H E) i).xe := fun _ => passes_of rfl
    exact (ss_one (sd_ret (ed_fn c (fun _ => h_is_within_3) (by decide) (fun _ => by rfl) (am_cons (ed_var 0 (fun _ => pv 0)) (am_cons ed_int (am_cons (ed_gint c T.i_MOST_MEMBERS (fun _ => by rfl)) am_nil))) (al_cons (al_cons (al_cons al_nil))))))
abbrev s_is_table : Stmt := top 8
abbrev N_is_table : List Str := ["thing", "size"]
abbrev P_is_table : List Str := ["thing", "size"]
theorem sc_is_table : FnScope N_is_table P_is_table (defScope s_is_table) := ⟨rfl, rfl, rfl, by decide +kernel, rfl, by decide +kernel, by decide +kernel⟩
def b_is_table : SF := (sRet (eAnd (eInst .tuple (eVar 0)) (e2 eqD (eBi lenD (aCons (eVar 0) aNil)) (eVar 1))))
def F_is_table : List D → Res D := runS [] 2 2 b_is_table
theorem ok_is_table (T : Txt K mg)  {f : Addr} {fd : FuncData} (F : FunD K "is_table" "is_table" (defArgs s_is_table) (defBody s_is_table) (defScope s_is_table) [] [] f fd) : FnOk P w K mg base (L2.CX P w) 1 f fd P_is_table (spD ⟨K, mg⟩ P_is_table.length F_is_table) :=
  fnok_of (pr := []) F sc_is_table fun cdv A outer s H E hr => by
    have c := cf_of (P := P) (w := w) (K := K) (mg := mg) (base := base) (E := E) (H := H) (outer := outer) sc_is_table hr
    have po : ∀ i : Unit, PassesOwn (model ((fun _ : Unit => cxOf (L2.CX P w) P w K mg base N_is_table "is_table" (defScope s_is_table) f cdv A outer s H E) i).prog ((fun _ : Unit => cxOf (L2.CX P w) P w K mg base N_is_table "is_table" (defScope s_is_table) f cdv A outer s H E) i).w) ((fun _ : Unit => cxOf (L2.CX P w) P w K mg base N_is_table "is_table" (defScope s_is_table) f cdv A outer s H E) i).A ((fun _ : Unit => cxOf (L2.CX P w) P w K mg base N_is_table "is_table" (defScope s_is_table) f cdv A outer s H E) i).env ((fun _ : Unit => cxOf (L2.CX P w) P w K mg base N_is_table "is_table" (defScope s_is_table) f cdv A outer s H E) i).xe := fun _ => passes_of rfl
    exact (ss_one (sd_ret (ed_and (ed_inst .tuple c (fun _ => by rfl) T.f_isinstance (fun _ => by rfl) T.f_tuple (by decide +kernel) (ed_var 0 (fun _ => pv 0))) (ed_one (ed_eq c (ed_len c (fun _ => by rfl) T.f_len (am_cons (ed_var 0 (fun _ => pv 0)) am_nil)) (ed_var 1 (fun _ => pv 1)))))))
abbrev s_is_lot : Stmt := top 7
abbrev N_is_lot : List Str := ["thing", "many", "last", "item"]
abbrev P_is_lot : List Str := ["thing", "many"]
theorem sc_is_lot : FnScope N_is_lot P_is_lot (defScope s_is_lot) := ⟨rfl, rfl, rfl, by decide +kernel, rfl, by decide +kernel, by decide +kernel⟩
def b_is_lot : SF := (sSeq (sIf (mNot (eB (eInst .tuple (eVar 0)))) (sRet (eC (.bl false))) sNext)
  (sSeq (sAsg (e1 negD (eC (.int 1))) (gSet 2))
  (sSeq (sFor (iSeq (eVar 0)) (gSet 3) (sSeq (sIf (mNot (eB (eCall F_is_within (aCons (eVar 3) (aCons (e2 addD (eVar 2) (eC (.int 1))) (aCons (e2 subD (eVar 1) (eC (.int 1))) aNil))) [] []))) (sRet (eC (.bl false))) sNext)
  (sAsg (eFrz (eVar 3)) (gSet 2))))
  (sRet (eC (.bl true))))))
def F_is_lot : List D → Res D := runS [] 2 4 b_is_lot
theorem ok_is_lot (T : Txt K mg) (h_is_within_3 : FnD P w K mg base 2 "is_within" 3 [] F_is_within) {f : Addr} {fd : FuncData} (F : FunD K "is_lot" "is_lot" (defArgs s_is_lot) (defBody s_is_lot) (defScope s_is_lot) [] [] f fd) : FnOk P w K mg base (L2.CX P w) 3 f fd P_is_lot (spD ⟨K, mg⟩ P_is_lot.length F_is_lot) :=
  fnok_of (pr := []) F sc_is_lot fun cdv A outer s H E hr => by
    have c := cf_of (P := P) (w := w) (K := K) (mg := mg) (base := base) (E := E) (H := H) (outer := outer) sc_is_lot hr
    have po : ∀ i : Unit, PassesOwn (model ((fun _ : Unit => cxOf (L2.CX P w) P w K mg base N_is_lot "is_lot" (defScope s_is_lot) f cdv A outer s H E) i).prog ((fun _ : Unit => cxOf (L2.CX P w) P w K mg base N_is_lot "is_lot" (defScope s_is_lot) f cdv A outer s H E) i).w) ((fun _ : Unit => cxOf (L2.CX P w) P w K mg base N_is_lot "is_lot" (defScope s_is_lot) f cdv A outer s H E) i).A ((fun _ : Unit => cxOf (L2.CX P w) P w K mg base N_is_lot "is_lot" (defScope s_is_lot) f cdv A outer s H E) i).env ((fun _ : Unit => cxOf (L2.CX P w) P w K mg base N_is_lot "is_lot" (defScope s_is_lot) f cdv A outer s H E) i).xe := fun _ => passes_of rfl
    exact (ss_cons (sd_if (td_not (td_val (ed_inst .tuple c (fun _ => by rfl) T.f_isinstance (fun _ => by rfl) T.f_tuple (by decide +kernel) (ed_var 0 (fun _ => pv 0))))) (ss_one (sd_ret ed_bl)) ss_nil)
  (ss_cons (sd_asg (fun i te tg he hg => ps_asg he hg) (ed_neg c ed_int) (gd_name (i := 2) (fun j => pg_name (c.nd j) rfl (by first | exact Or.inl rfl | exact Or.inr rfl))))
  (ss_cons (sd_for po c.calm (id_seq c (ed_var 0 (fun _ => pv 0))) (gd_name (i := 3) (fun j => pg_name (c.nd j) rfl (by first | exact Or.inl rfl | exact Or.inr rfl))) (ss_cons (sd_if (td_not (td_val (ed_fn c (fun _ => h_is_within_3) (by decide) (fun _ => by rfl) (am_cons (ed_var 3 (fun _ => pv 3)) (am_cons (ed_add c (ed_var 2 (fun _ => pv 2)) ed_int) (am_cons (ed_sub c (ed_var 1 (fun _ => pv 1)) ed_int) am_nil))) (al_cons (al_cons (al_cons al_nil)))))) (ss_one (sd_ret ed_bl)) ss_nil)
  (ss_one (sd_asg (fun i te tg he hg => ps_asg he hg) (ed_frz (ed_var 3 (fun _ => pv 3))) (gd_name (i := 2) (fun j => pg_name (c.nd j) rfl (by first | exact Or.inl rfl | exact Or.inr rfl)))))))
  (ss_one (sd_ret ed_bl)))))
abbrev s_is_kin : Stmt := top 11
abbrev N_is_kin : List Str := ["many", "thing", "lot"]
abbrev P_is_kin : List Str := ["many", "thing"]
theorem sc_is_kin : FnScope N_is_kin P_is_kin (defScope s_is_kin) := ⟨rfl, rfl, rfl, by decide +kernel, rfl, by decide +kernel, by decide +kernel⟩
def b_is_kin : SF := (sRet (eAnd (eCall F_is_table (aCons (eVar 1) (aCons (eVar 0) aNil)) [] []) (eBi allD (aCons (eLcL 3 (iSeq (eVar 1)) (gSet 2) mYes (eFrz (eCall F_is_lot (aCons (eVar 2) (aCons (eVar 0) aNil)) [] [])) [2]) aNil))))
def F_is_kin : List D → Res D := runS [] 2 3 b_is_kin
theorem ok_is_kin (T : Txt K mg) (h_is_lot_2 : FnD P w K mg base 3 "is_lot" 2 [] F_is_lot) (h_is_table_2 : FnD P w K mg base 1 "is_table" 2 [] F_is_table) {f : Addr} {fd : FuncData} (F : FunD K "is_kin" "is_kin" (defArgs s_is_kin) (defBody s_is_kin) (defScope s_is_kin) [] [] f fd) : FnOk P w K mg base (L2.CX P w) 4 f fd P_is_kin (spD ⟨K, mg⟩ P_is_kin.length F_is_kin) :=
  fnok_of (pr := []) F sc_is_kin fun cdv A outer s H E hr => by
    have c := cf_of (P := P) (w := w) (K := K) (mg := mg) (base := base) (E := E) (H := H) (outer := outer) sc_is_kin hr
    have po : ∀ i : Unit, PassesOwn (model ((fun _ : Unit => cxOf (L2.CX P w) P w K mg base N_is_kin "is_kin" (defScope s_is_kin) f cdv A outer s H E) i).prog ((fun _ : Unit => cxOf (L2.CX P w) P w K mg base N_is_kin "is_kin" (defScope s_is_kin) f cdv A outer s H E) i).w) ((fun _ : Unit => cxOf (L2.CX P w) P w K mg base N_is_kin "is_kin" (defScope s_is_kin) f cdv A outer s H E) i).A ((fun _ : Unit => cxOf (L2.CX P w) P w K mg base N_is_kin "is_kin" (defScope s_is_kin) f cdv A outer s H E) i).env ((fun _ : Unit => cxOf (L2.CX P w) P w K mg base N_is_kin "is_kin" (defScope s_is_kin) f cdv A outer s H E) i).xe := fun _ => passes_of rfl
    exact (ss_one (sd_ret (ed_and (ed_fn c (fun _ => h_is_table_2) (by decide) (fun _ => by rfl) (am_cons (ed_var 1 (fun _ => pv 1)) (am_cons (ed_var 0 (fun _ => pv 0)) am_nil)) (al_cons (al_cons al_nil))) (ed_one (ed_all c (fun _ => by rfl) T.f_all (am_cons (ed_lc (own := [("lot", 2)]) 3 c.calm c.nd (id_seq c (ed_var 1 (fun _ => pv 1))) (fun _ => blkOk_by (by kernel_rfl)) (gd_name (i := 2) (fun j => pg_name ((c.blk _).nd j) rfl (by first | exact Or.inl rfl | exact Or.inr rfl))) ld_nil (ed_frz (ed_fn (c.blk _) (fun _ => h_is_lot_2) (by decide) (fun _ => by rfl) (am_cons (ed_var 2 (fun _ => pv 2)) (am_cons (ed_var 0 (fun _ => pv 0)) am_nil)) (al_cons (al_cons al_nil))))) am_nil))))))
abbrev s_least_lots : Stmt := top 18
abbrev N_least_lots : List Str := ["kin"]
abbrev P_least_lots : List Str := ["kin"]
theorem sc_least_lots : FnScope N_least_lots P_least_lots (defScope s_least_lots) := ⟨rfl, rfl, rfl, by decide +kernel, rfl, by decide +kernel, by decide +kernel⟩
def b_least_lots : SF := (sSeq (sIf (mOr (mNot (eB (eInst .tuple (eVar 0)))) (mOr (mNot (eB (eCall F_is_many (aCons (eBi lenD (aCons (eVar 0) aNil)) aNil) [] []))) (mNot (eB (eCall F_is_kin (aCons (eBi lenD (aCons (eVar 0) aNil)) (aCons (eVar 0) aNil)) [] []))))) (sRaise "NoKin") sNext)
  (sRet (eCall F_least_of (aCons (eVar 0) aNil) [] [])))
def F_least_lots : List D → Res D := runS [] 1 1 b_least_lots
theorem ok_least_lots (T : Txt K mg) (h_is_kin_2 : FnD P w K mg base 4 "is_kin" 2 [] F_is_kin) (h_is_many_1 : FnD P w K mg base 3 "is_many" 1 [] F_is_many) (h_least_of_1 : FnD P w K mg base 3 "least_of" 1 [] F_least_of) {f : Addr} {fd : FuncData} (F : FunD K "least_lots" "least_lots" (defArgs s_least_lots) (defBody s_least_lots) (defScope s_least_lots) [] [] f fd) : FnOk P w K mg base (L2.CX P w) 5 f fd P_least_lots (spD ⟨K, mg⟩ P_least_lots.length F_least_lots) :=
  fnok_of (pr := []) F sc_least_lots fun cdv A outer s H E hr => by
    have c := cf_of (P := P) (w := w) (K := K) (mg := mg) (base := base) (E := E) (H := H) (outer := outer) sc_least_lots hr
    have po : ∀ i : Unit, PassesOwn (model ((fun _ : Unit => cxOf (L2.CX P w) P w K mg base N_least_lots "least_lots" (defScope s_least_lots) f cdv A outer s H E) i).prog ((fun _ : Unit => cxOf (L2.CX P w) P w K mg base N_least_lots "least_lots" (defScope s_least_lots) f cdv A outer s H E) i).w) ((fun _ : Unit => cxOf (L2.CX P w) P w K mg base N_least_lots "least_lots" (defScope s_least_lots) f cdv A outer s H E) i).A ((fun _ : Unit => cxOf (L2.CX P w) P w K mg base N_least_lots "least_lots" (defScope s_least_lots) f cdv A outer s H E) i).env ((fun _ : Unit => cxOf (L2.CX P w) P w K mg base N_least_lots "least_lots" (defScope s_least_lots) f cdv A outer s H E) i).xe := fun _ => passes_of rfl
    exact (ss_cons (sd_if (td_of (wd_or (td_not (td_val (ed_inst .tuple c (fun _ => by rfl) T.f_isinstance (fun _ => by rfl) T.f_tuple (by decide +kernel) (ed_var 0 (fun _ => pv 0))))) (wd_or (td_not (td_val (ed_fn c (fun _ => h_is_many_1) (by decide) (fun _ => by rfl) (am_cons (ed_len c (fun _ => by rfl) T.f_len (am_cons (ed_var 0 (fun _ => pv 0)) am_nil)) am_nil) (al_cons al_nil)))) (wd_or1 (td_not (td_val (ed_fn c (fun _ => h_is_kin_2) (by decide) (fun _ => by rfl) (am_cons (ed_len c (fun _ => by rfl) T.f_len (am_cons (ed_var 0 (fun _ => pv 0)) am_nil)) (am_cons (ed_var 0 (fun _ => pv 0)) am_nil)) (al_cons (al_cons al_nil))))))))) (ss_one (sd_raise0 c T.x_NoKin (fun _ => by rfl))) ss_nil)
  (ss_one (sd_ret (ed_fn c (fun _ => h_least_of_1) (by decide) (fun _ => by rfl) (am_cons (ed_var 0 (fun _ => pv 0)) am_nil) (al_cons al_nil)))))
abbrev s_law_pick : Stmt := top 22
abbrev N_law_pick : List Str := ["_law_pool_here", "_law_things"]
abbrev P_law_pick : List Str := ["_law_pool_here", "_law_things"]
theorem sc_law_pick : FnScope N_law_pick P_law_pick (defScope s_law_pick) := ⟨rfl, rfl, rfl, by decide +kernel, rfl, by decide +kernel, by decide +kernel⟩
def b_law_pick : SF := (sRet (e2 ixD (eVar 1) (eCall F_law_draw (aCons (eMove 0) (aCons (eBi lenD (aCons (eVar 1) aNil)) aNil)) [] [(0, 0)])))
def F_law_pick : List D → Res D := runS [0] 2 2 b_law_pick
theorem ok_law_pick (T : Txt K mg) (h_law_draw_2 : FnD P w K mg base 1 "_law_draw" 2 [] F_law_draw) {f : Addr} {fd : FuncData} (F : FunD K "_law_pick" "_law_pick" (defArgs s_law_pick) (defBody s_law_pick) (defScope s_law_pick) [] [] f fd) : FnOk P w K mg base (L2.CX P w) 2 f fd P_law_pick (spD ⟨K, mg⟩ P_law_pick.length F_law_pick) :=
  fnok_of (pr := [0]) F sc_law_pick fun cdv A outer s H E hr => by
    have c := cf_of (P := P) (w := w) (K := K) (mg := mg) (base := base) (E := E) (H := H) (outer := outer) sc_law_pick hr
    have po : ∀ i : Unit, PassesOwn (model ((fun _ : Unit => cxOf (L2.CX P w) P w K mg base N_law_pick "_law_pick" (defScope s_law_pick) f cdv A outer s H E) i).prog ((fun _ : Unit => cxOf (L2.CX P w) P w K mg base N_law_pick "_law_pick" (defScope s_law_pick) f cdv A outer s H E) i).w) ((fun _ : Unit => cxOf (L2.CX P w) P w K mg base N_law_pick "_law_pick" (defScope s_law_pick) f cdv A outer s H E) i).A ((fun _ : Unit => cxOf (L2.CX P w) P w K mg base N_law_pick "_law_pick" (defScope s_law_pick) f cdv A outer s H E) i).env ((fun _ : Unit => cxOf (L2.CX P w) P w K mg base N_law_pick "_law_pick" (defScope s_law_pick) f cdv A outer s H E) i).xe := fun _ => passes_of rfl
    exact (ss_one (sd_ret (ed_ix c (ed_var 1 (fun _ => pv 1)) (ed_fn c (fun _ => h_law_draw_2) (by decide) (fun _ => by rfl) (am_mv 0 (fun _ => pv 0) (am_cons (ed_len c (fun _ => by rfl) T.f_len (am_cons (ed_var 1 (fun _ => pv 1)) am_nil)) am_nil)) (al_cons (al_cons al_nil))))))
abbrev s_law : Stmt := top 26
abbrev N_law : List Str := ["_law_script", "_law_pool_here", "_law_turn", "_law_many", "_law_kin_here", "_law_due", "_law_told", "_law_at", "_law_lot"]
abbrev P_law : List Str := ["_law_script"]
theorem sc_law : FnScope N_law P_law (defScope s_law) := ⟨rfl, rfl, rfl, by decide +kernel, rfl, by decide +kernel, by decide +kernel⟩
def b_law : SF := (sSeq (sAsg (eCall F_law_pool (aCons (eVar 0) aNil) [] []) (gSet 1))
  (sSeq (sFor (iRg1 (aCons (eC (.int 4)) aNil)) (gSet 2) (sSeq (sAsg (eFrz (e2 addD (eC (.int 1)) (eCall F_law_draw (aCons (eMove 1) (aCons (eC (.int 8)) aNil)) [] [(0, 1)]))) (gSet 3))
  (sSeq (sAsg (eFrz (eCall F_law_kin (aCons (eMove 1) (aCons (eVar 3) aNil)) [] [(0, 1)])) (gSet 4))
  (sSeq (sIf (eB (e2 eqD (eCall F_law_draw (aCons (eMove 1) (aCons (eC (.int 3)) aNil)) [] [(0, 1)]) (eC (.int 0)))) (sSeq (sAsg (eFrz (eCall F_law_draw (aCons (eMove 1) (aCons (eVar 3) aNil)) [] [(0, 1)])) (gSet 7))
  (sAsg (eFrz (e2 addD (e2 addD (eSl (eVar 4) pNone (pSome (eVar 7))) (eTup (aCons (eCall F_law_pick (aCons (eMove 1) (aCons (eVar 4) aNil)) [] [(0, 1)]) aNil))) (eSl (eVar 4) (pSome (e2 addD (eVar 7) (eC (.int 1)))) pNone))) (gSet 4))) sNext)
  (sSeq (sAsg (eFrz (eCall F_law_least_lots (aCons (eVar 4) aNil) [] [])) (gSet 5))
  (sSeq (sAsg (eCall F_least_lots (aCons (eVar 4) aNil) [] []) (gSet 6))
  (sSeq (sIf (tBor (mOr (mNot (eB (eInst .list (eVar 6)))) (mOr (eB (e2 neD (eVar 6) (eVar 5))) (eB (e2 neD (e2 eqD (eVar 5) (eLst aNil)) (e2 inD (eTup aNil) (eVar 4))))))) (sRet (eC (.bl false))) sNext)
  (sSeq (sIf (tBor (mNot (eB (eBi allD (aCons (eLcL 9 (iSeq (eVar 6)) (gSet 8) mYes (eInst .tuple (eVar 8)) [8]) aNil))))) (sRet (eC (.bl false))) sNext)
  (sSeq (sDrop (eApp 6 (eC .non)))
  (sIf (eB (e2 neD (eCall F_least_lots (aCons (eVar 4) aNil) [] []) (eVar 5))) (sRet (eC (.bl false))) sNext))))))))))
  (sRet (eC (.bl true)))))
def F_law : List D → Res D := runS [] 1 9 b_law
theorem ok_law (T : Txt K mg) (h_law_pool_1 : FnD P w K mg base 1 "_law_pool" 1 [] F_law_pool) (h_law_draw_2 : FnD P w K mg base 1 "_law_draw" 2 [] F_law_draw) (h_law_kin_2 : FnD P w K mg base 2 "_law_kin" 2 [] F_law_kin) (h_law_pick_2 : FnD P w K mg base 2 "_law_pick" 2 [] F_law_pick) (h_law_least_lots_1 : FnD P w K mg base 2 "_law_least_lots" 1 [] F_law_least_lots) (h_least_lots_1 : FnD P w K mg base 5 "least_lots" 1 [] F_least_lots) {f : Addr} {fd : FuncData} (F : FunD K "law" "law" (defArgs s_law) (defBody s_law) (defScope s_law) [] [] f fd) : FnOk P w K mg base (L2.CX P w) 6 f fd P_law (spD ⟨K, mg⟩ P_law.length F_law) :=
  fnok_of (pr := []) F sc_law fun cdv A outer s H E hr => by
    have c := cf_of (P := P) (w := w) (K := K) (mg := mg) (base := base) (E := E) (H := H) (outer := outer) sc_law hr
    have po : ∀ i : Unit, PassesOwn (model ((fun _ : Unit => cxOf (L2.CX P w) P w K mg base N_law "law" (defScope s_law) f cdv A outer s H E) i).prog ((fun _ : Unit => cxOf (L2.CX P w) P w K mg base N_law "law" (defScope s_law) f cdv A outer s H E) i).w) ((fun _ : Unit => cxOf (L2.CX P w) P w K mg base N_law "law" (defScope s_law) f cdv A outer s H E) i).A ((fun _ : Unit => cxOf (L2.CX P w) P w K mg base N_law "law" (defScope s_law) f cdv A outer s H E) i).env ((fun _ : Unit => cxOf (L2.CX P w) P w K mg base N_law "law" (defScope s_law) f cdv A outer s H E) i).xe := fun _ => passes_of rfl
    exact (ss_cons (sd_asg (fun i te tg he hg => ps_asg he hg) (ed_fn c (fun _ => h_law_pool_1) (by decide) (fun _ => by rfl) (am_cons (ed_var 0 (fun _ => pv 0)) am_nil) (al_cons al_nil)) (gd_name (i := 1) (fun j => pg_name (c.nd j) rfl (by first | exact Or.inl rfl | exact Or.inr rfl))))
  (ss_cons (sd_for po c.calm (id_rg1 c (fun _ => by rfl) T.f_range (am_cons ed_int am_nil)) (gd_name (i := 2) (fun j => pg_name (c.nd j) rfl (by first | exact Or.inl rfl | exact Or.inr rfl))) (ss_cons (sd_asg (fun i te tg he hg => ps_asg he hg) (ed_frz (ed_add c ed_int (ed_fn c (fun _ => h_law_draw_2) (by decide) (fun _ => by rfl) (am_mv 1 (fun _ => pv 1) (am_cons ed_int am_nil)) (al_cons (al_cons al_nil))))) (gd_name (i := 3) (fun j => pg_name (c.nd j) rfl (by first | exact Or.inl rfl | exact Or.inr rfl))))
  (ss_cons (sd_asg (fun i te tg he hg => ps_asg he hg) (ed_frz (ed_fn c (fun _ => h_law_kin_2) (by decide) (fun _ => by rfl) (am_mv 1 (fun _ => pv 1) (am_cons (ed_var 3 (fun _ => pv 3)) am_nil)) (al_cons (al_cons al_nil)))) (gd_name (i := 4) (fun j => pg_name (c.nd j) rfl (by first | exact Or.inl rfl | exact Or.inr rfl))))
  (ss_cons (sd_if (td_eq c (ed_fn c (fun _ => h_law_draw_2) (by decide) (fun _ => by rfl) (am_mv 1 (fun _ => pv 1) (am_cons ed_int am_nil)) (al_cons (al_cons al_nil))) ed_int) (ss_cons (sd_asg (fun i te tg he hg => ps_asg he hg) (ed_frz (ed_fn c (fun _ => h_law_draw_2) (by decide) (fun _ => by rfl) (am_mv 1 (fun _ => pv 1) (am_cons (ed_var 3 (fun _ => pv 3)) am_nil)) (al_cons (al_cons al_nil)))) (gd_name (i := 7) (fun j => pg_name (c.nd j) rfl (by first | exact Or.inl rfl | exact Or.inr rfl))))
  (ss_one (sd_asg (fun i te tg he hg => ps_asg he hg) (ed_frz (ed_add c (ed_add c (ed_sl c (ed_var 4 (fun _ => pv 4)) pod_none (pod_some (ed_var 7 (fun _ => pv 7)))) (ed_tup (am_cons (ed_fn c (fun _ => h_law_pick_2) (by decide) (fun _ => by rfl) (am_mv 1 (fun _ => pv 1) (am_cons (ed_var 4 (fun _ => pv 4)) am_nil)) (al_cons (al_cons al_nil))) am_nil))) (ed_sl c (ed_var 4 (fun _ => pv 4)) (pod_some (ed_add c (ed_var 7 (fun _ => pv 7)) ed_int)) pod_none))) (gd_name (i := 4) (fun j => pg_name (c.nd j) rfl (by first | exact Or.inl rfl | exact Or.inr rfl)))))) ss_nil)
  (ss_cons (sd_asg (fun i te tg he hg => ps_asg he hg) (ed_frz (ed_fn c (fun _ => h_law_least_lots_1) (by decide) (fun _ => by rfl) (am_cons (ed_var 4 (fun _ => pv 4)) am_nil) (al_cons al_nil))) (gd_name (i := 5) (fun j => pg_name (c.nd j) rfl (by first | exact Or.inl rfl | exact Or.inr rfl))))
  (ss_cons (sd_asg (fun i te tg he hg => ps_asg he hg) (ed_fn c (fun _ => h_least_lots_1) (by decide) (fun _ => by rfl) (am_cons (ed_var 4 (fun _ => pv 4)) am_nil) (al_cons al_nil)) (gd_name (i := 6) (fun j => pg_name (c.nd j) rfl (by first | exact Or.inl rfl | exact Or.inr rfl))))
  (ss_cons (sd_if (td_bor (td_of (wd_or (td_not (td_val (ed_inst .list c (fun _ => by rfl) T.f_isinstance (fun _ => by rfl) T.f_list (by decide +kernel) (ed_var 6 (fun _ => pv 6))))) (wd_or (td_ne c (ed_var 6 (fun _ => pv 6)) (ed_var 5 (fun _ => pv 5))) (wd_or1 (td_ne c (ed_eq c (ed_var 5 (fun _ => pv 5)) (ed_lst am_nil)) (ed_in c (ed_tup am_nil) (ed_var 4 (fun _ => pv 4))))))))) (ss_one (sd_ret ed_bl)) ss_nil)
  (ss_cons (sd_if (td_bor (td_not (td_val (ed_all c (fun _ => by rfl) T.f_all (am_cons (ed_lc (own := [("_law_lot", 8)]) 9 c.calm c.nd (id_seq c (ed_var 6 (fun _ => pv 6))) (fun _ => blkOk_by (by kernel_rfl)) (gd_name (i := 8) (fun j => pg_name ((c.blk _).nd j) rfl (by first | exact Or.inl rfl | exact Or.inr rfl))) ld_nil (ed_inst .tuple (c.blk _) (fun _ => by rfl) T.f_isinstance (fun _ => by rfl) T.f_tuple (by decide +kernel) (ed_var 8 (fun _ => pv 8)))) am_nil))))) (ss_one (sd_ret ed_bl)) ss_nil)
  (ss_cons (sd_expr (ed_app 6 (fun _ => pv 6) ed_non c))
  (ss_one (sd_if (td_ne c (ed_fn c (fun _ => h_least_lots_1) (by decide) (fun _ => by rfl) (am_cons (ed_var 4 (fun _ => pv 4)) am_nil) (al_cons al_nil)) (ed_var 5 (fun _ => pv 5))) (ss_one (sd_ret ed_bl)) ss_nil)))))))))))
  (ss_one (sd_ret ed_bl))))
def fal : List He.Fa := [.free "abs", .free "all", .free "any", .free "bool", .free "int", .free "isinstance", .free "len", .free "list", .free "range", .free "sorted", .free "tuple", .int "MOST_MEMBERS" 8, .glo "_law_pool", .glo "_law_draw", .glo "_law_kin", .glo "_law_all_lots", .glo "_law_least_lots", .glo "all_lots", .glo "has_some", .glo "meets_all", .glo "without", .glo "least_of", .glo "is_integer", .glo "is_within", .glo "is_many", .glo "is_table", .glo "is_lot", .glo "is_kin", .glo "least_lots", .glo "_law_pick", .glo "law", .glo "NoKin", .exc "NoKin"]
def d_law_pool : He.DefD := ⟨("_law_pool", none), "_law_pool", "_law_pool", defArgs s_law_pool, defBody s_law_pool, defScope s_law_pool, [], []⟩
def d_law_draw : He.DefD := ⟨("_law_draw", none), "_law_draw", "_law_draw", defArgs s_law_draw, defBody s_law_draw, defScope s_law_draw, [], []⟩
def d_law_kin : He.DefD := ⟨("_law_kin", none), "_law_kin", "_law_kin", defArgs s_law_kin, defBody s_law_kin, defScope s_law_kin, [], []⟩
def d_law_all_lots : He.DefD := ⟨("_law_all_lots", none), "_law_all_lots", "_law_all_lots", defArgs s_law_all_lots, defBody s_law_all_lots, defScope s_law_all_lots, [], []⟩
def d_law_least_lots : He.DefD := ⟨("_law_least_lots", none), "_law_least_lots", "_law_least_lots", defArgs s_law_least_lots, defBody s_law_least_lots, defScope s_law_least_lots, [], []⟩
def d_all_lots : He.DefD := ⟨("all_lots", none), "all_lots", "all_lots", defArgs s_all_lots, defBody s_all_lots, defScope s_all_lots, [], []⟩
def d_has_some : He.DefD := ⟨("has_some", none), "has_some", "has_some", defArgs s_has_some, defBody s_has_some, defScope s_has_some, [], []⟩
def d_meets_all : He.DefD := ⟨("meets_all", none), "meets_all", "meets_all", defArgs s_meets_all, defBody s_meets_all, defScope s_meets_all, [], []⟩
def d_without : He.DefD := ⟨("without", none), "without", "without", defArgs s_without, defBody s_without, defScope s_without, [], []⟩
def d_least_of : He.DefD := ⟨("least_of", none), "least_of", "least_of", defArgs s_least_of, defBody s_least_of, defScope s_least_of, [], []⟩
def d_is_integer : He.DefD := ⟨("is_integer", none), "is_integer", "is_integer", defArgs s_is_integer, defBody s_is_integer, defScope s_is_integer, [], []⟩
def d_is_within : He.DefD := ⟨("is_within", none), "is_within", "is_within", defArgs s_is_within, defBody s_is_within, defScope s_is_within, [], []⟩
def d_is_many : He.DefD := ⟨("is_many", none), "is_many", "is_many", defArgs s_is_many, defBody s_is_many, defScope s_is_many, [], []⟩
def d_is_table : He.DefD := ⟨("is_table", none), "is_table", "is_table", defArgs s_is_table, defBody s_is_table, defScope s_is_table, [], []⟩
def d_is_lot : He.DefD := ⟨("is_lot", none), "is_lot", "is_lot", defArgs s_is_lot, defBody s_is_lot, defScope s_is_lot, [], []⟩
def d_is_kin : He.DefD := ⟨("is_kin", none), "is_kin", "is_kin", defArgs s_is_kin, defBody s_is_kin, defScope s_is_kin, [], []⟩
def d_least_lots : He.DefD := ⟨("least_lots", none), "least_lots", "least_lots", defArgs s_least_lots, defBody s_least_lots, defScope s_least_lots, [], []⟩
def d_law_pick : He.DefD := ⟨("_law_pick", none), "_law_pick", "_law_pick", defArgs s_law_pick, defBody s_law_pick, defScope s_law_pick, [], []⟩
def d_law : He.DefD := ⟨("law", none), "law", "law", defArgs s_law, defBody s_law, defScope s_law, [], []⟩
def fnl : List He.DefD := [d_law_pool, d_law_draw, d_law_kin, d_law_all_lots, d_law_least_lots, d_all_lots, d_has_some, d_meets_all, d_without, d_least_of, d_is_integer, d_is_within, d_is_many, d_is_table, d_is_lot, d_is_kin, d_least_lots, d_law_pick, d_law]
def exl (K : PySem.W.Frag) : Bool := true
theorem txt {h : Heap} (X : K.In h) (G : h.Ns mainGlobals mg) (c : SaysE fal fnl exl K) : Txt K mg := by
  have d := c.d
  have e := c.e
  exact ⟨He.free_ok X G (d.fact 0 (f := .free "abs") rfl), He.free_ok X G (d.fact 1 (f := .free "all") rfl), He.free_ok X G (d.fact 2 (f := .free "any") rfl), He.free_ok X G (d.fact 3 (f := .free "bool") rfl), He.free_ok X G (d.fact 4 (f := .free "int") rfl), He.free_ok X G (d.fact 5 (f := .free "isinstance") rfl), He.free_ok X G (d.fact 6 (f := .free "len") rfl), He.free_ok X G (d.fact 7 (f := .free "list") rfl), He.free_ok X G (d.fact 8 (f := .free "range") rfl), He.free_ok X G (d.fact 9 (f := .free "sorted") rfl), He.free_ok X G (d.fact 10 (f := .free "tuple") rfl), He.int_ok X G (d.fact 11 (f := .int "MOST_MEMBERS" 8) rfl), exf_of X G (d.fact 31 (f := .glo "NoKin") rfl) (d.fact 32 (f := .exc "NoKin") rfl)⟩
theorem facts {P : Program} {w : World} {K : PySem.W.Frag} {h : Heap} {mg : Str → Option Value} {f : Addr} (X : K.In h) (G : h.Ns mainGlobals mg) (hfa : mg ("law" : Str) = some (.ref f)) (c : SaysE fal fnl exl K) :
    ∃ fd : FuncData, (∀ (s : Shared) (v : Value), BindsTo s fd ⟨[v], []⟩ [("_law_script", v)]) ∧ ∀ base : Heap, K.In base → base.Ns mainGlobals mg → FnOk P w K mg base (L2.CX P w) 6 f fd P_law (spD ⟨K, mg⟩ 1 F_law) := by
  have T := txt X G c
  have d := c.d
  obtain ⟨fd_law_pool, K_law_pool⟩ := d.def_ 0 (d := d_law_pool) rfl
  have g_law_pool := He.glo_ok X G (d.fact 12 (f := .glo "_law_pool") rfl)
  obtain ⟨fd_law_draw, K_law_draw⟩ := d.def_ 1 (d := d_law_draw) rfl
  have g_law_draw := He.glo_ok X G (d.fact 13 (f := .glo "_law_draw") rfl)
  obtain ⟨fd_law_kin, K_law_kin⟩ := d.def_ 2 (d := d_law_kin) rfl
  have g_law_kin := He.glo_ok X G (d.fact 14 (f := .glo "_law_kin") rfl)
  obtain ⟨fd_law_all_lots, K_law_all_lots⟩ := d.def_ 3 (d := d_law_all_lots) rfl
  have g_law_all_lots := He.glo_ok X G (d.fact 15 (f := .glo "_law_all_lots") rfl)
  obtain ⟨fd_law_least_lots, K_law_least_lots⟩ := d.def_ 4 (d := d_law_least_lots) rfl
  have g_law_least_lots := He.glo_ok X G (d.fact 16 (f := .glo "_law_least_lots") rfl)
  obtain ⟨fd_all_lots, K_all_lots⟩ := d.def_ 5 (d := d_all_lots) rfl
  have g_all_lots := He.glo_ok X G (d.fact 17 (f := .glo "all_lots") rfl)
  obtain ⟨fd_has_some, K_has_some⟩ := d.def_ 6 (d := d_has_some) rfl
  have g_has_some := He.glo_ok X G (d.fact 18 (f := .glo "has_some") rfl)
  obtain ⟨fd_meets_all, K_meets_all⟩ := d.def_ 7 (d := d_meets_all) rfl
  have g_meets_all := He.glo_ok X G (d.fact 19 (f := .glo "meets_all") rfl)
  obtain ⟨fd_without, K_without⟩ := d.def_ 8 (d := d_without) rfl
  have g_without := He.glo_ok X G (d.fact 20 (f := .glo "without") rfl)
  obtain ⟨fd_least_of, K_least_of⟩ := d.def_ 9 (d := d_least_of) rfl
  have g_least_of := He.glo_ok X G (d.fact 21 (f := .glo "least_of") rfl)
  obtain ⟨fd_is_integer, K_is_integer⟩ := d.def_ 10 (d := d_is_integer) rfl
  have g_is_integer := He.glo_ok X G (d.fact 22 (f := .glo "is_integer") rfl)
  obtain ⟨fd_is_within, K_is_within⟩ := d.def_ 11 (d := d_is_within) rfl
  have g_is_within := He.glo_ok X G (d.fact 23 (f := .glo "is_within") rfl)
  obtain ⟨fd_is_many, K_is_many⟩ := d.def_ 12 (d := d_is_many) rfl
  have g_is_many := He.glo_ok X G (d.fact 24 (f := .glo "is_many") rfl)
  obtain ⟨fd_is_table, K_is_table⟩ := d.def_ 13 (d := d_is_table) rfl
  have g_is_table := He.glo_ok X G (d.fact 25 (f := .glo "is_table") rfl)
  obtain ⟨fd_is_lot, K_is_lot⟩ := d.def_ 14 (d := d_is_lot) rfl
  have g_is_lot := He.glo_ok X G (d.fact 26 (f := .glo "is_lot") rfl)
  obtain ⟨fd_is_kin, K_is_kin⟩ := d.def_ 15 (d := d_is_kin) rfl
  have g_is_kin := He.glo_ok X G (d.fact 27 (f := .glo "is_kin") rfl)
  obtain ⟨fd_least_lots, K_least_lots⟩ := d.def_ 16 (d := d_least_lots) rfl
  have g_least_lots := He.glo_ok X G (d.fact 28 (f := .glo "least_lots") rfl)
  obtain ⟨fd_law_pick, K_law_pick⟩ := d.def_ 17 (d := d_law_pick) rfl
  have g_law_pick := He.glo_ok X G (d.fact 29 (f := .glo "_law_pick") rfl)
  obtain ⟨fd_law, K_law⟩ := d.def_ 18 (d := d_law) rfl
  have g_law := He.glo_ok X G (d.fact 30 (f := .glo "law") rfl)
  have e := hfa.symm.trans g_law
  cases e
  have b := FunD.bindsA (ps := P_law) K_law fun _ _ _ _ _ _ us hl => match us, hl with | [_], _ => rfl
  refine ⟨fd_law, fun s v => b s [v] rfl, fun base _ _ => ?_⟩
  have o_law_pool := ok_law_pool (P := P) (w := w) (base := base) T  K_law_pool
  have h_law_pool_1 : FnD P w K mg base 1 "_law_pool" 1 [] F_law_pool := fnd_n K_law_pool g_law_pool (FunD.bindsN (ps := P_law_pool) K_law_pool fun _ _ _ _ _ _ us hl => match us, hl with | [_], _ => rfl) o_law_pool
  have o_law_draw := ok_law_draw (P := P) (w := w) (base := base) T  K_law_draw
  have h_law_draw_2 : FnD P w K mg base 1 "_law_draw" 2 [] F_law_draw := fnd_n K_law_draw g_law_draw (FunD.bindsN (ps := P_law_draw) K_law_draw fun _ _ _ _ _ _ us hl => match us, hl with | [_, _], _ => rfl) o_law_draw
  have o_law_kin := ok_law_kin (P := P) (w := w) (base := base) T h_law_draw_2 K_law_kin
  have h_law_kin_2 : FnD P w K mg base 2 "_law_kin" 2 [] F_law_kin := fnd_n K_law_kin g_law_kin (FunD.bindsN (ps := P_law_kin) K_law_kin fun _ _ _ _ _ _ us hl => match us, hl with | [_, _], _ => rfl) o_law_kin
  have o_law_all_lots := ok_law_all_lots (P := P) (w := w) (base := base) T  K_law_all_lots
  have h_law_all_lots_1 : FnD P w K mg base 1 "_law_all_lots" 1 [] F_law_all_lots := fnd_n K_law_all_lots g_law_all_lots (FunD.bindsN (ps := P_law_all_lots) K_law_all_lots fun _ _ _ _ _ _ us hl => match us, hl with | [_], _ => rfl) o_law_all_lots
  have o_law_least_lots := ok_law_least_lots (P := P) (w := w) (base := base) T h_law_all_lots_1 K_law_least_lots
  have h_law_least_lots_1 : FnD P w K mg base 2 "_law_least_lots" 1 [] F_law_least_lots := fnd_n K_law_least_lots g_law_least_lots (FunD.bindsN (ps := P_law_least_lots) K_law_least_lots fun _ _ _ _ _ _ us hl => match us, hl with | [_], _ => rfl) o_law_least_lots
  have o_all_lots := ok_all_lots (P := P) (w := w) (base := base) T  K_all_lots
  have h_all_lots_1 : FnD P w K mg base 1 "all_lots" 1 [] F_all_lots := fnd_n K_all_lots g_all_lots (FunD.bindsN (ps := P_all_lots) K_all_lots fun _ _ _ _ _ _ us hl => match us, hl with | [_], _ => rfl) o_all_lots
  have o_has_some := ok_has_some (P := P) (w := w) (base := base) T  K_has_some
  have h_has_some_2 : FnD P w K mg base 1 "has_some" 2 [] F_has_some := fnd_n K_has_some g_has_some (FunD.bindsN (ps := P_has_some) K_has_some fun _ _ _ _ _ _ us hl => match us, hl with | [_, _], _ => rfl) o_has_some
  have o_meets_all := ok_meets_all (P := P) (w := w) (base := base) T h_has_some_2 K_meets_all
  have h_meets_all_2 : FnD P w K mg base 2 "meets_all" 2 [] F_meets_all := fnd_n K_meets_all g_meets_all (FunD.bindsN (ps := P_meets_all) K_meets_all fun _ _ _ _ _ _ us hl => match us, hl with | [_, _], _ => rfl) o_meets_all
  have o_without := ok_without (P := P) (w := w) (base := base) T  K_without
  have h_without_2 : FnD P w K mg base 1 "without" 2 [] F_without := fnd_n K_without g_without (FunD.bindsN (ps := P_without) K_without fun _ _ _ _ _ _ us hl => match us, hl with | [_, _], _ => rfl) o_without
  have o_least_of := ok_least_of (P := P) (w := w) (base := base) T h_all_lots_1 h_meets_all_2 h_without_2 K_least_of
  have h_least_of_1 : FnD P w K mg base 3 "least_of" 1 [] F_least_of := fnd_n K_least_of g_least_of (FunD.bindsN (ps := P_least_of) K_least_of fun _ _ _ _ _ _ us hl => match us, hl with | [_], _ => rfl) o_least_of
  have o_is_integer := ok_is_integer (P := P) (w := w) (base := base) T  K_is_integer
  have h_is_integer_1 : FnD P w K mg base 1 "is_integer" 1 [] F_is_integer := fnd_n K_is_integer g_is_integer (FunD.bindsN (ps := P_is_integer) K_is_integer fun _ _ _ _ _ _ us hl => match us, hl with | [_], _ => rfl) o_is_integer
  have o_is_within := ok_is_within (P := P) (w := w) (base := base) T h_is_integer_1 K_is_within
  have h_is_within_3 : FnD P w K mg base 2 "is_within" 3 [] F_is_within := fnd_n K_is_within g_is_within (FunD.bindsN (ps := P_is_within) K_is_within fun _ _ _ _ _ _ us hl => match us, hl with | [_, _, _], _ => rfl) o_is_within
  have o_is_many := ok_is_many (P := P) (w := w) (base := base) T h_is_within_3 K_is_many
  have h_is_many_1 : FnD P w K mg base 3 "is_many" 1 [] F_is_many := fnd_n K_is_many g_is_many (FunD.bindsN (ps := P_is_many) K_is_many fun _ _ _ _ _ _ us hl => match us, hl with | [_], _ => rfl) o_is_many
  have o_is_table := ok_is_table (P := P) (w := w) (base := base) T  K_is_table
  have h_is_table_2 : FnD P w K mg base 1 "is_table" 2 [] F_is_table := fnd_n K_is_table g_is_table (FunD.bindsN (ps := P_is_table) K_is_table fun _ _ _ _ _ _ us hl => match us, hl with | [_, _], _ => rfl) o_is_table
  have o_is_lot := ok_is_lot (P := P) (w := w) (base := base) T h_is_within_3 K_is_lot
  have h_is_lot_2 : FnD P w K mg base 3 "is_lot" 2 [] F_is_lot := fnd_n K_is_lot g_is_lot (FunD.bindsN (ps := P_is_lot) K_is_lot fun _ _ _ _ _ _ us hl => match us, hl with | [_, _], _ => rfl) o_is_lot
  have o_is_kin := ok_is_kin (P := P) (w := w) (base := base) T h_is_lot_2 h_is_table_2 K_is_kin
  have h_is_kin_2 : FnD P w K mg base 4 "is_kin" 2 [] F_is_kin := fnd_n K_is_kin g_is_kin (FunD.bindsN (ps := P_is_kin) K_is_kin fun _ _ _ _ _ _ us hl => match us, hl with | [_, _], _ => rfl) o_is_kin
  have o_least_lots := ok_least_lots (P := P) (w := w) (base := base) T h_is_kin_2 h_is_many_1 h_least_of_1 K_least_lots
  have h_least_lots_1 : FnD P w K mg base 5 "least_lots" 1 [] F_least_lots := fnd_n K_least_lots g_least_lots (FunD.bindsN (ps := P_least_lots) K_least_lots fun _ _ _ _ _ _ us hl => match us, hl with | [_], _ => rfl) o_least_lots
  have o_law_pick := ok_law_pick (P := P) (w := w) (base := base) T h_law_draw_2 K_law_pick
  have h_law_pick_2 : FnD P w K mg base 2 "_law_pick" 2 [] F_law_pick := fnd_n K_law_pick g_law_pick (FunD.bindsN (ps := P_law_pick) K_law_pick fun _ _ _ _ _ _ us hl => match us, hl with | [_, _], _ => rfl) o_law_pick
  exact ok_law T h_law_pool_1 h_law_draw_2 h_law_kin_2 h_law_pick_2 h_law_least_lots_1 h_least_lots_1 K_law
def loose0 : List Str := ["CauseError", "NoKin", "MOST_MEMBERS", "is_integer", "is_within", "is_lot", "is_table", "is_many", "is_kin", "all_lots", "has_some", "meets_all", "without", "least_of", "least_lots", "_law_pool", "_law_draw", "_law_pick", "_law_kin", "_law_all_lots", "_law_least_lots"]
def loose : List Str := loose0
abbrev R : PySem.W.OpenRow := PySem.W.OpenLaw.row PySem.Challenge.rw_owncause_k62_whole_least_lots
abbrev hk : PySem.W.Hook := hookE 4 fal fnl exl
def ob (s : PySem.W.SharedT) : AlE := obsEG 4 fal fnl exl (HandSHeadRun.getT s)
theorem ob_eq (s : PySem.W.SharedT) : ob s = hk.obs s.abs := obsEG_eq (HandSHeadRun.getT_eq s)
theorem run (w : World) : HandSHeadRun.RunEq R (PySem.W.view R.prog [26]) hk ob 4000 loose w := by
  intro os
  kernel_rfl
end Lk62
end

set_option Elab.async false
set_option linter.all false
set_option maxRecDepth 100000
set_option maxHeartbeats 1000000
namespace Lk62
open PySem PySem.Spec L2 DL
/-! _law_pool, _law_draw of a pool, _law_pick -/
theorem ev_ {ρ : DL.Env} {i : Nat} {d : D} (h : ρ[i]? = some (some d)) (hf : fro d = true) : eVar i ρ = .ok d ρ := by
  unfold eVar; rw [h]; exact if_pos hf
theorem cut_from (ds : List D) (n : Nat) (h : n ≤ ds.length) : cutD ds (some (n : Int)) none = ds.drop n := by
  unfold cutD
  have e1 : HT.sIx ds.length ds.length none = ds.length := rfl
  have e3 : HT.sIx ds.length 0 (some (n : Int)) = n := by
    rw [HT.sIx_nat]
    exact Nat.min_eq_left h
  rw [e1, e3]
  exact List.take_of_length_le (by rw [List.length_drop]; exact Nat.le_refl _)
theorem ixN_nat {n k : Nat} (h : k < n) : ixN n (k : Int) = some k := by unfold ixN; simp [h]
theorem vix_ok {ρ : DL.Env} {i : Nat} {fj : M D} {ds : List D} {j : Nat} {e : D} (h0 : ρ[i]? = some (some (.lst true ds))) (h1 : fj ρ = .ok (.int j) ρ) (h2 : ds[j]? = some e) (hf : fro e = true) : eVix i fj ρ = .ok e ρ := by
  unfold eVix
  rw [h0]
  dsimp only
  rw [mbind_of h1]
  dsimp only
  rw [h0]
  dsimp only [items, Option.bind_some]
  rw [DL.atI_nat h2]
  exact if_pos hf
abbrev S4 (gs ss : List Int) (cur cnt : Int) : D := .lst true [.lst false (gs.map .int), .lst false (ss.map .int), .int cur, .int cnt]
def Pool (B : Int) (d : D) : Prop := ∃ (gs ss : List Int) (cur cnt : Int), d = S4 gs ss cur cnt ∧ (∀ c ∈ gs, 0 ≤ c) ∧ gs.length ≤ 63 ∧ (∀ c ∈ ss, 0 ≤ c ∧ c < 2 ^ 20) ∧ ss.length ≤ 63 ∧ 0 ≤ cur ∧ 0 ≤ cnt ∧ cnt ≤ B
theorem Pool.mono {B B' : Int} {s : D} (h : Pool B s) (hb : B ≤ B') : Pool B' s := by
  obtain ⟨gs, ss, cur, cnt, e, h1, h2, h3, h4, h5, h6, h7⟩ := h
  exact ⟨gs, ss, cur, cnt, e, h1, h2, h3, h4, h5, h6, by omega⟩
abbrev dE (gs ss : List Int) (cur cnt m : Int) (x2 x3 x4 : Option D) : DL.Env := [some (S4 gs ss cur cnt), some (.int m), x2, x3, x4]
abbrev dF (gs ss : List Int) (cur cnt m : Int) (x2 x3 x4 : Option D) : DL.Env := [some (.lst false [.lst false (gs.map .int), .lst false (ss.map .int), .int cur, .int cnt]), some (.int m), x2.map frz, x3.map frz, x4.map frz]
theorem dF_eq (gs ss : List Int) (cur cnt m : Int) (x2 x3 x4 : Option D) : (dE gs ss cur cnt m x2 x3 x4).map (Option.map frz) = dF gs ss cur cnt m x2 x3 x4 := by
  show [some (D.lst false [.lst false (frzL (gs.map .int)), .lst false (frzL (ss.map .int)), .int cur, .int cnt]), some (.int m), x2.map frz, x3.map frz, x4.map frz] = _
  rw [frzL_ints, frzL_ints]
def dp1 : SF := (sIf (tBor (mAnd (eB (e2 lebD (e2 ixD (eVar 0) (eC (.int 2))) (eC (.int 1)))) (eB (e2 gtD (eBi lenD (aCons (e2 ixD (eVar 0) (eC (.int 0))) aNil)) (eC (.int 0)))))) (sSeq (sAsg (eFrz (e2 ixD (eVix 0 (eC (.int 0))) (eC (.int 0)))) (gItem 0 (eC (.int 2))))
  (sAsg (eFrz (eSl (eVix 0 (eC (.int 0))) (pSome (eC (.int 1))) pNone)) (gItem 0 (eC (.int 0))))) sNext)
theorem dp1_ok {gs ss : List Int} {cur cnt : Int} (m : Int) (h0 : ∀ c ∈ gs, 0 ≤ c) (hc : 0 ≤ cur) : ∃ gs' cur', dp1 (dE gs ss cur cnt m none none none) = .nx (dE gs' ss cur' cnt m none none none) ∧ (∀ c ∈ gs', 0 ≤ c) ∧ gs'.length ≤ gs.length ∧ 0 ≤ cur' := by
  let ρf : DL.Env := dF gs ss cur cnt m none none none
  have gx : e2 ixD (eVar 0) (eC (.int 2)) ρf = .ok (.int cur) ρf := rfl
  have hL : ∀ b, decide (cur ≤ 1) = b → eB (e2 lebD (e2 ixD (eVar 0) (eC (.int 2))) (eC (.int 1))) ρf = .ok b ρf := fun b hb => eB_ok (le_ok (i := cur) (j := 1) gx rfl hb)
  have hn : eBi lenD (aCons (e2 ixD (eVar 0) (eC (.int 0))) aNil) ρf = .ok (.int gs.length) ρf := eBi_ok (ds := [.lst false (gs.map .int)]) (aCons_ok (e2_ok rfl rfl rfl) rfl) (by rw [len_lst, List.length_map])
  have hG : ∀ b, decide ((0 : Int) < gs.length) = b → eB (e2 gtD (eBi lenD (aCons (e2 ixD (eVar 0) (eC (.int 0))) aNil)) (eC (.int 0))) ρf = .ok b ρf := fun b hb => eB_ok (gt_ok (i := gs.length) (j := 0) hn rfl hb)
  by_cases c : cur ≤ 1 ∧ (0 : Int) < gs.length
  · obtain ⟨g, tl, hgs⟩ : ∃ g tl, gs = g :: tl := by
      cases gs with
      | nil => exact absurd c.2 (by simp)
      | cons g tl => exact ⟨g, tl, rfl⟩
    subst hgs
    · have hg := h0 g List.mem_cons_self
      refine ⟨tl, g, ?_, fun x hx => h0 x (List.mem_cons_of_mem _ hx), by simp, hg⟩
      unfold dp1
      refine (sIf_t (tBor_ok (ρ1 := ρf) (by rw [dF_eq]; exact mAnd_t (hL true (decide_eq_true c.1)) (hG true (decide_eq_true c.2))))).trans ?_
      have v0 : ∀ cur, eVix 0 (eC (.int 0)) (dE (g :: tl) ss cur cnt m none none none) = .ok (.lst false ((g :: tl).map .int)) (dE (g :: tl) ss cur cnt m none none none) := fun cur => vix_ok (j := 0) rfl rfl rfl rfl
      have k1 : eFrz (e2 ixD (eVix 0 (eC (.int 0))) (eC (.int 0))) (dE (g :: tl) ss cur cnt m none none none) = .ok (.int g) (dE (g :: tl) ss cur cnt m none none none) := eFrz_int (DL.e2_ok (v0 cur) rfl (ix_l (n := 0) rfl))
      refine Eq.trans (seq_nx (ρ1 := dE (g :: tl) ss g cnt m none none none) (sAsg_ok k1 rfl)) ?_
      have k2 : eSl (eVix 0 (eC (.int 0))) (pSome (eC (.int 1))) pNone (dE (g :: tl) ss g cnt m none none none) = .ok (.lst true (tl.map .int)) (dE (g :: tl) ss g cnt m none none none) := by
        unfold eSl
        rw [mbind_of (v0 g), mbind_of (show pSome (eC (.int 1)) (dE (g :: tl) ss g cnt m none none none) = .ok (some ((1 : Nat) : Int)) (dE (g :: tl) ss g cnt m none none none) from rfl), mbind_of (show pNone (dE (g :: tl) ss g cnt m none none none) = .ok none (dE (g :: tl) ss g cnt m none none none) from rfl)]
        show Res.ok (D.lst true (cutD ((g :: tl).map .int) (some ((1 : Nat) : Int)) none)) _ = _
        rw [cut_from _ 1 (by simp)]
        rfl
      have k3 : eFrz (eSl (eVix 0 (eC (.int 0))) (pSome (eC (.int 1))) pNone) (dE (g :: tl) ss g cnt m none none none) = .ok (.lst false (tl.map .int)) (dE (g :: tl) ss g cnt m none none none) := (eFrz_ok k2).trans (by show Res.ok (D.lst false (frzL (tl.map .int))) _ = _; rw [frzL_ints])
      exact sAsg_ok k3 rfl
  · refine ⟨gs, cur, ?_, h0, Nat.le_refl _, hc⟩
    unfold dp1
    refine (sIf_f (G := sNext) (tBor_ok (ρ1 := ρf) (by
      rw [dF_eq]
      by_cases c1 : cur ≤ 1
      · exact mAnd_t (hL true (decide_eq_true c1)) (hG false (decide_eq_false fun z => c ⟨c1, z⟩))
      · exact mAnd_f (hL false (decide_eq_false c1))))).trans rfl
theorem draw_ok {B m : Int} {s : D} (hs : Pool B s) (hB : B < 2 ^ 40) (hm : 0 < m) (hm2 : m < 2 ^ 60) : ∃ r s', F_law_draw [s, .int m] = .ok (.int r) [some s', none] ∧ 0 ≤ r ∧ r < m ∧ Pool (B + 1) s' := by
  obtain ⟨gs, ss, cur, cnt, rfl, h0, hl, hs0, hsl, c0, n0, n1⟩ := hs
  obtain ⟨gs', cur', e1, h0', hl', c0'⟩ := dp1_ok (ss := ss) (cnt := cnt) m h0 c0
  have gx : ∀ cnt, e2 ixD (eVar 0) (eC (.int 2)) (dF gs' ss cur' cnt m none none none) = .ok (.int cur') (dF gs' ss cur' cnt m none none none) := fun cnt => rfl
  have hgt : ∀ b, decide (1 < cur') = b → tBor (eB (e2 gtD (e2 ixD (eVar 0) (eC (.int 2))) (eC (.int 1)))) (dE gs' ss cur' cnt m none none none) = .ok b (dE gs' ss cur' cnt m none none none) := fun b hb => tBor_ok (ρ1 := dF gs' ss cur' cnt m none none none) (by rw [dF_eq]; exact eB_ok (gt_ok (i := cur') (j := 1) (gx cnt) rfl hb))
  by_cases c : 1 < cur'
  · have q1 : modD (.int cur') (.int m) = some (.int (cur' % m)) := modD_ok hm
    have q2 : fdivD (.int cur') (.int m) = some (.int (cur' / m)) := fdivD_ok hm (by omega)
    refine ⟨cur' % m, S4 gs' ss (cur' / m) cnt, run_ok (b := b_law_draw) (ρ := dE gs' ss (cur' / m) cnt m none none (some (.int (cur' % m)))) (ρ0 := dE gs ss cur cnt m none none none) ?_ rfl (by simp) rfl, Int.emod_nonneg _ (by omega), Int.emod_lt_of_pos _ hm, gs', ss, cur' / m, cnt, rfl, h0', by omega, hs0, hsl, Int.ediv_nonneg c0' (by omega), n0, by omega⟩
    unfold b_law_draw
    refine Eq.trans (seq_nx e1) ?_
    refine seq_ret ((sIf_t (hgt true (decide_eq_true c))).trans ?_)
    refine Eq.trans (seq_nx (ρ1 := dE gs' ss cur' cnt m none none (some (.int (cur' % m)))) (sAsg_ok (eBor_int (ρ1 := dF gs' ss cur' cnt m none none none) (by rw [dF_eq]; exact mod_ok (int_ok (aCons_ok (gx cnt) rfl)) rfl q1)) rfl)) ?_
    refine Eq.trans (seq_nx (ρ1 := dE gs' ss (cur' / m) cnt m none none (some (.int (cur' % m)))) (sAsg_ok (eBor_int (ρ1 := dF gs' ss cur' cnt m none none (some (.int (cur' % m)))) (by rw [dF_eq]; exact fdiv_ok (show e2 ixD (eVar 0) (eC (.int 2)) (dF gs' ss cur' cnt m none none (some (.int (cur' % m)))) = .ok (.int cur') (dF gs' ss cur' cnt m none none (some (.int (cur' % m)))) from rfl) rfl q2)) rfl)) ?_
    exact sRet_ok (ev_ rfl rfl)
  · let N := cnt + 1
    have cellE : ∃ cell : Int, 0 ≤ cell ∧ cell < 2 ^ 20 ∧ (sIf (tBor (eB (e2 gtD (eBi lenD (aCons (e2 ixD (eVar 0) (eC (.int 1))) aNil)) (eC (.int 0))))) (sAsg (eFrz (e2 ixD (eVix 0 (eC (.int 1))) (eBor (e2 modD (eBi intD (aCons (e2 ixD (eVar 0) (eC (.int 3))) aNil)) (eBi lenD (aCons (e2 ixD (eVar 0) (eC (.int 1))) aNil)))))) (gSet 2)) sNext) (dE gs' ss cur' (cnt + 1) m (some (.int 0)) none none) = .nx (dE gs' ss cur' (cnt + 1) m (some (.int cell)) none none) := by
      let ρf : DL.Env := dF gs' ss cur' (cnt + 1) m (some (.int 0)) none none
      have hn : eBi lenD (aCons (e2 ixD (eVar 0) (eC (.int 1))) aNil) ρf = .ok (.int ss.length) ρf := eBi_ok (ds := [.lst false (ss.map .int)]) (aCons_ok (e2_ok rfl rfl rfl) rfl) (by rw [len_lst, List.length_map])
      have ht : ∀ b, decide ((0 : Int) < ss.length) = b → tBor (eB (e2 gtD (eBi lenD (aCons (e2 ixD (eVar 0) (eC (.int 1))) aNil)) (eC (.int 0)))) (dE gs' ss cur' (cnt + 1) m (some (.int 0)) none none) = .ok b (dE gs' ss cur' (cnt + 1) m (some (.int 0)) none none) := fun b hb => tBor_ok (ρ1 := ρf) (by rw [dF_eq]; exact eB_ok (gt_ok (i := ss.length) (j := 0) hn rfl hb))
      by_cases q : (0 : Int) < ss.length
      · obtain ⟨j, hj⟩ : ∃ j : Nat, (cnt + 1) % (ss.length : Int) = j := ⟨((cnt + 1) % (ss.length : Int)).toNat, by have := Int.emod_nonneg (cnt + 1) (show (ss.length : Int) ≠ 0 by omega); omega⟩
        have hjl : j < ss.length := by have := Int.emod_lt_of_pos (cnt + 1) q; omega
        have hb := hs0 _ (List.getElem_mem hjl)
        have k1 : eBor (e2 modD (eBi intD (aCons (e2 ixD (eVar 0) (eC (.int 3))) aNil)) (eBi lenD (aCons (e2 ixD (eVar 0) (eC (.int 1))) aNil))) (dE gs' ss cur' (cnt + 1) m (some (.int 0)) none none) = .ok (.int j) (dE gs' ss cur' (cnt + 1) m (some (.int 0)) none none) := eBor_int (ρ1 := ρf) (by
          rw [dF_eq]
          exact mod_ok (int_ok (aCons_ok (show e2 ixD (eVar 0) (eC (.int 3)) ρf = .ok (.int (cnt + 1)) ρf from rfl) rfl)) hn (by rw [modD_ok q, hj]))
        have v1 : eVix 0 (eC (.int 1)) (dE gs' ss cur' (cnt + 1) m (some (.int 0)) none none) = .ok (.lst false (ss.map .int)) (dE gs' ss cur' (cnt + 1) m (some (.int 0)) none none) := vix_ok (j := 1) rfl rfl rfl rfl
        refine ⟨ss[j], hb.1, hb.2, (sIf_t (ht true (decide_eq_true q))).trans (sAsg_ok (eFrz_int (DL.e2_ok v1 k1 (ix_l (by rw [List.getElem?_map, List.getElem?_eq_getElem hjl]; rfl)))) rfl)⟩
      · exact ⟨0, by omega, by omega, (sIf_f (G := sNext) (ht false (decide_eq_false q))).trans rfl⟩
    obtain ⟨cell, ce0, ce1, ecell⟩ := cellE
    have h1 : mulD (.int 7919) (.int (cnt + 1)) = some (.int (7919 * (cnt + 1))) := mulD_ok2 (by omega) (by omega)
    have h2 : mulD (.int (cell + 7919 * (cnt + 1) + 1)) (.int 48271) = some (.int ((cell + 7919 * (cnt + 1) + 1) * 48271)) := mulD_ok2 (by omega) (by omega)
    obtain ⟨x, hx⟩ : ∃ x, x = (cell + 7919 * (cnt + 1) + 1) * 48271 % 2147483647 := ⟨_, rfl⟩
    have hx2 : 0 ≤ x ∧ x < 2147483647 := by subst hx; exact ⟨Int.emod_nonneg _ (by omega), Int.emod_lt_of_pos _ (by omega)⟩
    have q1 : modD (.int ((cell + 7919 * (cnt + 1) + 1) * 48271)) (.int 2147483647) = some (.int x) := by rw [hx]; exact modD_ok (by omega)
    have g1 : fdivD (.int x) (.int 1009) = some (.int (x / 1009)) := fdivD_ok (by omega) (by omega)
    have h3 : mulD (.int x) (.int (x / 1009 + 69621)) = some (.int (x * (x / 1009 + 69621))) := mulD_ok2 (by omega) (by omega)
    obtain ⟨y, hy⟩ : ∃ y, y = x * (x / 1009 + 69621) % 2147483647 := ⟨_, rfl⟩
    have hy2 : 0 ≤ y ∧ y < 2147483647 := by subst hy; exact ⟨Int.emod_nonneg _ (by omega), Int.emod_lt_of_pos _ (by omega)⟩
    have q2 : modD (.int (x * (x / 1009 + 69621))) (.int 2147483647) = some (.int y) := by rw [hy]; exact modD_ok (by omega)
    have g2 : fdivD (.int y) (.int 2003) = some (.int (y / 2003)) := fdivD_ok (by omega) (by omega)
    have h4 : mulD (.int y) (.int (y / 2003 + 40692)) = some (.int (y * (y / 2003 + 40692))) := mulD_ok2 (by omega) (by omega)
    obtain ⟨z, hz⟩ : ∃ z, z = y * (y / 2003 + 40692) % 2147483399 := ⟨_, rfl⟩
    have q3 : modD (.int (y * (y / 2003 + 40692))) (.int 2147483399) = some (.int z) := by rw [hz]; exact modD_ok (by omega)
    have g3 : fdivD (.int z) (.int 16) = some (.int (z / 16)) := fdivD_ok (by omega) (by omega)
    have q4 : modD (.int (z / 16)) (.int m) = some (.int (z / 16 % m)) := modD_ok hm
    refine ⟨z / 16 % m, S4 gs' ss cur' (cnt + 1), run_ok (b := b_law_draw) (ρ := dE gs' ss cur' (cnt + 1) m (some (.int cell)) (some (.int z)) none) (ρ0 := dE gs ss cur cnt m none none none) ?_ rfl (by simp) rfl, Int.emod_nonneg _ (by omega), Int.emod_lt_of_pos _ hm, gs', ss, cur', cnt + 1, rfl, h0', by omega, hs0, hsl, c0', by omega, by omega⟩
    unfold b_law_draw
    refine Eq.trans (seq_nx e1) ?_
    refine Eq.trans (seq_nx (ρ1 := dE gs' ss cur' cnt m none none none) ((sIf_f (G := sNext) (hgt false (decide_eq_false c))).trans rfl)) ?_
    refine Eq.trans (seq_nx (ρ1 := dE gs' ss cur' (cnt + 1) m none none none) (sAsg_ok (eFrz_int (eBor_int (ρ1 := dF gs' ss cur' cnt m none none none) (by rw [dF_eq]; exact add_ok (show e2 ixD (eVar 0) (eC (.int 3)) (dF gs' ss cur' cnt m none none none) = .ok (.int cnt) (dF gs' ss cur' cnt m none none none) from rfl) rfl))) rfl)) ?_
    refine Eq.trans (seq_nx (ρ1 := dE gs' ss cur' (cnt + 1) m (some (.int 0)) none none) (sAsg_ok (show eC (.int 0) (dE gs' ss cur' (cnt + 1) m none none none) = .ok (.int 0) (dE gs' ss cur' (cnt + 1) m none none none) from rfl) rfl)) ?_
    refine Eq.trans (seq_nx ecell) ?_
    refine Eq.trans (seq_nx (ρ1 := dE gs' ss cur' (cnt + 1) m (some (.int cell)) (some (.int x)) none) (sAsg_ok (eBor_int (ρ1 := dF gs' ss cur' (cnt + 1) m (some (.int cell)) none none) (by
      rw [dF_eq]
      have v2 : eVar 2 (dF gs' ss cur' (cnt + 1) m (some (.int cell)) none none) = .ok (.int cell) (dF gs' ss cur' (cnt + 1) m (some (.int cell)) none none) := rfl
      have i3 : e2 ixD (eVar 0) (eC (.int 3)) (dF gs' ss cur' (cnt + 1) m (some (.int cell)) none none) = .ok (.int (cnt + 1)) (dF gs' ss cur' (cnt + 1) m (some (.int cell)) none none) := rfl
      exact mod_ok (int_ok (aCons_ok (mul_ok (add_ok (add_ok v2 (mul_ok (i := 7919) rfl i3 h1)) rfl) rfl h2) rfl)) rfl q1)) rfl)) ?_
    refine Eq.trans (seq_nx (ρ1 := dE gs' ss cur' (cnt + 1) m (some (.int cell)) (some (.int y)) none) (sAsg_ok (mod_ok (int_ok (aCons_ok (mul_ok (ev_ rfl rfl) (add_ok (fdiv_ok (ev_ rfl rfl) rfl g1) rfl) h3) rfl)) rfl q2) rfl)) ?_
    refine Eq.trans (seq_nx (ρ1 := dE gs' ss cur' (cnt + 1) m (some (.int cell)) (some (.int z)) none) (sAsg_ok (mod_ok (int_ok (aCons_ok (mul_ok (ev_ rfl rfl) (add_ok (fdiv_ok (ev_ rfl rfl) rfl g2) rfl) h4) rfl)) rfl q3) rfl)) ?_
    exact sRet_ok (mod_ok (int_ok (aCons_ok (fdiv_ok (ev_ rfl rfl) rfl g3) rfl)) (ev_ rfl rfl) q4)
theorem drw {B m : Int} {s : D} {i : Nat} {ρ : DL.Env} {f : M D} (hs : Pool B s) (hi : ρ[i]? = some (some s)) (hf : f (ρ.set i none) = .ok (.int m) (ρ.set i none)) (hB : B < 2 ^ 40) (hm : 0 < m) (hm2 : m < 2 ^ 60) : ∃ r s', eCall F_law_draw (aCons (eMove i) (aCons f aNil)) [] [(0, i)] ρ = .ok (.int r) (ρ.set i (some s')) ∧ 0 ≤ r ∧ r < m ∧ Pool (B + 1) s' := by
  obtain ⟨r, s', e, h⟩ := draw_ok hs hB hm hm2
  have hmv : eMove i ρ = .ok s (ρ.set i none) := by unfold eMove; rw [hi]
  exact ⟨r, s', eCall_of (aCons_ok hmv (aCons_ok hf rfl)) rfl e (by show (ρ.set i none).set i (some s') = _; rw [List.set_set]), h⟩
/-- one of a list of ints -/
theorem pick_ok {B : Int} {s : D} {ls : List Int} (hs : Pool B s) (hB : B < 2 ^ 40) (h1 : 1 ≤ ls.length) (h2 : ls.length ≤ 1000) : ∃ r s', F_law_pick [s, .lst false (ls.map .int)] = .ok (.int r) [some s', none] ∧ r ∈ ls ∧ Pool (B + 1) s' := by
  obtain ⟨k, s', e, k0, k1, h⟩ := drw (ρ := [some s, some (.lst false (ls.map .int))]) (i := 0) (f := eBi lenD (aCons (eVar 1) aNil)) (m := ls.length) hs rfl (eBi_ok (ds := [.lst false (ls.map .int)]) (aCons_ok (ev_ rfl rfl) rfl) (by rw [len_lst, List.length_map])) hB (by omega) (by omega)
  obtain ⟨k, rfl⟩ : ∃ n : Nat, k = n := ⟨k.toNat, by omega⟩
  have hk : k < ls.length := by omega
  refine ⟨ls[k], s', run_ok (b := b_law_pick) (ρ := [some s', some (.lst false (ls.map .int))]) (ρ0 := [some s, some (.lst false (ls.map .int))]) ?_ rfl (by simp) rfl, List.getElem_mem hk, h⟩
  unfold b_law_pick
  exact sRet_ok (DL.e2_ok (ev_ rfl rfl) e (ix_l (by rw [List.getElem?_map, List.getElem?_eq_getElem hk]; rfl)))
theorem ints_of {P : Int → Prop} : ∀ {ds : List D}, (∀ d ∈ ds, ∃ i : Int, d = .int i ∧ P i) → ∃ os : List Int, ds = os.map D.int ∧ ∀ x ∈ os, P x
  | [], _ => ⟨[], rfl, fun x hx => (by cases hx)⟩
  | d :: ds, h => by
    obtain ⟨i, rfl, hi⟩ := h d List.mem_cons_self
    obtain ⟨os, rfl, ho⟩ := ints_of fun d z => h d (List.mem_cons_of_mem _ z)
    exact ⟨i :: os, rfl, fun x hx => by
      rcases List.mem_cons.mp hx with rfl | hx
      · exact hi
      · exact ho x hx⟩
theorem pool_ok {ns : List Int} (hl : ns.length ≤ 63) : ∃ s, F_law_pool [.scr ns] = .ok s [none] ∧ Pool 0 s := by
  have hp : powD (.int 10) (.int 18) = some (.int 1000000000000000000) := by kernel_rfl
  have hc : cutD (ns.map D.int) none (some 63) = ns.map D.int := by
    unfold cutD
    have e1 : HT.sIx (ns.map D.int).length 0 none = 0 := rfl
    have e2 : HT.sIx (ns.map D.int).length (ns.map D.int).length (some 63) = (ns.map D.int).length := by
      rw [List.length_map]
      simp [HT.sIx]
      omega
    rw [e1, e2, List.drop_zero, Nat.sub_zero, List.take_length]
  have hs : ∀ x1 x2, eSl (eVar 0) pNone (pSome (eC (.int 63))) ([some (.scr ns), x1, x2, none] : DL.Env) = .ok (.lst true (ns.map D.int)) [some (.scr ns), x1, x2, none] := fun x1 x2 => by
    show Res.ok (D.lst true (cutD (ns.map D.int) none (some 63))) _ = _
    rw [hc]
  have it : ∀ x1 x2, iSeq (eSl (eVar 0) pNone (pSome (eC (.int 63)))) ([some (.scr ns), x1, x2, none] : DL.Env) = .ok (ns.map D.int) [some (.scr ns), x1, x2, none] := fun x1 x2 => iSeq_ok (hs x1 x2) (by show some (frzL (ns.map D.int)) = _; rw [frzL_ints])
  have v3 : ∀ x1 x2 (c : Int), eBi absD (aCons (eVar 3) aNil) ([some (.scr ns), x1, x2, some (.int c)] : DL.Env) = .ok (.int (if c < 0 then -c else c)) [some (.scr ns), x1, x2, some (.int c)] := fun _ _ _ => rfl
  let p1 : D → Bool := fun d => match d with | .int c => decide (1000000000000000000 ≤ (if c < 0 then -c else c)) | _ => false
  let p2 : D → Bool := fun d => match d with | .int c => decide ((if c < 0 then -c else c) < 1000000000000000000) | _ => false
  let y1 : D → D := fun d => match d with | .int c => .int (if c < 0 then -c else c) | d => d
  let y2 : D → D := fun d => match d with | .int c => .int (c % 1000003) | d => d
  have z1 := lc_filter1 (i := 3) (ρ := [some (.scr ns), none, none, none]) (ρ1 := [some (.scr ns), none, none, none]) (L := 4) (tt := eB (e2 geD (eBi absD (aCons (eVar 3) aNil)) (e2 powD (eC (.int 10)) (eC (.int 18))))) (te := eBi absD (aCons (eVar 3) aNil)) (p := p1) (yf := y1) (it none none) (by rw [List.length_map]; omega) rfl rfl (by decide) (fun d hd => by
    obtain ⟨c, _, rfl⟩ := List.mem_map.mp hd
    exact eB_ok (ge_ok (v3 none none c) (DL.e2_ok rfl rfl hp) rfl)) (fun d hd _ => by
    obtain ⟨c, _, rfl⟩ := List.mem_map.mp hd
    exact v3 none none c)
  obtain ⟨gs, hgs, hg⟩ := ints_of (P := fun c => 0 ≤ c) (ds := ((ns.map D.int).filter p1).map y1) (by
    intro d hd
    obtain ⟨e, he, rfl⟩ := List.mem_map.mp hd
    obtain ⟨c, _, rfl⟩ := List.mem_map.mp (List.mem_filter.mp he).1
    exact ⟨_, rfl, by split <;> omega⟩)
  have hgl : gs.length ≤ 63 := by
    have e := congrArg List.length hgs
    rw [List.length_map, List.length_map] at e
    have := List.length_filter_le p1 (ns.map D.int)
    rw [List.length_map] at this
    omega
  rw [hgs] at z1
  have z2 := lc_filter1 (i := 3) (ρ := [some (.scr ns), some (.lst false (gs.map .int)), none, none]) (ρ1 := [some (.scr ns), some (.lst false (gs.map .int)), none, none]) (L := 4) (tt := eB (e2 ltD (eBi absD (aCons (eVar 3) aNil)) (e2 powD (eC (.int 10)) (eC (.int 18))))) (te := e2 modD (eBi intD (aCons (eVar 3) aNil)) (eC (.int 1000003))) (p := p2) (yf := y2) (it _ none) (by rw [List.length_map]; omega) rfl rfl (by decide) (fun d hd => by
    obtain ⟨c, _, rfl⟩ := List.mem_map.mp hd
    exact eB_ok (lt_ok (v3 _ none c) (DL.e2_ok rfl rfl hp) rfl)) (fun d hd _ => by
    obtain ⟨c, _, rfl⟩ := List.mem_map.mp hd
    exact mod_ok (int_ok (aCons_ok (ev_ rfl rfl) rfl)) rfl (modD_ok (by omega)))
  obtain ⟨ss, hss, hb⟩ := ints_of (P := fun c => 0 ≤ c ∧ c < 2 ^ 20) (ds := ((ns.map D.int).filter p2).map y2) (by
    intro d hd
    obtain ⟨e, he, rfl⟩ := List.mem_map.mp hd
    obtain ⟨c, _, rfl⟩ := List.mem_map.mp (List.mem_filter.mp he).1
    exact ⟨_, rfl, Int.emod_nonneg _ (by omega), by have := Int.emod_lt_of_pos c (show (0 : Int) < 1000003 by omega); omega⟩)
  have hsl : ss.length ≤ 63 := by
    have e := congrArg List.length hss
    rw [List.length_map, List.length_map] at e
    have := List.length_filter_le p2 (ns.map D.int)
    rw [List.length_map] at this
    omega
  rw [hss] at z2
  refine ⟨S4 gs ss 0 0, run_ok (b := b_law_pool) (ρ := [some (.scr ns), some (.lst false (gs.map .int)), some (.lst false (ss.map .int)), none]) (ρ0 := [some (.scr ns), none, none, none]) ?_ rfl (by simp) rfl, gs, ss, 0, 0, rfl, hg, hgl, hb, hsl, by omega, by omega, by omega⟩
  unfold b_law_pool
  refine Eq.trans (seq_nx (ρ1 := [some (.scr ns), some (.lst false (gs.map .int)), none, none]) (sAsg_ok ((eFrz_ok z1).trans (by show Res.ok (D.lst false (frzL (gs.map .int))) _ = _; rw [frzL_ints])) rfl)) ?_
  refine Eq.trans (seq_nx (ρ1 := [some (.scr ns), some (.lst false (gs.map .int)), some (.lst false (ss.map .int)), none]) (sAsg_ok ((eFrz_ok z2).trans (by show Res.ok (D.lst false (frzL (ss.map .int))) _ = _; rw [frzL_ints])) rfl)) ?_
  exact sRet_ok (eLst_ok (ds := [.lst false (gs.map .int), .lst false (ss.map .int), .int 0, .int 0]) (aCons_ok (ev_ rfl rfl) (aCons_ok (ev_ rfl rfl) (aCons_ok rfl (aCons_ok rfl rfl)))) (by simp))
end Lk62

set_option Elab.async false
set_option linter.all false
set_option maxRecDepth 100000
set_option maxHeartbeats 4000000
noncomputable section
set_option simprocs false
namespace Lk62
open PySem PySem.Spec L2 DL
@[irreducible] def drawT (s : D) (m : Int) : Ex (Int × D) := adI (F_law_draw [s, .int m])
theorem ft_draw (s : D) (m : Int) : FT F_law_draw [eQ s, D.int m] (fun q : Int × D => D.int q.1) (fun q => [some (eQ q.2), none]) (drawT s m) := by unfold drawT; exact ft_adI
@[irreducible] def poolT (ns : List Int) : Ex D := adQ (F_law_pool [.scr ns])
theorem ft_pool (ns : List Int) : FT F_law_pool [eX ns] eQ (fun _ => [none]) (poolT ns) := by unfold poolT; exact ft_adQ
def lp_law_all_lots_1  : Int → ((List (List Int))) → O ((List (List Int))) ((List (List Int))) ((List (List Int))) := fun member_3 x_4 =>
((lcM (fun lot_5 => catT lot_5 [member_3]) x_4).bind fun b_6 => catT x_4 b_6).to fun found_7 =>
O.nx found_7
@[irreducible] def t_law_all_lots (many_1 : Int) : Ex ((List (List Int))) := O.fin (show O Unit Unit ((List (List Int))) from
let found_2 := [([] : List Int)]
((rg1T many_1).to fun xs_8 => forO lp_law_all_lots_1 xs_8 found_2).bind fun x_9 =>
O.ret x_9) (fun _ => Ex.stuck)
theorem ft_law_all_lots (many_1 : Int) : FT F_law_all_lots [D.int many_1] (fun a : (List (List Int)) => (eL (eT D.int)) a) (fun a : (List (List Int)) => [none]) (t_law_all_lots many_1) := by
  apply FT.conv
  exact (ft_of (C := (⟨fun _ : Unit => [], fun a : (List (List Int)) => (eL (eT D.int)) a, fun a : (List (List Int)) => [none, none, none, none], List.replicate 4 none⟩ : Cz Unit ((List (List Int))))) (κ0 := [some (D.int many_1), none, none, none]) (κ' := fun _ : Unit => [none, none, none, none]) (pr := []) (n := 1) (L := 4) (eo := fun a : (List (List Int)) => [none]) (nv := fun _ => Ex.stuck)
 (sj_then (sj_asg (ek_frz (eg_cons (eg_nil (kk_tupH (e := D.int) ([] : List Int) rfl rfl)) fun _ => (eg_nil (kk_lstH (e := (eT D.int)) [_] rfl rfl)))) (tg_set 1 (Nat.le_of_ble_eq_true rfl)) Le.refl) fun found_2 => (sj_seq (sj_for (κ' := fun (x_4 : (List (List Int))) => [some (D.int many_1), some ((eL (eT D.int)) x_4), none, none]) (κb := fun member_3 (x_4 : (List (List Int))) => [some (D.int many_1), some ((eL (eT D.int)) x_4), some (D.int member_3), none]) found_2 (ek_rg1 (ej_var D.int many_1 0 rfl)) Le.refl (le_k (le_k (le_n (le_n le_0)))) (fun x_4 => (tg_set 2 (Nat.le_of_ble_eq_true rfl))) fun member_3 x_4 => (sj_last (t := fun found_7 => found_7) (sj_asg (ek_frz (ek_e2 (ej_var (eL (eT D.int)) x_4 1 rfl) (ek_lcM rfl rfl (ek_seq (ej_var (eL (eT D.int)) x_4 1 rfl)) (tg_set 3 (Nat.le_of_ble_eq_true rfl)) (fun _ => (le_k (le_k (le_k (le_n le_0))))) fun lot_5 => (ek_frz (ek_e2v (ej_var (eT D.int) lot_5 3 rfl) (eg_cons (ej_var D.int member_3 2 rfl) fun _ => (eg_nil (kk_tupH (e := D.int) [_] rfl rfl))) (op_catT _ _)))) fun _ _ => (op_catL _ _))) (tg_set 1 (Nat.le_of_ble_eq_true rfl)) Le.refl) fun found_7 => (le_k (le_k (le_n (le_n le_0)))))) fun x_9 => (sj_ret (t := fun b => b) (ej_var (eL (eT D.int)) x_9 1 rfl) Le.refl (fun _ => rfl) fun _ => (le_n (le_n (le_n (le_n le_0)))))))
 rfl (Nat.le_of_ble_eq_true rfl) (fun _ => rfl) rfl (fun _ => rfl) (fun _ _ h => nomatch h) (fun _ => .inr rfl))
  delta t_law_all_lots
  delta lp_law_all_lots_1
  simp only [id_eq, nf_bind, nf_st, nf_noX, nf_to, nf_nx, nf_vret, nf_vexc, nf_vbrk, nf_vcnt]
def lp_law_least_lots_1 (kin_here_1 : List (List Int)) : (List Int) → ((List (List Int × Bool))) → O ((List (List Int × Bool))) ((List (List Int × Bool))) ((List (List Int))) := fun lot_3 x_4 =>
((lcM (fun own_6 => (lcM (fun member_7 => Ex.ok (decide (member_7 ∈ own_6))) lot_3).bind fun a_8 => Ex.ok (a_8.any id)) kin_here_1).bind fun a_9 => Ex.ok (a_9.all id)).to fun c_11 => if c_11 = true then ((dputT x_4 lot_3 true).to fun hits_10 =>
O.nx hits_10) else (O.nx x_4)
def lp_law_least_lots_2 (x_13 : (List (List Int × Bool))) : List Int → ((List (List Int))) → O ((List (List Int))) ((List (List Int))) ((List (List Int))) := fun lot_15 x_16 =>
((rg1T (lot_15.length : Int)).bind fun xs_18 => lcM (fun at_17 => catT (slT lot_15 none (some at_17)) (slT lot_15 (some (at_17 + 1)) none)) xs_18).to fun spared_19 =>
(((lcM (fun less_21 => Ex.ok (hasA x_13 less_21)) spared_19).bind fun a_22 => Ex.ok (a_22.any id)).bind fun a_23 => Ex.ok (!a_23)).to fun c_25 => if c_25 = true then ((appT x_16 lot_15).to fun found_24 =>
O.nx found_24) else (O.nx x_16)
@[irreducible] def t_law_least_lots (kin_here_1 : List (List Int)) : Ex ((List (List Int))) := O.fin (show O Unit Unit ((List (List Int))) from
let hits_2 := ([] : List (List Int × Bool))
((t_law_all_lots (kin_here_1.length : Int)).to fun xs_12 => forO (lp_law_least_lots_1 kin_here_1) xs_12 hits_2).bind fun x_13 =>
let found_14 := ([] : List (List Int))
(O.onlyNx (forO (lp_law_least_lots_2 x_13) (x_13.map Prod.fst) found_14)).bind fun x_26 =>
(sortT x_26).to fun r_27 => O.ret r_27) (fun _ => Ex.stuck)
theorem ft_law_least_lots (kin_here_1 : List (List Int)) : FT F_law_least_lots [(eT (eT D.int)) kin_here_1] (fun a : (List (List Int)) => (eO (eT D.int)) a) (fun a : (List (List Int)) => [none]) (t_law_least_lots kin_here_1) := by
  apply FT.conv
  exact (ft_of (C := (⟨fun _ : Unit => [], fun a : (List (List Int)) => (eO (eT D.int)) a, fun a : (List (List Int)) => [none, none, none, none, none, none, none, none, none], List.replicate 9 none⟩ : Cz Unit ((List (List Int))))) (κ0 := [some ((eT (eT D.int)) kin_here_1), none, none, none, none, none, none, none, none]) (κ' := fun _ : Unit => [none, none, none, none, none, none, none, none, none]) (pr := []) (n := 1) (L := 9) (eo := fun a : (List (List Int)) => [none]) (nv := fun _ => Ex.stuck)
 (sj_then (sj_asg (ej_c (eDO D.bl) ([] : List (List Int × Bool))) (tg_set 1 (Nat.le_of_ble_eq_true rfl)) Le.refl) fun hits_2 => (sj_seq (sj_for (κ' := fun (x_4 : (List (List Int × Bool))) => [some ((eT (eT D.int)) kin_here_1), some ((eDO D.bl) x_4), none, none, none, none, none, none, none]) (κb := fun lot_3 (x_4 : (List (List Int × Bool))) => [some ((eT (eT D.int)) kin_here_1), some ((eDO D.bl) x_4), some ((eT D.int) lot_3), none, none, none, none, none, none]) hits_2 (ek_seq (eg_call (eg_cons (eg_cons (ej_var (eT (eT D.int)) kin_here_1 0 rfl) fun _ => (eg_nil (ek_opl (bi_len _)))) fun _ => (eg_nil (ek_end (ft_law_all_lots _)))))) Le.refl (le_k (le_k (le_n (le_n (le_n (le_n (le_n (le_n (le_n le_0))))))))) (fun x_4 => (tg_set 2 (Nat.le_of_ble_eq_true rfl))) fun lot_3 x_4 => (sj_if (κ' := fun (x_5 : (List (List Int × Bool))) => [some ((eT (eT D.int)) kin_here_1), some ((eDO D.bl) x_5), none, none, none, none, none, none, none]) (ek_b (eg_cons (ek_lcM rfl rfl (ek_seq (ej_var (eT (eT D.int)) kin_here_1 0 rfl)) (tg_set 6 (Nat.le_of_ble_eq_true rfl)) (fun _ => (le_k (le_k (le_k (le_n (le_n (le_n (le_n (le_n (le_n le_0)))))))))) fun own_6 => (eg_cons (ek_lcM rfl rfl (ek_seq (ej_var (eT D.int) lot_3 2 rfl)) (tg_set 8 (Nat.le_of_ble_eq_true rfl)) (fun _ => (le_k (le_k (le_k (le_n (le_n (le_n (le_k (le_n (le_n le_0)))))))))) fun member_7 => (ek_e2v (ej_var D.int member_7 8 rfl) (ej_var (eT D.int) own_6 6 rfl) (op_in _ _))) fun _ => (eg_nil (ek_opl (bi_any _))))) fun _ => (eg_nil (ek_opl (bi_all _))))) Le.refl (sj_last (t := fun hits_10 => hits_10) (sj_dput (f := D.bl) (ev := D.bl) (kvs := x_4) rfl (ej_c D.bl true) (ej_var (eT D.int) lot_3 2 rfl)) fun hits_10 => (le_k (le_k (le_n (le_n (le_n (le_n (le_n (le_n (le_n le_0)))))))))) (sj_next x_4 (le_k (le_k (le_n (le_n (le_n (le_n (le_n (le_n (le_n le_0)))))))))))) fun x_13 => (sj_then (sj_asg (eg_nil (kk_lstH (e := (eT D.int)) ([] : List (List Int)) rfl rfl)) (tg_set 3 (Nat.le_of_ble_eq_true rfl)) Le.refl) fun found_14 => (sj_seq (sj_forK (κ' := fun (x_16 : (List (List Int))) => [some ((eT (eT D.int)) kin_here_1), some ((eDT D.bl) x_13), none, some ((eO (eT D.int)) x_16), none, none, none, none, none]) (κb := fun lot_15 (x_16 : (List (List Int))) => [some ((eT (eT D.int)) kin_here_1), some ((eDT D.bl) x_13), some ((eT D.int) lot_15), some ((eO (eT D.int)) x_16), none, none, none, none, none]) (f := D.bl) (kvs := x_13) (js := [0, 2, 4, 5, 6, 7, 8]) found_14 rfl (le_k (le_k (le_n (le_k (le_n (le_n (le_n (le_n (le_n le_0))))))))) (fun _ => rfl) (fun x_16 => (tg_set 2 (Nat.le_of_ble_eq_true rfl))) (fun lot_15 x_16 => (sj_then (sj_asg (ek_frz (ek_lcM rfl rfl (ek_rg1 (eg_cons (ej_var (eT D.int) lot_15 2 rfl) fun _ => (eg_nil (ek_opl (bi_len _))))) (tg_set 5 (Nat.le_of_ble_eq_true rfl)) (fun _ => (le_k (le_k (le_k (le_k (le_n (le_n (le_n (le_n (le_n le_0)))))))))) fun at_17 => (ek_frz (ek_e2v (ek_sl (ej_var (eT D.int) lot_15 2 rfl) ek_pN (ek_pS (ej_var D.int at_17 5 rfl))) (ek_sl (ej_var (eT D.int) lot_15 2 rfl) (ek_pS (ek_e2v (ej_var D.int at_17 5 rfl) (ej_c D.int 1) (op_add _ _))) ek_pN) (op_catT _ _))))) (tg_set 4 (Nat.le_of_ble_eq_true rfl)) Le.refl) fun spared_19 => (sj_if (κ' := fun (x_20 : (List (List Int))) => [some ((eT (eT D.int)) kin_here_1), some ((eDT D.bl) x_13), none, some ((eO (eT D.int)) x_20), none, none, none, none, none]) (ek_tbor' (κb := [some ((eT (eT D.int)) kin_here_1), some ((eDT D.bl) x_13), some ((eT D.int) lot_15), some ((eL (eT D.int)) x_16), some ((eL (eT D.int)) spared_19), none, none, none, none]) (lf_k (Frz.z (e := (eT (eT D.int))) (e' := (eT (eT D.int))) kin_here_1) (lf_k (Frz.z (e := (eDT D.bl)) (e' := (eDT D.bl)) x_13) (lf_k (Frz.z (e := (eT D.int)) (e' := (eT D.int)) lot_15) (lf_k (Frz.z (e := (eO (eT D.int))) (e' := (eL (eT D.int))) x_16) (lf_k (Frz.z (e := (eL (eT D.int))) (e' := (eL (eT D.int))) spared_19) (lf_n (lf_n (lf_n (lf_n lf_0))))))))) (ek_not (ek_b (eg_cons (ek_lcM rfl rfl (ek_seq (ej_var (eL (eT D.int)) spared_19 4 rfl)) (tg_set 7 (Nat.le_of_ble_eq_true rfl)) (fun _ => (le_k (le_k (le_k (le_k (le_k (le_n (le_n (le_n (le_n le_0)))))))))) fun less_21 => (ek_din0 (e := (eDT D.bl)) (kvs := x_13) 1 rfl (ej_var (eT D.int) less_21 7 rfl))) fun _ => (eg_nil (ek_opl (bi_any _))))))) Le.refl (sj_last (t := fun found_24 => found_24) (sj_dropG (eg_app (e := (eT D.int)) (xs := x_16) rfl (ej_var (eT D.int) lot_15 2 rfl)) (le_x rfl)) fun found_24 => (le_k (le_k (le_n (le_k (le_n (le_n (le_n (le_n (le_n le_0)))))))))) (sj_next x_16 (le_k (le_k (le_n (le_k (le_n (le_n (le_n (le_n (le_n le_0))))))))))))) fun _ => ⟨.inl rfl, ⟨.inl rfl, ⟨.inl rfl, ⟨.inr ⟨_, rfl, Nd.n (e := (eO (eT D.int))) _⟩, ⟨.inl rfl, ⟨.inl rfl, ⟨.inl rfl, ⟨.inl rfl, ⟨.inl rfl, True.intro⟩⟩⟩⟩⟩⟩⟩⟩⟩) fun x_26 => (sj_frz (e := (eO (eT D.int))) (e' := (eL (eT D.int))) x_26 3 rfl (sj_ret (t := fun b => b) (eg_cons (ej_var (eL (eT D.int)) x_26 3 rfl) fun _ => (eg_nil (ek_opl (bi_sort _)))) Le.refl (fun _ => rfl) fun _ => (le_n (le_n (le_n (le_n (le_n (le_n (le_n (le_n (le_n le_0)))))))))))))))
 rfl (Nat.le_of_ble_eq_true rfl) (fun _ => rfl) rfl (fun _ => rfl) (fun _ _ h => nomatch h) (fun _ => .inr rfl))
  delta t_law_least_lots
  delta lp_law_least_lots_2
  delta lp_law_least_lots_1
  simp only [id_eq, nf_bind, nf_st, nf_noX, nf_to, nf_nx, nf_vret, nf_vexc, nf_vbrk, nf_vcnt]
@[irreducible] def t_is_integer (thing_1 : Int) : Ex Bool := Ex.ok (true && (!false))
theorem ft_is_integer (thing_1 : Int) : FT F_is_integer [D.int thing_1] D.bl (fun _ => [none]) (t_is_integer thing_1) := by
  apply FT.conv
  exact (ft_ret (pr := []) (n := 1) (L := 1) (κ0 := [some (D.int thing_1)]) rfl (ek_eand_v (ek_inst (b := true) (ej_var D.int thing_1 0 rfl) fun _ => rfl) (ek_enot (ek_inst (b := false) (ej_var D.int thing_1 0 rfl) fun _ => rfl))) rfl rfl (fun _ => rfl) (fun _ h => nomatch h))
  delta t_is_integer
  simp only [id_eq, nf_bind, nf_st, nf_noX, nf_to, nf_nx, nf_vret, nf_vexc, nf_vbrk, nf_vcnt]
@[irreducible] def t_is_within (thing_1 : Int) (least_2 : Int) (most_3 : Int) : Ex Bool := (t_is_integer thing_1).bind fun a_4 => Ex.ok (a_4 && ((decide (least_2 ≤ thing_1)) && (decide (thing_1 ≤ most_3))))
theorem ft_is_within (thing_1 : Int) (least_2 : Int) (most_3 : Int) : FT F_is_within [D.int thing_1, D.int least_2, D.int most_3] D.bl (fun _ => [none, none, none]) (t_is_within thing_1 least_2 most_3) := by
  apply FT.conv
  exact (ft_ret (pr := []) (n := 3) (L := 3) (κ0 := [some (D.int thing_1), some (D.int least_2), some (D.int most_3)]) rfl (ek_eand_v (eg_call (eg_cons (ej_var D.int thing_1 0 rfl) fun _ => (eg_nil (ek_end (ft_is_integer _))))) (ek_chain_v (p := fun x y => (decide (x ≤ y))) (q := fun x y => (decide (x ≤ y))) (ej_var D.int least_2 1 rfl) (ej_var D.int thing_1 0 rfl) (ej_var D.int most_3 2 rfl) (fun _ _ => (op_le _ _)) (fun _ _ => (op_le _ _)))) rfl rfl (fun _ => rfl) (fun _ h => nomatch h))
  delta t_is_within
  simp only [id_eq, nf_bind, nf_st, nf_noX, nf_to, nf_nx, nf_vret, nf_vexc, nf_vbrk, nf_vcnt]
@[irreducible] def t_is_many (thing_1 : Int) : Ex Bool := t_is_within thing_1 1 8
theorem ft_is_many (thing_1 : Int) : FT F_is_many [D.int thing_1] D.bl (fun _ => [none]) (t_is_many thing_1) := by
  apply FT.conv
  exact (ft_ret (pr := []) (n := 1) (L := 1) (κ0 := [some (D.int thing_1)]) rfl (eg_call (eg_cons (ej_var D.int thing_1 0 rfl) fun _ => (eg_cons (ej_c D.int 1) fun _ => (eg_cons (ej_c D.int 8) fun _ => (eg_nil (ek_end (ft_is_within _ _ _))))))) rfl rfl (fun _ => rfl) (fun _ h => nomatch h))
  delta t_is_many
  simp only [id_eq, nf_bind, nf_st, nf_noX, nf_to, nf_nx, nf_vret, nf_vexc, nf_vbrk, nf_vcnt]
@[irreducible] def t_is_table (thing_1 : List (List Int)) (size_2 : Int) : Ex Bool := Ex.ok (true && (decide ((thing_1.length : Int) = size_2)))
theorem ft_is_table (thing_1 : List (List Int)) (size_2 : Int) : FT F_is_table [(eT (eT D.int)) thing_1, D.int size_2] D.bl (fun _ => [none, none]) (t_is_table thing_1 size_2) := by
  apply FT.conv
  exact (ft_ret (pr := []) (n := 2) (L := 2) (κ0 := [some ((eT (eT D.int)) thing_1), some (D.int size_2)]) rfl (ek_eand_v (ek_inst (b := true) (ej_var (eT (eT D.int)) thing_1 0 rfl) fun _ => rfl) (ek_e2v (eg_cons (ej_var (eT (eT D.int)) thing_1 0 rfl) fun _ => (eg_nil (ek_opl (bi_len _)))) (ej_var D.int size_2 1 rfl) (op_eq _ _))) rfl rfl (fun _ => rfl) (fun _ h => nomatch h))
  delta t_is_table
  simp only [id_eq, nf_bind, nf_st, nf_noX, nf_to, nf_nx, nf_vret, nf_vexc, nf_vbrk, nf_vcnt]
def lp_is_lot_1 (many_2 : Int) : Int → Int → O Int Int Bool := fun item_4 x_5 =>
((t_is_within item_4 (x_5 + 1) (many_2 - 1)).bind fun a_6 => Ex.ok (!a_6)).to fun c_8 => if c_8 = true then O.ret false else
let last_7 := item_4
O.nx last_7
@[irreducible] def t_is_lot (thing_1 : List Int) (many_2 : Int) : Ex Bool := O.fin (show O Unit Unit Bool from
if (!true) = true then O.ret false else
let last_3 := (-1)
(forO (lp_is_lot_1 many_2) thing_1 last_3).bind fun x_9 =>
O.ret true) (fun _ => Ex.stuck)
theorem ft_is_lot (thing_1 : List Int) (many_2 : Int) : FT F_is_lot [(eT D.int) thing_1, D.int many_2] (fun a : Bool => D.bl a) (fun a : Bool => [none, none]) (t_is_lot thing_1 many_2) := by
  apply FT.conv
  exact (ft_of (C := (⟨fun _ : Unit => [], fun a : Bool => D.bl a, fun a : Bool => [none, none, none, none], List.replicate 4 none⟩ : Cz Unit Bool)) (κ0 := [some ((eT D.int) thing_1), some (D.int many_2), none, none]) (κ' := fun _ : Unit => [none, none, none, none]) (pr := []) (n := 2) (L := 4) (eo := fun a : Bool => [none, none]) (nv := fun _ => Ex.stuck)
 (sj_ifD0 (κe := fun _ => []) (ek_not (ek_b (ek_inst (b := true) (ej_var (eT D.int) thing_1 0 rfl) fun _ => rfl))) Le.refl (sj_ret (t := fun b => b) (ej_c D.bl false) Le.refl (fun _ => rfl) fun _ => (le_n (le_n (le_n (le_n le_0))))) (sj_then (sj_asg (ek_e1v (ej_c D.int 1) (op_neg _)) (tg_set 2 (Nat.le_of_ble_eq_true rfl)) Le.refl) fun last_3 => (sj_seq (sj_for (κ' := fun (x_5 : Int) => [some ((eT D.int) thing_1), some (D.int many_2), some (D.int x_5), none]) (κb := fun item_4 (x_5 : Int) => [some ((eT D.int) thing_1), some (D.int many_2), some (D.int x_5), some (D.int item_4)]) last_3 (ek_seq (ej_var (eT D.int) thing_1 0 rfl)) Le.refl (le_k (le_k (le_k (le_n le_0)))) (fun x_5 => (tg_set 3 (Nat.le_of_ble_eq_true rfl))) fun item_4 x_5 => (sj_ifD0 (κe := fun _ => []) (ek_not (ek_b (eg_call (eg_cons (ej_var D.int item_4 3 rfl) fun _ => (eg_cons (ek_e2v (ej_var D.int x_5 2 rfl) (ej_c D.int 1) (op_add _ _)) fun _ => (eg_cons (ek_e2v (ej_var D.int many_2 1 rfl) (ej_c D.int 1) (op_sub _ _)) fun _ => (eg_nil (ek_end (ft_is_within _ _ _))))))))) Le.refl (sj_ret (t := fun b => b) (ej_c D.bl false) Le.refl (fun _ => rfl) fun _ => (le_n (le_n (le_n (le_n le_0))))) (sj_last (t := fun last_7 => last_7) (sj_asg (ek_frz (ej_var D.int item_4 3 rfl)) (tg_set 2 (Nat.le_of_ble_eq_true rfl)) Le.refl) fun last_7 => (le_k (le_k (le_k (le_n le_0))))))) fun x_9 => (sj_ret (t := fun b => b) (ej_c D.bl true) Le.refl (fun _ => rfl) fun _ => (le_n (le_n (le_n (le_n le_0))))))))
 rfl (Nat.le_of_ble_eq_true rfl) (fun _ => rfl) rfl (fun _ => rfl) (fun _ _ h => nomatch h) (fun _ => .inr rfl))
  delta t_is_lot
  delta lp_is_lot_1
  simp only [id_eq, nf_bind, nf_st, nf_noX, nf_to, nf_nx, nf_vret, nf_vexc, nf_vbrk, nf_vcnt]
@[irreducible] def t_is_kin (many_1 : Int) (thing_2 : List (List Int)) : Ex Bool := (t_is_table thing_2 many_1).bind fun a_5 => (if a_5 = true then (lcM (fun lot_3 => t_is_lot lot_3 many_1) thing_2).bind fun a_4 => Ex.ok (a_4.all id) else Ex.ok false)
theorem ft_is_kin (many_1 : Int) (thing_2 : List (List Int)) : FT F_is_kin [D.int many_1, (eT (eT D.int)) thing_2] D.bl (fun _ => [none, none]) (t_is_kin many_1 thing_2) := by
  apply FT.conv
  exact (ft_ret (pr := []) (n := 2) (L := 3) (κ0 := [some (D.int many_1), some ((eT (eT D.int)) thing_2), none]) rfl (ek_eand (eg_call (eg_cons (ej_var (eT (eT D.int)) thing_2 1 rfl) fun _ => (eg_cons (ej_var D.int many_1 0 rfl) fun _ => (eg_nil (ek_end (ft_is_table _ _)))))) (eg_cons (ek_lcM rfl rfl (ek_seq (ej_var (eT (eT D.int)) thing_2 1 rfl)) (tg_set 2 (Nat.le_of_ble_eq_true rfl)) (fun _ => (le_k (le_k (le_n le_0)))) fun lot_3 => (ek_frz (eg_call (eg_cons (ej_var (eT D.int) lot_3 2 rfl) fun _ => (eg_cons (ej_var D.int many_1 0 rfl) fun _ => (eg_nil (ek_end (ft_is_lot _ _)))))))) fun _ => (eg_nil (ek_opl (bi_all _))))) rfl rfl (fun _ => rfl) (fun _ h => nomatch h))
  delta t_is_kin
  simp only [id_eq, nf_bind, nf_st, nf_noX, nf_to, nf_nx, nf_vret, nf_vexc, nf_vbrk, nf_vcnt]
def lp_all_lots_1  : Int → ((List (List Int))) → O ((List (List Int))) ((List (List Int))) ((List (List Int))) := fun member_3 x_4 =>
((lcM (fun lot_5 => catT lot_5 [member_3]) x_4).bind fun b_6 => catT x_4 b_6).to fun found_7 =>
O.nx found_7
@[irreducible] def t_all_lots (many_1 : Int) : Ex ((List (List Int))) := O.fin (show O Unit Unit ((List (List Int))) from
let found_2 := [([] : List Int)]
((rg1T many_1).to fun xs_8 => forO lp_all_lots_1 xs_8 found_2).bind fun x_9 =>
O.ret x_9) (fun _ => Ex.stuck)
theorem ft_all_lots (many_1 : Int) : FT F_all_lots [D.int many_1] (fun a : (List (List Int)) => (eL (eT D.int)) a) (fun a : (List (List Int)) => [none]) (t_all_lots many_1) := by
  apply FT.conv
  exact (ft_of (C := (⟨fun _ : Unit => [], fun a : (List (List Int)) => (eL (eT D.int)) a, fun a : (List (List Int)) => [none, none, none, none], List.replicate 4 none⟩ : Cz Unit ((List (List Int))))) (κ0 := [some (D.int many_1), none, none, none]) (κ' := fun _ : Unit => [none, none, none, none]) (pr := []) (n := 1) (L := 4) (eo := fun a : (List (List Int)) => [none]) (nv := fun _ => Ex.stuck)
 (sj_then (sj_asg (ek_frz (eg_cons (eg_nil (kk_tupH (e := D.int) ([] : List Int) rfl rfl)) fun _ => (eg_nil (kk_lstH (e := (eT D.int)) [_] rfl rfl)))) (tg_set 1 (Nat.le_of_ble_eq_true rfl)) Le.refl) fun found_2 => (sj_seq (sj_for (κ' := fun (x_4 : (List (List Int))) => [some (D.int many_1), some ((eL (eT D.int)) x_4), none, none]) (κb := fun member_3 (x_4 : (List (List Int))) => [some (D.int many_1), some ((eL (eT D.int)) x_4), some (D.int member_3), none]) found_2 (ek_rg1 (ej_var D.int many_1 0 rfl)) Le.refl (le_k (le_k (le_n (le_n le_0)))) (fun x_4 => (tg_set 2 (Nat.le_of_ble_eq_true rfl))) fun member_3 x_4 => (sj_last (t := fun found_7 => found_7) (sj_asg (ek_frz (ek_e2 (ej_var (eL (eT D.int)) x_4 1 rfl) (ek_lcM rfl rfl (ek_seq (ej_var (eL (eT D.int)) x_4 1 rfl)) (tg_set 3 (Nat.le_of_ble_eq_true rfl)) (fun _ => (le_k (le_k (le_k (le_n le_0))))) fun lot_5 => (ek_frz (ek_e2v (ej_var (eT D.int) lot_5 3 rfl) (eg_cons (ej_var D.int member_3 2 rfl) fun _ => (eg_nil (kk_tupH (e := D.int) [_] rfl rfl))) (op_catT _ _)))) fun _ _ => (op_catL _ _))) (tg_set 1 (Nat.le_of_ble_eq_true rfl)) Le.refl) fun found_7 => (le_k (le_k (le_n (le_n le_0)))))) fun x_9 => (sj_ret (t := fun b => b) (ej_var (eL (eT D.int)) x_9 1 rfl) Le.refl (fun _ => rfl) fun _ => (le_n (le_n (le_n (le_n le_0)))))))
 rfl (Nat.le_of_ble_eq_true rfl) (fun _ => rfl) rfl (fun _ => rfl) (fun _ _ h => nomatch h) (fun _ => .inr rfl))
  delta t_all_lots
  delta lp_all_lots_1
  simp only [id_eq, nf_bind, nf_st, nf_noX, nf_to, nf_nx, nf_vret, nf_vexc, nf_vbrk, nf_vcnt]
@[irreducible] def t_has_some (lot_1 : List Int) (other_2 : List Int) : Ex Bool := (lcM (fun member_3 => Ex.ok (decide (member_3 ∈ other_2))) lot_1).bind fun a_4 => Ex.ok (a_4.any id)
theorem ft_has_some (lot_1 : List Int) (other_2 : List Int) : FT F_has_some [(eT D.int) lot_1, (eT D.int) other_2] D.bl (fun _ => [none, none]) (t_has_some lot_1 other_2) := by
  apply FT.conv
  exact (ft_ret (pr := []) (n := 2) (L := 3) (κ0 := [some ((eT D.int) lot_1), some ((eT D.int) other_2), none]) rfl (eg_cons (ek_lcM rfl rfl (ek_seq (ej_var (eT D.int) lot_1 0 rfl)) (tg_set 2 (Nat.le_of_ble_eq_true rfl)) (fun _ => (le_k (le_k (le_n le_0)))) fun member_3 => (ek_e2v (ej_var D.int member_3 2 rfl) (ej_var (eT D.int) other_2 1 rfl) (op_in _ _))) fun _ => (eg_nil (ek_opl (bi_any _)))) rfl rfl (fun _ => rfl) (fun _ h => nomatch h))
  delta t_has_some
  simp only [id_eq, nf_bind, nf_st, nf_noX, nf_to, nf_nx, nf_vret, nf_vexc, nf_vbrk, nf_vcnt]
@[irreducible] def t_meets_all (lot_1 : List Int) (kin_2 : List (List Int)) : Ex Bool := (lcM (fun other_3 => t_has_some lot_1 other_3) kin_2).bind fun a_4 => Ex.ok (a_4.all id)
theorem ft_meets_all (lot_1 : List Int) (kin_2 : List (List Int)) : FT F_meets_all [(eT D.int) lot_1, (eT (eT D.int)) kin_2] D.bl (fun _ => [none, none]) (t_meets_all lot_1 kin_2) := by
  apply FT.conv
  exact (ft_ret (pr := []) (n := 2) (L := 3) (κ0 := [some ((eT D.int) lot_1), some ((eT (eT D.int)) kin_2), none]) rfl (eg_cons (ek_lcM rfl rfl (ek_seq (ej_var (eT (eT D.int)) kin_2 1 rfl)) (tg_set 2 (Nat.le_of_ble_eq_true rfl)) (fun _ => (le_k (le_k (le_n le_0)))) fun other_3 => (ek_frz (eg_call (eg_cons (ej_var (eT D.int) lot_1 0 rfl) fun _ => (eg_cons (ej_var (eT D.int) other_3 2 rfl) fun _ => (eg_nil (ek_end (ft_has_some _ _)))))))) fun _ => (eg_nil (ek_opl (bi_all _)))) rfl rfl (fun _ => rfl) (fun _ h => nomatch h))
  delta t_meets_all
  simp only [id_eq, nf_bind, nf_st, nf_noX, nf_to, nf_nx, nf_vret, nf_vexc, nf_vbrk, nf_vcnt]
@[irreducible] def t_without (lot_1 : List Int) (member_2 : Int) : Ex ((List Int)) := (lcX (fun other_3 => Ex.ok (!decide (other_3 = member_2))) (fun other_3 => Ex.ok other_3) lot_1).bind fun a_4 => Ex.ok a_4
theorem ft_without (lot_1 : List Int) (member_2 : Int) : FT F_without [(eT D.int) lot_1, D.int member_2] (eT D.int) (fun _ => [none, none]) (t_without lot_1 member_2) := by
  apply FT.conv
  exact (ft_ret (pr := []) (n := 2) (L := 3) (κ0 := [some ((eT D.int) lot_1), some (D.int member_2), none]) rfl (eg_cons (ek_lc rfl rfl (ek_seq (ej_var (eT D.int) lot_1 0 rfl)) (tg_set 2 (Nat.le_of_ble_eq_true rfl)) (fun _ => (le_k (le_k (le_n le_0)))) (fun other_3 => (ek_b (ek_e2v (ej_var D.int other_3 2 rfl) (ej_var D.int member_2 1 rfl) (op_ne _ _)))) fun other_3 => (ek_frz (ej_var D.int other_3 2 rfl))) fun _ => (eg_nil (ek_opl (bi_tupL _)))) rfl rfl (fun _ => rfl) (fun _ h => nomatch h))
  delta t_without
  simp only [id_eq, nf_bind, nf_st, nf_noX, nf_to, nf_nx, nf_vret, nf_vexc, nf_vbrk, nf_vcnt]
def lp_least_of_1 (kin_1 : List (List Int)) : (List Int) → ((List (List Int))) → O ((List (List Int))) ((List (List Int))) ((List (List Int))) := fun lot_3 x_4 =>
((t_meets_all lot_3 kin_1).bind fun a_10 => (if a_10 = true then ((lcM (fun member_6 => (t_without lot_3 member_6).bind fun a_7 => t_meets_all a_7 kin_1) lot_3).bind fun a_8 => Ex.ok (a_8.any id)).bind fun a_9 => Ex.ok (!a_9) else Ex.ok false)).to fun c_12 => if c_12 = true then ((appT x_4 lot_3).to fun found_11 =>
O.nx found_11) else (O.nx x_4)
@[irreducible] def t_least_of (kin_1 : List (List Int)) : Ex ((List (List Int))) := O.fin (show O Unit Unit ((List (List Int))) from
let found_2 := ([] : List (List Int))
((t_all_lots (kin_1.length : Int)).to fun xs_13 => forO (lp_least_of_1 kin_1) xs_13 found_2).bind fun x_14 =>
(sortT x_14).to fun r_15 => O.ret r_15) (fun _ => Ex.stuck)
theorem ft_least_of (kin_1 : List (List Int)) : FT F_least_of [(eT (eT D.int)) kin_1] (fun a : (List (List Int)) => (eO (eT D.int)) a) (fun a : (List (List Int)) => [none]) (t_least_of kin_1) := by
  apply FT.conv
  exact (ft_of (C := (⟨fun _ : Unit => [], fun a : (List (List Int)) => (eO (eT D.int)) a, fun a : (List (List Int)) => [none, none, none, none], List.replicate 4 none⟩ : Cz Unit ((List (List Int))))) (κ0 := [some ((eT (eT D.int)) kin_1), none, none, none]) (κ' := fun _ : Unit => [none, none, none, none]) (pr := []) (n := 1) (L := 4) (eo := fun a : (List (List Int)) => [none]) (nv := fun _ => Ex.stuck)
 (sj_then (sj_asg (eg_nil (kk_lstH (e := (eT D.int)) ([] : List (List Int)) rfl rfl)) (tg_set 1 (Nat.le_of_ble_eq_true rfl)) Le.refl) fun found_2 => (sj_seq (sj_for (κ' := fun (x_4 : (List (List Int))) => [some ((eT (eT D.int)) kin_1), some ((eO (eT D.int)) x_4), none, none]) (κb := fun lot_3 (x_4 : (List (List Int))) => [some ((eT (eT D.int)) kin_1), some ((eO (eT D.int)) x_4), some ((eT D.int) lot_3), none]) found_2 (ek_seq (eg_call (eg_cons (eg_cons (ej_var (eT (eT D.int)) kin_1 0 rfl) fun _ => (eg_nil (ek_opl (bi_len _)))) fun _ => (eg_nil (ek_end (ft_all_lots _)))))) Le.refl (le_k (le_k (le_n (le_n le_0)))) (fun x_4 => (tg_set 2 (Nat.le_of_ble_eq_true rfl))) fun lot_3 x_4 => (sj_if (κ' := fun (x_5 : (List (List Int))) => [some ((eT (eT D.int)) kin_1), some ((eO (eT D.int)) x_5), none, none]) (ek_and (ek_b (eg_call (eg_cons (ej_var (eT D.int) lot_3 2 rfl) fun _ => (eg_cons (ej_var (eT (eT D.int)) kin_1 0 rfl) fun _ => (eg_nil (ek_end (ft_meets_all _ _))))))) (ek_not (ek_b (eg_cons (ek_lcM rfl rfl (ek_seq (ej_var (eT D.int) lot_3 2 rfl)) (tg_set 3 (Nat.le_of_ble_eq_true rfl)) (fun _ => (le_k (le_k (le_k (le_n le_0))))) fun member_6 => (ek_frz (eg_call (eg_cons (ek_frz (eg_call (eg_cons (ej_var (eT D.int) lot_3 2 rfl) fun _ => (eg_cons (ej_var D.int member_6 3 rfl) fun _ => (eg_nil (ek_end (ft_without _ _))))))) fun _ => (eg_cons (ej_var (eT (eT D.int)) kin_1 0 rfl) fun _ => (eg_nil (ek_end (ft_meets_all _ _)))))))) fun _ => (eg_nil (ek_opl (bi_any _))))))) Le.refl (sj_last (t := fun found_11 => found_11) (sj_dropG (eg_app (e := (eT D.int)) (xs := x_4) rfl (ej_var (eT D.int) lot_3 2 rfl)) (le_x rfl)) fun found_11 => (le_k (le_k (le_n (le_n le_0))))) (sj_next x_4 (le_k (le_k (le_n (le_n le_0))))))) fun x_14 => (sj_frz (e := (eO (eT D.int))) (e' := (eL (eT D.int))) x_14 1 rfl (sj_ret (t := fun b => b) (eg_cons (ej_var (eL (eT D.int)) x_14 1 rfl) fun _ => (eg_nil (ek_opl (bi_sort _)))) Le.refl (fun _ => rfl) fun _ => (le_n (le_n (le_n (le_n le_0))))))))
 rfl (Nat.le_of_ble_eq_true rfl) (fun _ => rfl) rfl (fun _ => rfl) (fun _ _ h => nomatch h) (fun _ => .inr rfl))
  delta t_least_of
  delta lp_least_of_1
  simp only [id_eq, nf_bind, nf_st, nf_noX, nf_to, nf_nx, nf_vret, nf_vexc, nf_vbrk, nf_vcnt]
@[irreducible] def t_least_lots (kin_1 : List (List Int)) : Ex ((List (List Int))) := O.fin (show O Unit Unit ((List (List Int))) from
((if (!true) = true then Ex.ok true else ((t_is_many (kin_1.length : Int)).bind fun a_2 => Ex.ok (!a_2)).bind fun a_4 => (if a_4 = true then Ex.ok true else (t_is_kin (kin_1.length : Int) kin_1).bind fun a_3 => Ex.ok (!a_3)))).to fun c_6 => if c_6 = true then O.exc "NoKin" [] else
(t_least_of kin_1).to fun r_5 => O.ret r_5) (fun _ => Ex.stuck)
theorem ft_least_lots (kin_1 : List (List Int)) : FT F_least_lots [(eT (eT D.int)) kin_1] (fun a : (List (List Int)) => (eO (eT D.int)) a) (fun a : (List (List Int)) => [none]) (t_least_lots kin_1) := by
  apply FT.conv
  exact (ft_of (C := (⟨fun _ : Unit => [], fun a : (List (List Int)) => (eO (eT D.int)) a, fun a : (List (List Int)) => [none], List.replicate 1 none⟩ : Cz Unit ((List (List Int))))) (κ0 := [some ((eT (eT D.int)) kin_1)]) (κ' := fun _ : Unit => [none]) (pr := []) (n := 1) (L := 1) (eo := fun a : (List (List Int)) => [none]) (nv := fun _ => Ex.stuck)
 (sj_ifD0 (κe := fun _ => []) (ek_or (ek_not (ek_b (ek_inst (b := true) (ej_var (eT (eT D.int)) kin_1 0 rfl) fun _ => rfl))) (ek_or (ek_not (ek_b (eg_call (eg_cons (eg_cons (ej_var (eT (eT D.int)) kin_1 0 rfl) fun _ => (eg_nil (ek_opl (bi_len _)))) fun _ => (eg_nil (ek_end (ft_is_many _))))))) (ek_not (ek_b (eg_call (eg_cons (eg_cons (ej_var (eT (eT D.int)) kin_1 0 rfl) fun _ => (eg_nil (ek_opl (bi_len _)))) fun _ => (eg_cons (ej_var (eT (eT D.int)) kin_1 0 rfl) fun _ => (eg_nil (ek_end (ft_is_kin _ _)))))))))) Le.refl (sj_raise "NoKin" (le_x rfl)) (sj_ret (t := fun b => b) (eg_call (eg_cons (ej_var (eT (eT D.int)) kin_1 0 rfl) fun _ => (eg_nil (ek_end (ft_least_of _))))) Le.refl (fun _ => rfl) fun _ => (le_n le_0)))
 rfl (Nat.le_of_ble_eq_true rfl) (fun _ => rfl) rfl (fun _ => rfl) (fun _ _ h => nomatch h) (fun _ => .inr rfl))
  delta t_least_lots
  simp only [id_eq, nf_bind, nf_st, nf_noX, nf_to, nf_nx, nf_vret, nf_vexc, nf_vbrk, nf_vcnt]
def lp_law_kin_1 (style_5 : Int × D) (many_2 : Int) : Int → (D × (List (List Int))) → O (D × (List (List Int))) (D × (List (List Int))) ((List (List Int)) × D) := fun member_8 x_9 =>
let lot_10 := [member_8]
(if (decide (style_5.1 = 1)) = true then (((rg1T many_2).bind fun xs_13 => lcX (fun other_12 => Ex.ok ((decide ((member_8 - 1) ≤ other_12)) && (decide (other_12 ≤ (member_8 + 1))))) (fun other_12 => Ex.ok other_12) xs_13).to fun lot_14 =>
O.nx (x_9.1, lot_14)) else (if (decide (2 < style_5.1)) = true then ((((rg1T many_2).st x_9.1).bind fun p_23 => lcS (fun other_16 s_17 => (drawT s_17 (style_5.1 - 1)).bind fun p_20 => Ex.ok ((decide (p_20.1 = 0)), p_20.2)) (fun other_16 s_17 => Ex.ok (other_16, s_17)) p_23.1 p_23.2).to fun lot_24 =>
((if (decide ((lot_24.1.length : Int) = 0)) = true then (drawT lot_24.2 4).bind fun p_30 => Ex.ok ((decide (0 < p_30.1)), p_30.2) else Ex.ok (false, lot_24.2))).to fun c_32 => if c_32.1 = true then (((drawT c_32.2 many_2).bind fun p_35 => Ex.ok ([p_35.1], p_35.2)).to fun lot_36 =>
O.nx (lot_36.2, lot_36.1)) else (O.nx (c_32.2, lot_24.1))) else (O.nx (x_9.1, lot_10))) : O (D × (List (List Int))) (D × (List Int)) ((List (List Int)) × D)).bind fun x_11 =>
(appT x_9.2 x_11.2).to fun found_39 =>
O.nx (x_11.1, found_39)
@[irreducible] def t_law_kin (pool_here_1 : D) (many_2 : Int) : Ex ((List (List Int)) × D) := O.fin (show O Unit Unit ((List (List Int)) × D) from
(drawT pool_here_1 6).to fun style_5 =>
let found_7 := ([] : List (List Int))
((rg1T many_2).to fun xs_40 => forO (lp_law_kin_1 style_5 many_2) xs_40 (style_5.2, found_7)).bind fun x_41 =>
O.ret (x_41.2, x_41.1)) (fun _ => Ex.stuck)
theorem ft_law_kin (pool_here_1 : D) (many_2 : Int) : FT F_law_kin [eQ pool_here_1, D.int many_2] (fun a : (List (List Int)) × D => (eT (eT D.int)) a.1) (fun a : (List (List Int)) × D => [some (eQ a.2), none]) (t_law_kin pool_here_1 many_2) := by
  apply FT.conv
  exact (ft_of (C := (⟨fun _ : Unit => [], fun a : (List (List Int)) × D => (eT (eT D.int)) a.1, fun a : (List (List Int)) × D => [some (eQ a.2), none, none, none, none, none, none], List.replicate 7 none⟩ : Cz Unit ((List (List Int)) × D))) (κ0 := [some (eQ pool_here_1), some (D.int many_2), none, none, none, none, none]) (κ' := fun _ : Unit => [none, none, none, none, none, none, none]) (pr := [0]) (n := 2) (L := 7) (eo := fun a : (List (List Int)) × D => [some (eQ a.2), none]) (nv := fun _ => Ex.stuck)
 (sj_then (sj_asgG (gs_at (κs := fun s_6 => [some (eQ s_6), some (D.int many_2), none, none, none, none, none]) pool_here_1 (le_k (le_k (le_n (le_n (le_n (le_n (le_n le_0))))))) (gs_frz (fun s_3 => (eg_call (eg_mv (eS := eQ) s_3 0 rfl (eg_cons (ej_c D.int 6) fun _ => (eg_nil (eg_end1 (κs := fun s_4 => [some (eQ s_4), some (D.int many_2), none, none, none, none, none]) (eS := eQ) 0 (ft_draw s_3 _) (fun _ => (le_k (le_k (le_n (le_n (le_n (le_n (le_n le_0)))))))))))))))) (fun b => (tg_set 2 (Nat.le_of_ble_eq_true rfl)) b.1) Le.refl) fun style_5 => (sj_then (sj_asg (eg_nil (kk_lstH (e := (eT D.int)) ([] : List (List Int)) rfl rfl)) (tg_set 3 (Nat.le_of_ble_eq_true rfl)) Le.refl) fun found_7 => (sj_seq (sj_for (κ' := fun (x_9 : D × (List (List Int))) => [some (eQ x_9.1), some (D.int many_2), some (D.int style_5.1), some ((eO (eT D.int)) x_9.2), none, none, none]) (κb := fun member_8 (x_9 : D × (List (List Int))) => [some (eQ x_9.1), some (D.int many_2), some (D.int style_5.1), some ((eO (eT D.int)) x_9.2), some (D.int member_8), none, none]) (style_5.2, found_7) (ek_rg1 (ej_var D.int many_2 1 rfl)) Le.refl (le_k (le_k (le_k (le_k (le_n (le_n (le_n le_0))))))) (fun x_9 => (tg_set 4 (Nat.le_of_ble_eq_true rfl))) fun member_8 x_9 => (sj_then (sj_asg (ek_frz (eg_cons (ej_var D.int member_8 4 rfl) fun _ => (eg_nil (kk_lstH (e := D.int) [_] rfl rfl)))) (tg_set 5 (Nat.le_of_ble_eq_true rfl)) Le.refl) fun lot_10 => (sj_seq (sj_if (κ' := fun (x_11 : D × (List Int)) => [some (eQ x_11.1), some (D.int many_2), some (D.int style_5.1), some ((eO (eT D.int)) x_9.2), some (D.int member_8), some ((eL D.int) x_11.2), none]) (ek_b (ek_e2v (ej_var D.int style_5.1 2 rfl) (ej_c D.int 1) (op_eq _ _))) Le.refl (sj_last (t := fun lot_14 => (x_9.1, lot_14)) (sj_asg (ek_frz (ek_lc rfl rfl (ek_rg1 (ej_var D.int many_2 1 rfl)) (tg_set 6 (Nat.le_of_ble_eq_true rfl)) (fun _ => (le_k (le_k (le_k (le_k (le_k (le_k (le_n le_0)))))))) (fun other_12 => (ek_b (ek_chain_v (p := fun x y => (decide (x ≤ y))) (q := fun x y => (decide (x ≤ y))) (ek_e2v (ej_var D.int member_8 4 rfl) (ej_c D.int 1) (op_sub _ _)) (ej_var D.int other_12 6 rfl) (ek_e2v (ej_var D.int member_8 4 rfl) (ej_c D.int 1) (op_add _ _)) (fun _ _ => (op_le _ _)) (fun _ _ => (op_le _ _))))) fun other_12 => (ek_frz (ej_var D.int other_12 6 rfl)))) (tg_set 5 (Nat.le_of_ble_eq_true rfl)) Le.refl) fun lot_14 => (le_k (le_k (le_k (le_k (le_k (le_k (le_n le_0)))))))) (sj_if (κ' := fun (x_15 : D × (List Int)) => [some (eQ x_15.1), some (D.int many_2), some (D.int style_5.1), some ((eO (eT D.int)) x_9.2), some (D.int member_8), some ((eL D.int) x_15.2), none]) (ek_b (ek_e2v (ej_var D.int style_5.1 2 rfl) (ej_c D.int 2) (op_gt _ _))) Le.refl (sj_then (sj_asgG (gs_at (κs := fun s_25 => [some (eQ s_25), some (D.int many_2), some (D.int style_5.1), some ((eO (eT D.int)) x_9.2), some (D.int member_8), some ((eL D.int) lot_10), none]) x_9.1 (le_k (le_k (le_k (le_k (le_k (le_k (le_n le_0))))))) (gs_frz (gs_lc (κb := fun other_16 s_17 => [some (eQ s_17), some (D.int many_2), some (D.int style_5.1), some ((eO (eT D.int)) x_9.2), some (D.int member_8), some ((eL D.int) lot_10), some (D.int other_16)]) (fun _ => rfl) (fun _ => rfl) (gs_p fun _ => (ek_rg1 (ej_var D.int many_2 1 rfl))) (fun _ => (tg_set 6 (Nat.le_of_ble_eq_true rfl))) (fun _ _ => (le_k (le_k (le_k (le_k (le_k (le_k (le_n le_0)))))))) (fun other_16 => (gs_b (gs_e2 (fun s_18 => (eg_call (eg_mv (eS := eQ) s_18 0 rfl (eg_cons (ek_e2v (ej_var D.int style_5.1 2 rfl) (ej_c D.int 1) (op_sub _ _)) fun _ => (eg_nil (eg_end1 (κs := fun s_19 => [some (eQ s_19), some (D.int many_2), some (D.int style_5.1), some ((eO (eT D.int)) x_9.2), some (D.int member_8), some ((eL D.int) lot_10), some (D.int other_16)]) (eS := eQ) 0 (ft_draw s_18 _) (fun _ => (le_k (le_k (le_k (le_k (le_k (le_k (le_k le_0)))))))))))))) (gs_p fun s_21 => (ej_c D.int 0)) fun _ _ => (op_eq _ _)))) fun other_16 => (gs_p fun s_22 => (ek_frz (ej_var D.int other_16 6 rfl)))))) (fun b => (tg_set 5 (Nat.le_of_ble_eq_true rfl)) b.1) Le.refl) fun lot_24 => (sj_ifG (κ' := fun (x_26 : D × (List Int)) => [some (eQ x_26.1), some (D.int many_2), some (D.int style_5.1), some ((eO (eT D.int)) x_9.2), some (D.int member_8), some ((eL D.int) x_26.2), none]) (gs_at (κs := fun s_38 => [some (eQ s_38), some (D.int many_2), some (D.int style_5.1), some ((eO (eT D.int)) x_9.2), some (D.int member_8), some ((eL D.int) lot_24.1), none]) lot_24.2 (le_k (le_k (le_k (le_k (le_k (le_k (le_n le_0))))))) (gs_and (gs_p fun s_27 => (ek_b (ek_e2v (eg_cons (ej_var (eL D.int) lot_24.1 5 rfl) fun _ => (eg_nil (ek_opl (bi_len _)))) (ej_c D.int 0) (op_eq _ _)))) (gs_b (gs_e2 (fun s_28 => (eg_call (eg_mv (eS := eQ) s_28 0 rfl (eg_cons (ej_c D.int 4) fun _ => (eg_nil (eg_end1 (κs := fun s_29 => [some (eQ s_29), some (D.int many_2), some (D.int style_5.1), some ((eO (eT D.int)) x_9.2), some (D.int member_8), some ((eL D.int) lot_24.1), none]) (eS := eQ) 0 (ft_draw s_28 _) (fun _ => (le_k (le_k (le_k (le_k (le_k (le_k (le_n le_0)))))))))))))) (gs_p fun s_31 => (ej_c D.int 0)) fun _ _ => (op_gt _ _))))) Le.refl (fun c_32 => (sj_last (t := fun lot_36 => (lot_36.2, lot_36.1)) (sj_asgG (gs_at (κs := fun s_37 => [some (eQ s_37), some (D.int many_2), some (D.int style_5.1), some ((eO (eT D.int)) x_9.2), some (D.int member_8), some ((eL D.int) lot_24.1), none]) c_32.2 (le_k (le_k (le_k (le_k (le_k (le_k (le_n le_0))))))) (gs_frz (gk_cons (gs_frz (fun s_33 => (eg_call (eg_mv (eS := eQ) s_33 0 rfl (eg_cons (ej_var D.int many_2 1 rfl) fun _ => (eg_nil (eg_end1 (κs := fun s_34 => [some (eQ s_34), some (D.int many_2), some (D.int style_5.1), some ((eO (eT D.int)) x_9.2), some (D.int member_8), some ((eL D.int) lot_24.1), none]) (eS := eQ) 0 (ft_draw s_33 _) (fun _ => (le_k (le_k (le_k (le_k (le_k (le_k (le_n le_0))))))))))))))) fun _ => (gk_nil (gs_p fun _ => (kk_lstH (e := D.int) [_] rfl rfl)))))) (fun b => (tg_set 5 (Nat.le_of_ble_eq_true rfl)) b.1) Le.refl) fun lot_36 => (le_k (le_k (le_k (le_k (le_k (le_k (le_n le_0))))))))) fun c_32 => (sj_next (c_32.2, lot_24.1) (le_k (le_k (le_k (le_k (le_k (le_k (le_n le_0)))))))))) (sj_next (x_9.1, lot_10) (le_k (le_k (le_k (le_k (le_k (le_k (le_n le_0)))))))))) fun x_11 => (sj_last (t := fun found_39 => (x_11.1, found_39)) (sj_dropG (eg_app (e := (eT D.int)) (xs := x_9.2) rfl (eg_cons (ej_var (eL D.int) x_11.2 5 rfl) fun _ => (eg_nil (ek_opl (bi_tupL _))))) (le_x rfl)) fun found_39 => (le_k (le_k (le_k (le_k (le_n (le_n (le_n le_0))))))))))) fun x_41 => (sj_frz (e := (eO (eT D.int))) (e' := (eL (eT D.int))) x_41.2 3 rfl (sj_ret (t := fun b => (b, x_41.1)) (eg_cons (ej_var (eL (eT D.int)) x_41.2 3 rfl) fun _ => (eg_nil (ek_opl (bi_tupL _)))) Le.refl (fun _ => rfl) fun _ => (le_k (le_n (le_n (le_n (le_n (le_n (le_n le_0))))))))))))
 rfl (Nat.le_of_ble_eq_true rfl) (fun _ => rfl) rfl (fun _ => rfl) (fun _ j h _ => by cases List.mem_singleton.mp h; exact ⟨_, rfl⟩) (fun _ => .inr rfl))
  delta t_law_kin
  delta lp_law_kin_1
  simp only [id_eq, nf_bind, nf_st, nf_noX, nf_to, nf_nx, nf_vret, nf_vexc, nf_vbrk, nf_vcnt]
@[irreducible] def t_law_pick (pool_here_1 : D) (things_2 : List (List Int)) : Ex ((List Int) × D) := O.fin (show O Unit Unit ((List Int) × D) from
((drawT pool_here_1 (things_2.length : Int)).bind fun p_6 => (ixT things_2 p_6.1).st p_6.2).to fun r_7 => O.ret (r_7.1, r_7.2)) (fun _ => Ex.stuck)
theorem ft_law_pick (pool_here_1 : D) (things_2 : List (List Int)) : FT F_law_pick [eQ pool_here_1, (eT (eT D.int)) things_2] (fun a : (List Int) × D => (eT D.int) a.1) (fun a : (List Int) × D => [some (eQ a.2), none]) (t_law_pick pool_here_1 things_2) := by
  apply FT.conv
  exact (ft_of (C := (⟨fun _ : Unit => [], fun a : (List Int) × D => (eT D.int) a.1, fun a : (List Int) × D => [some (eQ a.2), none], List.replicate 2 none⟩ : Cz Unit ((List Int) × D))) (κ0 := [some (eQ pool_here_1), some ((eT (eT D.int)) things_2)]) (κ' := fun _ : Unit => [none, none]) (pr := [0]) (n := 2) (L := 2) (eo := fun a : (List Int) × D => [some (eQ a.2), none]) (nv := fun _ => Ex.stuck)
 (sj_retG (t := fun r_7 => (r_7.1, r_7.2)) (gs_at (κs := fun s_8 => [some (eQ s_8), some ((eT (eT D.int)) things_2)]) pool_here_1 (le_k (le_k le_0)) (gs_e2 (gs_p fun s_3 => (ej_var (eT (eT D.int)) things_2 1 rfl)) (fun s_4 => (eg_call (eg_mv (eS := eQ) s_4 0 rfl (eg_cons (eg_cons (ej_var (eT (eT D.int)) things_2 1 rfl) fun _ => (eg_nil (ek_opl (bi_len _)))) fun _ => (eg_nil (eg_end1 (κs := fun s_5 => [some (eQ s_5), some ((eT (eT D.int)) things_2)]) (eS := eQ) 0 (ft_draw s_4 _) (fun _ => (le_k (le_k le_0))))))))) fun _ _ => (op_ix _ _))) Le.refl (fun _ => rfl) fun r_7 => (le_k (le_n le_0)))
 rfl (Nat.le_of_ble_eq_true rfl) (fun _ => rfl) rfl (fun _ => rfl) (fun _ j h _ => by cases List.mem_singleton.mp h; exact ⟨_, rfl⟩) (fun _ => .inr rfl))
  delta t_law_pick
  simp only [id_eq, nf_bind, nf_st, nf_noX, nf_to, nf_nx, nf_vret, nf_vexc, nf_vbrk, nf_vcnt]
def lp_law_1  : Int → D → O D D Bool := fun turn_3 x_4 =>
((drawT x_4 8).bind fun p_8 => Ex.ok ((1 + p_8.1), p_8.2)).to fun many_9 =>
(t_law_kin many_9.2 many_9.1).to fun kin_here_13 =>
(((drawT kin_here_13.2 3).bind fun p_18 => Ex.ok ((decide (p_18.1 = 0)), p_18.2)).to fun c_20 => if c_20.1 = true then ((drawT c_20.2 many_9.1).to fun at_23 =>
((((t_law_pick at_23.2 kin_here_13.1).bind fun p_28 => Ex.ok ([p_28.1], p_28.2)).bind fun p_29 => (catT (slT kin_here_13.1 none (some at_23.1)) p_29.1).st p_29.2).bind fun p_30 => (catT p_30.1 (slT kin_here_13.1 (some (at_23.1 + 1)) none)).st p_30.2).to fun kin_here_32 =>
O.nx (kin_here_32.2, kin_here_32.1)) else (O.nx (c_20.2, kin_here_13.1)) : O D (D × (List (List Int))) Bool).bind fun x_15 =>
(t_law_least_lots x_15.2).to fun due_35 =>
(t_least_lots x_15.2).to fun told_36 =>
if ((!true) || ((!eqb told_36 due_35) || (!decide ((eqb due_35 ([] : List (List Int))) = (inb ([] : List Int) x_15.2))))) = true then O.ret false else
(((lcM (fun lot_37 => Ex.ok true) told_36).bind fun a_38 => Ex.ok (a_38.all id)).bind fun a_39 => Ex.ok (!a_39)).to fun c_45 => if c_45 = true then O.ret false else
(appU told_36).to fun u_41 =>
((t_least_lots x_15.2).bind fun a_43 => Ex.ok (!eqb a_43 due_35)).to fun c_44 => if c_44 = true then (O.ret false) else (O.nx x_15.1)
@[irreducible] def t_law (script_1 : List Int) : Ex Bool := O.fin (show O Unit Unit Bool from
(poolT script_1).to fun pool_here_2 =>
(forO lp_law_1 (rng 0 4) pool_here_2).bind fun x_46 =>
O.ret true) (fun _ => Ex.stuck)
theorem ft_law (script_1 : List Int) : FT F_law [eX script_1] (fun a : Bool => D.bl a) (fun a : Bool => [none]) (t_law script_1) := by
  apply FT.conv
  exact (ft_of (C := (⟨fun _ : Unit => [], fun a : Bool => D.bl a, fun a : Bool => [none, none, none, none, none, none, none, none, none], List.replicate 9 none⟩ : Cz Unit Bool)) (κ0 := [some (eX script_1), none, none, none, none, none, none, none, none]) (κ' := fun _ : Unit => [none, none, none, none, none, none, none, none, none]) (pr := []) (n := 1) (L := 9) (eo := fun a : Bool => [none]) (nv := fun _ => Ex.stuck)
 (sj_then (sj_asg (eg_call (eg_cons (ej_var eX script_1 0 rfl) fun _ => (eg_nil (ek_end (ft_pool _))))) (tg_set 1 (Nat.le_of_ble_eq_true rfl)) Le.refl) fun pool_here_2 => (sj_seq (sj_for (κ' := fun (x_4 : D) => [some (eX script_1), some (eQ x_4), none, none, none, none, none, none, none]) (κb := fun turn_3 (x_4 : D) => [some (eX script_1), some (eQ x_4), some (D.int turn_3), none, none, none, none, none, none]) pool_here_2 (ek_rg1v 4 (ej_c D.int 4)) Le.refl (le_k (le_k (le_n (le_n (le_n (le_n (le_n (le_n (le_n le_0))))))))) (fun x_4 => (tg_set 2 (Nat.le_of_ble_eq_true rfl))) fun turn_3 x_4 => (sj_then (sj_asgG (gs_at (κs := fun s_10 => [some (eX script_1), some (eQ s_10), some (D.int turn_3), none, none, none, none, none, none]) x_4 (le_k (le_k (le_k (le_n (le_n (le_n (le_n (le_n (le_n le_0))))))))) (gs_frz (gs_e2 (gs_p fun s_5 => (ej_c D.int 1)) (fun s_6 => (eg_call (eg_mv (eS := eQ) s_6 1 rfl (eg_cons (ej_c D.int 8) fun _ => (eg_nil (eg_end1 (κs := fun s_7 => [some (eX script_1), some (eQ s_7), some (D.int turn_3), none, none, none, none, none, none]) (eS := eQ) 1 (ft_draw s_6 _) (fun _ => (le_k (le_k (le_k (le_n (le_n (le_n (le_n (le_n (le_n le_0)))))))))))))))) fun _ _ => (op_add _ _)))) (fun b => (tg_set 3 (Nat.le_of_ble_eq_true rfl)) b.1) Le.refl) fun many_9 => (sj_then (sj_asgG (gs_at (κs := fun s_14 => [some (eX script_1), some (eQ s_14), some (D.int turn_3), some (D.int many_9.1), none, none, none, none, none]) many_9.2 (le_k (le_k (le_k (le_k (le_n (le_n (le_n (le_n (le_n le_0))))))))) (gs_frz (fun s_11 => (eg_call (eg_mv (eS := eQ) s_11 1 rfl (eg_cons (ej_var D.int many_9.1 3 rfl) fun _ => (eg_nil (eg_end1 (κs := fun s_12 => [some (eX script_1), some (eQ s_12), some (D.int turn_3), some (D.int many_9.1), none, none, none, none, none]) (eS := eQ) 1 (ft_law_kin s_11 _) (fun _ => (le_k (le_k (le_k (le_k (le_n (le_n (le_n (le_n (le_n le_0)))))))))))))))))) (fun b => (tg_set 4 (Nat.le_of_ble_eq_true rfl)) b.1) Le.refl) fun kin_here_13 => (sj_seq (sj_ifG (κ' := fun (x_15 : D × (List (List Int))) => [some (eX script_1), some (eQ x_15.1), some (D.int turn_3), some (D.int many_9.1), some ((eT (eT D.int)) x_15.2), none, none, none, none]) (gs_at (κs := fun s_34 => [some (eX script_1), some (eQ s_34), some (D.int turn_3), some (D.int many_9.1), some ((eT (eT D.int)) kin_here_13.1), none, none, none, none]) kin_here_13.2 (le_k (le_k (le_k (le_k (le_k (le_n (le_n (le_n (le_n le_0))))))))) (gs_b (gs_e2 (fun s_16 => (eg_call (eg_mv (eS := eQ) s_16 1 rfl (eg_cons (ej_c D.int 3) fun _ => (eg_nil (eg_end1 (κs := fun s_17 => [some (eX script_1), some (eQ s_17), some (D.int turn_3), some (D.int many_9.1), some ((eT (eT D.int)) kin_here_13.1), none, none, none, none]) (eS := eQ) 1 (ft_draw s_16 _) (fun _ => (le_k (le_k (le_k (le_k (le_k (le_n (le_n (le_n (le_n le_0)))))))))))))))) (gs_p fun s_19 => (ej_c D.int 0)) fun _ _ => (op_eq _ _)))) Le.refl (fun c_20 => (sj_then (sj_asgG (gs_at (κs := fun s_24 => [some (eX script_1), some (eQ s_24), some (D.int turn_3), some (D.int many_9.1), some ((eT (eT D.int)) kin_here_13.1), none, none, none, none]) c_20.2 (le_k (le_k (le_k (le_k (le_k (le_n (le_n (le_n (le_n le_0))))))))) (gs_frz (fun s_21 => (eg_call (eg_mv (eS := eQ) s_21 1 rfl (eg_cons (ej_var D.int many_9.1 3 rfl) fun _ => (eg_nil (eg_end1 (κs := fun s_22 => [some (eX script_1), some (eQ s_22), some (D.int turn_3), some (D.int many_9.1), some ((eT (eT D.int)) kin_here_13.1), none, none, none, none]) (eS := eQ) 1 (ft_draw s_21 _) (fun _ => (le_k (le_k (le_k (le_k (le_k (le_n (le_n (le_n (le_n le_0)))))))))))))))))) (fun b => (tg_set 7 (Nat.le_of_ble_eq_true rfl)) b.1) Le.refl) fun at_23 => (sj_last (t := fun kin_here_32 => (kin_here_32.2, kin_here_32.1)) (sj_asgG (gs_at (κs := fun s_33 => [some (eX script_1), some (eQ s_33), some (D.int turn_3), some (D.int many_9.1), some ((eT (eT D.int)) kin_here_13.1), none, none, some (D.int at_23.1), none]) at_23.2 (le_k (le_k (le_k (le_k (le_k (le_n (le_n (le_k (le_n le_0))))))))) (gs_frz (gs_e2 (gs_e2 (gs_p fun s_25 => (ek_sl (ej_var (eT (eT D.int)) kin_here_13.1 4 rfl) ek_pN (ek_pS (ej_var D.int at_23.1 7 rfl)))) (gk_cons (fun s_26 => (eg_call (eg_mv (eS := eQ) s_26 1 rfl (eg_cons (ej_var (eT (eT D.int)) kin_here_13.1 4 rfl) fun _ => (eg_nil (eg_end1 (κs := fun s_27 => [some (eX script_1), some (eQ s_27), some (D.int turn_3), some (D.int many_9.1), some ((eT (eT D.int)) kin_here_13.1), none, none, some (D.int at_23.1), none]) (eS := eQ) 1 (ft_law_pick s_26 _) (fun _ => (le_k (le_k (le_k (le_k (le_k (le_n (le_n (le_k (le_n le_0)))))))))))))))) fun _ => (gk_nil (gs_p fun _ => (kk_tupH (e := (eT D.int)) [_] rfl rfl)))) fun _ _ => (op_catT _ _)) (gs_p fun s_31 => (ek_sl (ej_var (eT (eT D.int)) kin_here_13.1 4 rfl) (ek_pS (ek_e2v (ej_var D.int at_23.1 7 rfl) (ej_c D.int 1) (op_add _ _))) ek_pN)) fun _ _ => (op_catT _ _)))) (fun b => (tg_set 4 (Nat.le_of_ble_eq_true rfl)) b.1) Le.refl) fun kin_here_32 => (le_k (le_k (le_k (le_k (le_k (le_n (le_n (le_n (le_n le_0)))))))))))) fun c_20 => (sj_next (c_20.2, kin_here_13.1) (le_k (le_k (le_k (le_k (le_k (le_n (le_n (le_n (le_n le_0))))))))))) fun x_15 => (sj_then (sj_asg (ek_frz (eg_call (eg_cons (ej_var (eT (eT D.int)) x_15.2 4 rfl) fun _ => (eg_nil (ek_end (ft_law_least_lots _)))))) (tg_set 5 (Nat.le_of_ble_eq_true rfl)) Le.refl) fun due_35 => (sj_then (sj_asg (eg_call (eg_cons (ej_var (eT (eT D.int)) x_15.2 4 rfl) fun _ => (eg_nil (ek_end (ft_least_lots _))))) (tg_set 6 (Nat.le_of_ble_eq_true rfl)) Le.refl) fun told_36 => (sj_ifD0 (κe := fun _ => []) (ek_tbor' (κb := [some (eX script_1), some (eD x_15.1), some (D.int turn_3), some (D.int many_9.1), some ((eT (eT D.int)) x_15.2), some ((eL (eT D.int)) due_35), some ((eL (eT D.int)) told_36), none, none]) (lf_k (Frz.z (e := eX) (e' := eX) script_1) (lf_k (Frz.z (e := eQ) (e' := eD) x_15.1) (lf_k (Frz.z (e := D.int) (e' := D.int) turn_3) (lf_k (Frz.z (e := D.int) (e' := D.int) many_9.1) (lf_k (Frz.z (e := (eT (eT D.int))) (e' := (eT (eT D.int))) x_15.2) (lf_k (Frz.z (e := (eL (eT D.int))) (e' := (eL (eT D.int))) due_35) (lf_k (Frz.z (e := (eO (eT D.int))) (e' := (eL (eT D.int))) told_36) (lf_n (lf_n lf_0))))))))) (ek_or_v (ek_not (ek_b (ek_inst (b := true) (ej_var (eL (eT D.int)) told_36 6 rfl) fun _ => rfl))) (ek_or_v (ek_b (ek_e2v (ej_var (eL (eT D.int)) told_36 6 rfl) (ej_var (eL (eT D.int)) due_35 5 rfl) (op_neb _ _))) (ek_b (ek_e2v (ek_e2v (ej_var (eL (eT D.int)) due_35 5 rfl) (eg_nil (kk_lstH (e := (eT D.int)) ([] : List (List Int)) rfl rfl)) (op_eqb _ _)) (ek_e2v (eg_nil (kk_tupH (e := D.int) ([] : List Int) rfl rfl)) (ej_var (eT (eT D.int)) x_15.2 4 rfl) (op_inb _ _)) (op_ne _ _)))))) Le.refl (sj_ret (t := fun b => b) (ej_c D.bl false) Le.refl (fun _ => rfl) fun _ => (le_n (le_n (le_n (le_n (le_n (le_n (le_n (le_n (le_n le_0)))))))))) (sj_ifD0 (κe := fun _ => []) (ek_tbor' (κb := [some (eX script_1), some (eD x_15.1), some (D.int turn_3), some (D.int many_9.1), some ((eT (eT D.int)) x_15.2), some ((eL (eT D.int)) due_35), some ((eL (eT D.int)) told_36), none, none]) (lf_k (Frz.z (e := eX) (e' := eX) script_1) (lf_k (Frz.z (e := eQ) (e' := eD) x_15.1) (lf_k (Frz.z (e := D.int) (e' := D.int) turn_3) (lf_k (Frz.z (e := D.int) (e' := D.int) many_9.1) (lf_k (Frz.z (e := (eT (eT D.int))) (e' := (eT (eT D.int))) x_15.2) (lf_k (Frz.z (e := (eL (eT D.int))) (e' := (eL (eT D.int))) due_35) (lf_k (Frz.z (e := (eO (eT D.int))) (e' := (eL (eT D.int))) told_36) (lf_n (lf_n lf_0))))))))) (ek_not (ek_b (eg_cons (ek_lcM rfl rfl (ek_seq (ej_var (eL (eT D.int)) told_36 6 rfl)) (tg_set 8 (Nat.le_of_ble_eq_true rfl)) (fun _ => (le_k (le_k (le_k (le_k (le_k (le_k (le_k (le_n (le_n le_0)))))))))) fun lot_37 => (ek_inst (b := true) (ej_var (eT D.int) lot_37 8 rfl) fun _ => rfl)) fun _ => (eg_nil (ek_opl (bi_all _))))))) Le.refl (sj_ret (t := fun b => b) (ej_c D.bl false) Le.refl (fun _ => rfl) fun _ => (le_n (le_n (le_n (le_n (le_n (le_n (le_n (le_n (le_n le_0)))))))))) (sj_then (sj_appF (e := (eT D.int)) (e2 := eN) (xs := told_36) rfl (ej_c eN ())) fun u_41 => (sj_if (κ' := fun (x_42 : D) => [some (eX script_1), some (eQ x_42), none, none, none, none, none, none, none]) (ek_b (ek_e2r (eg_call (eg_cons (ej_var (eT (eT D.int)) x_15.2 4 rfl) fun _ => (eg_nil (ek_end (ft_least_lots _))))) (ej_var (eL (eT D.int)) due_35 5 rfl) fun _ => (op_neb _ _))) Le.refl (sj_ret (t := fun b => b) (ej_c D.bl false) Le.refl (fun _ => rfl) fun _ => (le_n (le_n (le_n (le_n (le_n (le_n (le_n (le_n (le_n le_0)))))))))) (sj_next x_15.1 (le_k (le_k (le_n (le_n (le_n (le_n (le_n (le_n (le_n le_0)))))))))))))))))))) fun x_46 => (sj_ret (t := fun b => b) (ej_c D.bl true) Le.refl (fun _ => rfl) fun _ => (le_n (le_n (le_n (le_n (le_n (le_n (le_n (le_n (le_n le_0))))))))))))
 rfl (Nat.le_of_ble_eq_true rfl) (fun _ => rfl) rfl (fun _ => rfl) (fun _ _ h => nomatch h) (fun _ => .inr rfl))
  delta t_law
  delta lp_law_1
  simp only [id_eq, nf_bind, nf_st, nf_noX, nf_to, nf_nx, nf_vret, nf_vexc, nf_vbrk, nf_vcnt]
end Lk62
end

set_option Elab.async false
set_option linter.all false
set_option maxRecDepth 100000
set_option maxHeartbeats 2000000
namespace Lk62
open PySem PySem.Spec L2 DL
def hasS (lot o : List Int) : Bool := lot.any fun m => decide (m ∈ o)
def meets (lot : List Int) (kin : List (List Int)) : Bool := kin.all fun o => hasS lot o
def wo (lot : List Int) (m : Int) : List Int := lot.filter fun x => !decide (x = m)
def lots : Nat → List (List Int)
  | 0 => [[]]
  | n + 1 => lots n ++ (lots n).map fun l => l ++ [(n : Int)]
theorem lots_len : ∀ n, (lots n).length = 2 ^ n
  | 0 => rfl
  | n + 1 => by
    show (lots n ++ (lots n).map _).length = _
    rw [List.length_append, List.length_map, lots_len n, Nat.pow_succ]; omega
theorem lots_short : ∀ n, ∀ l ∈ lots n, l.length ≤ n
  | 0, l, h => by rw [List.mem_singleton.mp h]; simp
  | n + 1, l, h => by
    rcases List.mem_append.mp h with h | h
    · exact Nat.le_succ_of_le (lots_short n l h)
    · obtain ⟨q, hq, rfl⟩ := List.mem_map.mp h
      have := lots_short n q hq
      simp only [List.length_append, List.length_singleton]
      omega
/-! the plain law of lots -/
structure Lot (n : Nat) (l : List Int) : Prop where
  s : l.Pairwise (· < ·)
  b : ∀ x ∈ l, 0 ≤ x ∧ x < (n : Int)
theorem lots_lot : ∀ (n : Nat) (l : List Int), l ∈ lots n → Lot n l
  | 0, l, h => by
    rw [List.mem_singleton.mp h]
    exact ⟨.nil, fun x hx => by cases hx⟩
  | n + 1, l, h => by
    rcases List.mem_append.mp h with h | h
    · have q := lots_lot n l h
      exact ⟨q.s, fun x hx => by have := q.b x hx; omega⟩
    · obtain ⟨r, hr, rfl⟩ := List.mem_map.mp h
      have q := lots_lot n r hr
      refine ⟨List.pairwise_append.mpr ⟨q.s, List.pairwise_singleton _ _, fun a ha b hb => ?_⟩, fun x hx => ?_⟩
      · rw [List.mem_singleton.mp hb]; exact (q.b a ha).2
      · rcases List.mem_append.mp hx with hx | hx
        · have := q.b x hx; omega
        · rw [List.mem_singleton.mp hx]; omega
theorem lot_lots : ∀ (n : Nat) (l : List Int), Lot n l → l ∈ lots n
  | 0, l, h => by
    cases l with
    | nil => exact List.mem_singleton.mpr rfl
    | cons x l => have := h.b x List.mem_cons_self; omega
  | n + 1, l, h => by
    refine List.mem_append.mpr ?_
    rcases List.eq_nil_or_concat l with rfl | ⟨r, x, rfl⟩
    · exact .inl (lot_lots n [] ⟨.nil, fun x hx => by cases hx⟩)
    · rw [List.concat_eq_append] at h ⊢
      have hs := List.pairwise_append.mp h.s
      have hx := h.b x (List.mem_append_right _ (List.mem_singleton.mpr rfl))
      by_cases e : x = (n : Int)
      · refine .inr (List.mem_map.mpr ⟨r, lot_lots n r ⟨hs.1, fun y hy => ?_⟩, by rw [e]⟩)
        have h1 := h.b y (List.mem_append_left _ hy)
        have h2 := hs.2.2 y hy x (List.mem_singleton.mpr rfl)
        omega
      · refine .inl (lot_lots n _ ⟨h.s, fun y hy => ?_⟩)
        have h1 := h.b y hy
        rcases List.mem_append.mp hy with hy | hy
        · have h2 := hs.2.2 y hy x (List.mem_singleton.mpr rfl)
          omega
        · rw [List.mem_singleton.mp hy]; omega
theorem lots_nodup : ∀ n, (lots n).Nodup
  | 0 => List.nodup_cons.mpr ⟨(fun z => by cases z), .nil⟩
  | n + 1 => by
    refine List.nodup_append.mpr ⟨lots_nodup n, ?_, fun a ha b hb e => ?_⟩
    · refine List.Pairwise.map _ (fun a b h q => h ?_) (lots_nodup n)
      exact List.append_cancel_right q
    · obtain ⟨r, hr, rfl⟩ := List.mem_map.mp hb
      have := (lots_lot n a ha).b (n : Int) (by rw [e]; exact List.mem_append_right _ (List.mem_singleton.mpr rfl))
      omega
theorem Lot.nodup {n : Nat} {l : List Int} (h : Lot n l) : l.Nodup := h.s.imp fun q e => by rw [e] at q; exact absurd q (Int.lt_irrefl _)
theorem Lot.wo {n : Nat} {l : List Int} (h : Lot n l) (m : Int) : Lot n (@Lk62.wo l m) := ⟨h.s.filter _, fun x hx => h.b x (List.mem_filter.mp hx).1⟩
def sp (l : List Int) (i : Nat) : List Int := l.take i ++ l.drop (i + 1)
def spared (l : List Int) : List (List Int) := (List.range l.length).map (sp l)
theorem sp_wo {l : List Int} (h : l.Nodup) {i : Nat} (hi : i < l.length) : sp l i = wo l l[i] := by
  have e : l = l.take i ++ l[i] :: l.drop (i + 1) := by rw [← List.drop_eq_getElem_cons hi, List.take_append_drop]
  have hn : (l.take i ++ l[i] :: l.drop (i + 1)).Nodup := by rw [← e]; exact h
  obtain ⟨n1, n2, n3⟩ := List.nodup_append.mp hn
  have n4 := List.nodup_cons.mp n2
  have key : ∀ (a b : List Int) (x : Int), (∀ y ∈ a, y ≠ x) → x ∉ b → (a ++ x :: b).filter (fun y => !decide (y = x)) = a ++ b := by
    intro a b x ha hb
    rw [List.filter_append, List.filter_cons_of_neg (by simp)]
    congr 1
    · exact List.filter_eq_self.mpr fun y hy => by simp [ha y hy]
    · exact List.filter_eq_self.mpr fun y hy => by
        have : y ≠ x := fun q => hb (q ▸ hy)
        simp [this]
  have k := key (l.take i) (l.drop (i + 1)) l[i] (fun y hy => n3 y hy _ List.mem_cons_self) n4.1
  rw [← e] at k
  exact k.symm
theorem spared_any {l : List Int} (h : l.Nodup) (P : List Int → Bool) : (spared l).any P = l.any fun m => P (wo l m) := by
  have e : spared l = l.map (wo l) := by
    unfold spared
    refine List.ext_getElem (by simp) fun i h1 h2 => ?_
    have hi : i < l.length := by simpa using h2
    rw [List.getElem_map, List.getElem_map, List.getElem_range]
    exact sp_wo h hi
  rw [e, List.any_map]
  rfl
def least (n : Nat) (kin : List (List Int)) : List (List Int) := (lots n).filter fun l => meets l kin && !(l.any fun m => meets (wo l m) kin)
def hits (n : Nat) (kin : List (List Int)) : List (List Int) := (lots n).filter fun l => meets l kin
def least2 (n : Nat) (kin : List (List Int)) : List (List Int) := (hits n kin).filter fun l => !((spared l).any fun q => decide (q ∈ hits n kin))
theorem mem_hits {n : Nat} {kin : List (List Int)} {q : List Int} (h : Lot n q) : decide (q ∈ hits n kin) = meets q kin := by
  unfold hits
  cases e : meets q kin with
  | true => exact decide_eq_true (List.mem_filter.mpr ⟨lot_lots n q h, e⟩)
  | false => exact decide_eq_false fun z => by rw [(List.mem_filter.mp z).2] at e; cases e
theorem least_eq (n : Nat) (kin : List (List Int)) : least2 n kin = least n kin := by
  have e : (hits n kin).filter (fun l => !((spared l).any fun q => decide (q ∈ hits n kin))) = (lots n).filter fun l => !((spared l).any fun q => decide (q ∈ hits n kin)) && meets l kin := by
    show ((lots n).filter _).filter _ = _
    rw [List.filter_filter]
  unfold least2 least
  rw [e]
  refine List.filter_congr fun l hl => ?_
  have h := lots_lot n l hl
  rw [spared_any h.nodup, Bool.and_comm]
  have e2 : (l.any fun m => decide (wo l m ∈ hits n kin)) = l.any fun m => meets (wo l m) kin := by
    congr 1
    funext m
    exact mem_hits (h.wo m)
  rw [e2]
theorem meets_nil {kin : List (List Int)} (h : kin ≠ []) : meets [] kin = false := by
  cases kin with
  | nil => exact absurd rfl h
  | cons o kin => rfl
theorem least_ne {n : Nat} {kin : List (List Int)} (h : kin ≠ []) : ∀ l ∈ least n kin, l ≠ [] := fun l hl e => by
  have := (List.mem_filter.mp hl).2
  rw [e, meets_nil h] at this
  cases this
theorem least_nil {n : Nat} {kin : List (List Int)} (h : [] ∈ kin) : least n kin = [] := by
  refine List.filter_eq_nil_iff.mpr fun l _ => ?_
  have e : meets l kin = false := by
    refine Bool.eq_false_iff.mpr fun z => ?_
    have := List.all_eq_true.mp z [] h
    obtain ⟨m, _, hm⟩ := List.any_eq_true.mp this
    exact absurd (of_decide_eq_true hm) (fun q => by cases q)
  rw [e]
  exact Bool.false_ne_true
theorem wo_len {l : List Int} {m : Int} (h : m ∈ l) : (wo l m).length < l.length := by
  unfold wo
  rcases Nat.lt_or_eq_of_le (List.length_filter_le (fun x => !decide (x = m)) l) with q | q
  · exact q
  · have := List.length_filter_eq_length_iff.mp q m h
    simp at this
theorem least_some {n : Nat} {kin : List (List Int)} : ∀ (k : Nat) (l : List Int), l.length ≤ k → Lot n l → meets l kin = true → ∃ q, q ∈ least n kin
  | k, l, hk, h, hm => by
    by_cases c : (l.any fun m => meets (wo l m) kin) = true
    · obtain ⟨m, h1, h2⟩ := List.any_eq_true.mp c
      have := wo_len h1
      cases k with
      | zero => omega
      | succ k => exact least_some k (wo l m) (by omega) (h.wo m) h2
    · exact ⟨l, List.mem_filter.mpr ⟨lot_lots n l h, by rw [hm, Bool.eq_false_iff.mpr c]; rfl⟩⟩
theorem full_lot (n : Nat) : Lot n ((List.range n).map fun i : Nat => (i : Int)) := by
  refine ⟨List.Pairwise.map _ (fun a b h => Int.ofNat_lt.mpr h) List.pairwise_lt_range, fun x hx => ?_⟩
  obtain ⟨i, hi, rfl⟩ := List.mem_map.mp hx
  have := List.mem_range.mp hi
  omega
theorem least_iff {n : Nat} {kin : List (List Int)} (hk : ∀ o ∈ kin, Lot n o) : least n kin = [] ↔ [] ∈ kin := by
  refine ⟨fun h => Classical.byContradiction fun c => ?_, least_nil⟩
  have hm : meets ((List.range n).map fun i : Nat => (i : Int)) kin = true := by
    refine List.all_eq_true.mpr fun o ho => ?_
    cases o with
    | nil => exact absurd ho c
    | cons x o =>
      have hb := (hk _ ho).b x List.mem_cons_self
      refine List.any_eq_true.mpr ⟨x, List.mem_map.mpr ⟨x.toNat, List.mem_range.mpr (by omega), by omega⟩, decide_eq_true List.mem_cons_self⟩
  obtain ⟨q, hq⟩ := least_some _ _ (Nat.le_refl _) (full_lot n) hm
  rw [h] at hq
  cases hq
theorem isort_nil {ls : List (List Int)} : isortL ls = [] ↔ ls = [] := by
  have h := (isortL_perm ls).length_eq
  refine ⟨fun e => ?_, fun e => by rw [e]; rfl⟩
  rw [e] at h
  exact List.length_eq_zero_iff.mp h.symm
end Lk62

set_option Elab.async false
set_option linter.all false
set_option maxRecDepth 100000
set_option maxHeartbeats 2000000
namespace Lk62
open PySem PySem.Spec L2 DL
/-! the typed defs come to the plain ones -/
theorem draw_w {B : Int} {s : D} {m : Int} (hs : Pool B s) (hB : B < 2 ^ 40) (hm : 0 < m) (hm2 : m < 2 ^ 60) : W (drawT s m) fun q => 0 ≤ q.1 ∧ q.1 < m ∧ Pool (B + 1) q.2 := by
  obtain ⟨r, s', e, h1, h2, h3⟩ := draw_ok hs hB hm hm2
  refine ⟨(r, s'), ?_, h1, h2, h3⟩
  unfold drawT
  rw [e]
  rfl
theorem pool_w {ns : List Int} (hl : ns.length ≤ 63) : W (poolT ns) (Pool 0) := by
  obtain ⟨s, e, h⟩ := pool_ok hl
  refine ⟨s, ?_, h⟩
  unfold poolT
  rw [e]
  rfl
theorem pow8 {n : Nat} (h : n ≤ 8) : 2 ^ n ≤ 256 := Nat.le_trans (Nat.pow_le_pow_right (by decide) h) (by decide)
theorem all_lots_w {n : Nat} (h : n ≤ 8) : t_all_lots n = .ok (lots n) := by
  refine W.eq ?_
  unfold t_all_lots
  refine W.fin ?_
  dsimp only
  refine WO.bind (P := (· = lots n)) (WO.to (W.is (rg1T_ok (by omega))) fun xs hx => ?_) fun x hx => WO.ret hx
  subst hx
  refine WO.for (fun p x => x = lots p.length) rfl (fun p b q e x hx => ?_) fun x hx => by rw [hx, rng_len, show ((n : Int) - 0).toNat = n by omega]
  obtain ⟨rfl, hp⟩ := rng_split e
  subst hx
  have hl := lots_len p.length
  have := pow8 (n := p.length) (by omega)
  unfold lp_all_lots_1
  have e1 : lcM (fun lot_5 => catT lot_5 [((p.length : Nat) : Int)]) (lots p.length) = .ok ((lots p.length).map fun l => l ++ [((p.length : Nat) : Int)]) := lcM_ok (by omega) fun l hl => catT_ok (by have := lots_short _ l hl; simp; omega)
  have e2 : catT (lots p.length) ((lots p.length).map fun l => l ++ [((p.length : Nat) : Int)]) = .ok (lots (p.length + 1)) := catT_ok (by simp; omega)
  rw [e1, nf_bind, e2, nf_to]
  refine WO.nx ?_
  show lots (p.length + 1) = lots (p ++ [((p.length : Nat) : Int)]).length
  simp
theorem law_lots_w {n : Nat} (h : n ≤ 8) : t_law_all_lots n = .ok (lots n) := by
  have := all_lots_w h
  unfold t_all_lots at this
  unfold t_law_all_lots
  exact this
theorem has_w {l : List Int} (o : List Int) (h : l.length ≤ 1000) : t_has_some l o = .ok (hasS l o) := by
  unfold t_has_some
  rw [lcM_ok (g := fun m => decide (m ∈ o)) (by omega) fun _ _ => rfl, nf_bind, any_map]
  rfl
theorem meets_w {l : List Int} {kin : List (List Int)} (h : l.length ≤ 1000) (hk : kin.length ≤ 1000) : t_meets_all l kin = .ok (meets l kin) := by
  unfold t_meets_all
  rw [lcM_ok (g := fun o => hasS l o) (by omega) fun o _ => has_w o h, nf_bind, all_map]
  rfl
theorem without_w {l : List Int} (m : Int) (h : l.length ≤ 1000) : t_without l m = .ok (wo l m) := by
  unfold t_without
  rw [lcX_ok (p := fun x => !decide (x = m)) (g := fun x => x) (by omega) (fun _ _ => rfl) fun _ _ _ => rfl, nf_bind, List.map_id']
  rfl
theorem wo_le (l : List Int) (m : Int) : (wo l m).length ≤ l.length := List.length_filter_le _ _
theorem least_w {kin : List (List Int)} (h0 : kin ≠ []) (h8 : kin.length ≤ 8) : t_least_of kin = .ok (isortL (least kin.length kin)) := by
  refine W.eq ?_
  unfold t_least_of
  refine W.fin ?_
  dsimp only
  refine WO.bind (P := (· = least kin.length kin)) (WO.to (W.is (all_lots_w h8)) fun xs hx => ?_) fun x hx => WO.to (W.is (sortT_ok (by rw [hx]; exact least_ne h0))) fun y hy => WO.ret (by rw [hy, hx])
  subst hx
  refine WO.for_filter _ fun l hl ys hy => ?_
  have h1 := lots_short _ l hl
  rw [lots_len] at hy
  have := pow8 h8
  unfold lp_least_of_1
  rw [meets_w (by omega) (by omega), nf_bind]
  have e1 : lcM (fun m => (t_without l m).bind fun a => t_meets_all a kin) l = .ok (l.map fun m => meets (wo l m) kin) := lcM_ok (by omega) fun m _ => by
    rw [without_w m (by omega), nf_bind]
    exact meets_w (by have := wo_le l m; omega) (by omega)
  cases hm : meets l kin with
  | true =>
    rw [if_pos rfl, e1, nf_bind, any_map, nf_bind, nf_to, Bool.true_and]
    cases hw : (l.any fun m => meets (wo l m) kin) with
    | true => rfl
    | false =>
      rw [if_pos (show (!false) = true from rfl), appT_ok (by omega), nf_to]
      rfl
  | false =>
    rw [if_neg Bool.false_ne_true, nf_to, Bool.false_and]
    rfl
theorem many_w {n : Int} (h : 1 ≤ n ∧ n ≤ 8) : t_is_many n = .ok true := by
  unfold t_is_many t_is_within t_is_integer
  rw [nf_bind]
  simp [h]
theorem lot_w {n : Nat} {l : List Int} (h : Lot n l) : t_is_lot l n = .ok true := by
  refine W.eq ?_
  unfold t_is_lot
  refine W.fin ?_
  rw [if_neg (by decide)]
  dsimp only
  refine WO.bind (P := fun _ => True) (WO.for (fun p x => (p = [] ∧ x = -1) ∨ ∃ r, p = r ++ [x]) (.inl ⟨rfl, rfl⟩) (fun p b q e x hx => ?_) fun _ _ => trivial) fun _ _ => WO.ret rfl
  have hb := h.b b (by rw [e]; simp)
  have hx2 : x + 1 ≤ b := by
    rcases hx with ⟨rfl, rfl⟩ | ⟨r, rfl⟩
    · omega
    · have hs := h.s
      rw [e] at hs
      have := (List.pairwise_append.mp hs).2.2 x (by simp) b (by simp)
      omega
  unfold lp_is_lot_1 t_is_within t_is_integer
  rw [nf_bind, nf_bind, nf_to]
  have e2 : ((true && !false) && (decide (x + 1 ≤ b) && decide (b ≤ (n : Int) - 1))) = true := by
    simp
    omega
  rw [e2, if_neg (by decide)]
  exact WO.nx (.inr ⟨p, rfl⟩)
theorem kin_w {kin : List (List Int)} (h8 : kin.length ≤ 8) (hk : ∀ o ∈ kin, Lot kin.length o) : t_is_kin kin.length kin = .ok true := by
  unfold t_is_kin t_is_table
  rw [nf_bind]
  simp only [decide_true, Bool.and_self, if_true]
  rw [lcM_ok (g := fun _ => true) (by omega) fun o ho => lot_w (hk o ho), nf_bind, all_map]
  simp
theorem least_lots_w {kin : List (List Int)} (h0 : kin ≠ []) (h8 : kin.length ≤ 8) (hk : ∀ o ∈ kin, Lot kin.length o) : t_least_lots kin = .ok (isortL (least kin.length kin)) := by
  refine W.eq ?_
  unfold t_least_lots
  refine W.fin ?_
  have : 0 < kin.length := List.length_pos_iff.mpr h0
  rw [if_neg (by decide), many_w (by omega), nf_bind, nf_bind, if_neg (by decide), kin_w h8 hk, nf_bind, nf_to, if_neg (by decide), least_w h0 h8, nf_to]
  exact WO.ret rfl
theorem law_least_w {kin : List (List Int)} (h0 : kin ≠ []) (h8 : kin.length ≤ 8) : t_law_least_lots kin = .ok (isortL (least kin.length kin)) := by
  refine W.eq ?_
  unfold t_law_least_lots
  refine W.fin ?_
  dsimp only
  have h256 := pow8 h8
  have hlen := lots_len kin.length
  refine WO.bind (P := fun x => x = (hits kin.length kin).map fun l => (l, true)) (WO.to (W.is (law_lots_w h8)) fun xs hx => ?_) fun x hx => ?_
  · subst hx
    refine WO.for (fun p x => x = (p.filter fun l => meets l kin).map fun l => (l, true)) rfl (fun p b q e x hx => ?_) fun x hx => hx
    have hb := lots_short _ b (by rw [e]; simp)
    have hpl : p.length ≤ 256 := by have := congrArg List.length e; rw [List.length_append, hlen] at this; omega
    subst hx
    unfold lp_law_least_lots_1
    rw [lcM_ok (g := fun o => hasS b o) (by omega) fun o _ => by rw [lcM_ok (g := fun m => decide (m ∈ o)) (by omega) fun _ _ => rfl, nf_bind, any_map]; rfl, nf_bind, all_map, nf_to, filter_snoc]
    change WO (if meets b kin = true then _ else _) _ _
    cases hm : meets b kin with
    | true =>
      rw [if_pos rfl, if_pos rfl]
      have hn : b ∉ ((p.filter fun l => meets l kin).map fun l => (l, true)).map Prod.fst := by
        rw [List.map_map]
        intro z
        obtain ⟨r, hr, rfl⟩ := List.mem_map.mp z
        have nd := lots_nodup kin.length
        rw [e] at nd
        exact (List.nodup_append.mp nd).2.2 r (List.mem_filter.mp hr).1 r List.mem_cons_self rfl
      have e2 : dputT ((p.filter fun l => meets l kin).map fun l => (l, true)) b true = .ok (((p.filter fun l => meets l kin).map fun l => (l, true)) ++ [(b, true)]) := by
        unfold dputT
        rw [if_pos (size_ok (by rw [List.length_map]; have := List.length_filter_le (fun l => meets l kin) p; omega))]
        unfold putA
        rw [if_neg hn]
      rw [e2, nf_to]
      exact WO.nx (by rw [List.map_append]; rfl)
    | false =>
      rw [if_neg Bool.false_ne_true, if_neg Bool.false_ne_true]
      exact WO.nx rfl
  · subst hx
    have ek : ((hits kin.length kin).map fun l => (l, true)).map Prod.fst = hits kin.length kin := by rw [List.map_map]; exact List.map_id _
    have hh : (hits kin.length kin).length ≤ 256 := by have := List.length_filter_le (fun l => meets l kin) (lots kin.length); unfold hits; omega
    rw [ek]
    refine WO.bind (P := (· = least2 kin.length kin)) (WO.onlyNx (WO.for_filter _ fun l hl ys hy => ?_)) fun x hx => WO.to (W.is (sortT_ok (by rw [hx, least_eq]; exact least_ne h0))) fun y hy => WO.ret (by rw [hy, hx, least_eq])
    have h1 := lots_short _ l (List.mem_filter.mp hl).1
    unfold lp_law_least_lots_2
    rw [rg1T_ok (by omega), nf_bind, rng_nat]
    have e1 : lcM (fun at_17 => catT (slT l none (some at_17)) (slT l (some (at_17 + 1)) none)) ((List.range l.length).map fun i : Nat => (i : Int)) = .ok (spared l) := by
      rw [lcM_ok (g := fun a => sp l a.toNat) (by simp; omega) fun a ha => ?_]
      · congr 1
        unfold spared
        rw [List.map_map]
        exact List.map_congr_left fun i _ => rfl
      · obtain ⟨i, hi, rfl⟩ := List.mem_map.mp ha
        have hi := List.mem_range.mp hi
        rw [sl_to l (n := i) (by omega), show ((i : Int) + 1) = ((i + 1 : Nat) : Int) by omega, sl_from l (n := i + 1) (by omega), catT_ok (by simp; omega)]
        rfl
    rw [e1, nf_to]
    have hsl : (spared l).length = l.length := by unfold spared; simp
    rw [lcM_ok (g := fun q => decide (q ∈ hits kin.length kin)) (by omega) fun q _ => by unfold hasA; rw [ek], nf_bind, any_map, nf_bind, nf_to]
    cases hc : ((spared l).any fun q => decide (q ∈ hits kin.length kin)) with
    | true => rfl
    | false =>
      rw [if_pos (show (!false) = true from rfl), appT_ok (by omega), nf_to]
      rfl
/-! kin drawn -/
theorem lot_one {n : Nat} {m : Int} (h : 0 ≤ m ∧ m < n) : Lot n [m] := ⟨List.pairwise_singleton _ _, fun x hx => by rw [List.mem_singleton.mp hx]; exact h⟩
theorem lot_sub {n : Nat} {l : List Int} (h : l.Sublist (rng 0 n)) : Lot n l := ⟨(rng_lt 0 n).sublist h, fun x hx => rng_mem.mp (h.subset hx)⟩
theorem lawkin_w {B : Int} {s : D} {n : Nat} (hs : Pool B s) (hB : B < 2 ^ 30) (h1 : 1 ≤ n) (h8 : n ≤ 8) : W (t_law_kin s n) fun r => r.1.length = n ∧ (∀ o ∈ r.1, Lot n o) ∧ Pool (B + 1000) r.2 := by
  unfold t_law_kin
  refine W.fin (WO.to (draw_w hs (by omega) (by omega) (by omega)) ?_)
  rintro ⟨style, s1⟩ ⟨hst, hst6, hs1⟩
  dsimp only at hst hst6 hs1 ⊢
  refine WO.bind (P := fun x => x.2.length = n ∧ (∀ o ∈ x.2, Lot n o) ∧ Pool (B + 1000) x.1) (WO.to (W.is (rg1T_ok (by omega))) fun xs hx => ?_) fun x hx => WO.ret hx
  subst hx
  have hrl : (rng 0 (n : Int)).length = n := by rw [rng_len]; omega
  refine WO.for_n (fun (i : Nat) (x : D × List (List Int)) => x.2.length = i ∧ (∀ o ∈ x.2, Lot n o) ∧ Pool (B + 1 + 20 * i) x.1) ⟨rfl, (fun _ h => by cases h), by simpa using hs1⟩ (fun m hm i hi x hx => ?_) fun x hx => ?_
  · have hm := rng_mem.mp hm
    obtain ⟨hx1, hx2, hx3⟩ := hx
    rw [hrl] at hi
    unfold lp_law_kin_1
    dsimp only
    refine WO.bind (P := fun y => Lot n y.2 ∧ Pool (B + 1 + 20 * i + 20) y.1) ?_ fun y hy => ?_
    · refine WO.if_ (fun h => ?_) fun h => WO.if_ (fun h3 => ?_) fun h3 => WO.nx ⟨lot_one hm, hx3.mono (by omega)⟩
      · rw [rg1T_ok (by omega), nf_bind, lcX_ok (p := fun o => decide (m - 1 ≤ o) && decide (o ≤ m + 1)) (g := fun o => o) (by rw [hrl]; omega) (fun _ _ => rfl) (fun _ _ _ => rfl), nf_to, List.map_id']
        exact WO.nx ⟨lot_sub List.filter_sublist, hx3.mono (by omega)⟩
      · have h3 := of_decide_eq_true h3
        refine WO.to (P := fun z => Lot n z.1 ∧ Pool (B + 1 + 20 * i + n) z.2) ?_ ?_
        · rw [rg1T_ok (by omega), nf_st, nf_bind]
          refine (lcS_sub (fun j s => Pool (B + 1 + 20 * i + j) s) (by rw [hrl]; omega) (by simpa using hx3) fun a ha j hj s hs => ?_).mono fun r hr => ⟨lot_sub hr.1, by have := hr.2; rw [hrl] at this; exact this⟩
          rw [hrl] at hj
          refine W.bind (draw_w hs (by omega) (by omega) (by omega)) fun q hq => W.ok ?_
          exact hq.2.2.mono (by omega)
        · rintro ⟨lot, s2⟩ ⟨hl, hs2⟩
          dsimp only at hl hs2 ⊢
          refine WO.to (P := fun c => Pool (B + 1 + 20 * i + n + 1) c.2) ?_ ?_
          · refine W.if_ (fun _ => ?_) fun _ => W.ok (hs2.mono (by omega))
            exact W.bind (draw_w hs2 (by omega) (by omega) (by omega)) fun q hq => W.ok hq.2.2
          · rintro ⟨c, s3⟩ hs3
            dsimp only at hs3 ⊢
            refine WO.if_ (fun _ => ?_) fun _ => WO.nx ⟨hl, hs3.mono (by omega)⟩
            refine WO.to (P := fun z => Lot n z.1 ∧ Pool (B + 1 + 20 * i + n + 2) z.2) (W.bind (draw_w hs3 (by omega) (by omega) (by omega)) fun q hq => W.ok ⟨lot_one ⟨hq.1, hq.2.1⟩, hq.2.2.mono (by omega)⟩) fun z hz => WO.nx ⟨hz.1, hz.2.mono (by omega)⟩
    · rw [appT_ok (by omega), nf_to]
      refine WO.nx ⟨by simp [hx1], fun o ho => ?_, hy.2.mono (by omega)⟩
      rcases List.mem_append.mp ho with ho | ho
      · exact hx2 o ho
      · rw [List.mem_singleton.mp ho]; exact hy.1
  · rw [hrl] at hx
    exact ⟨hx.1, hx.2.1, hx.2.2.mono (by omega)⟩
theorem pick_w {B : Int} {s : D} {ls : List (List Int)} (hs : Pool B s) (hB : B < 2 ^ 30) (h1 : 1 ≤ ls.length) (h2 : ls.length ≤ 1000) : W (t_law_pick s ls) fun r => r.1 ∈ ls ∧ Pool (B + 1) r.2 := by
  unfold t_law_pick
  refine W.fin (WO.to (P := fun r => r.1 ∈ ls ∧ Pool (B + 1) r.2) (W.bind (draw_w hs (by omega) (by omega) (by omega)) ?_) fun r hr => WO.ret hr)
  rintro ⟨i, s1⟩ ⟨h3, h4, h5⟩
  dsimp only at h3 h4 h5 ⊢
  rw [ixT_int h3 h4, nf_st]
  exact W.ok ⟨List.getElem_mem _, h5⟩
/-! the law -/
theorem turn_w {B : Int} {s : D} (hs : Pool B s) (hB : B < 2 ^ 20) (t : Int) : WO (lp_law_1 t s) (Pool (B + 2000)) (· = true) := by
  unfold lp_law_1
  refine WO.to (P := fun r => (∃ n : Nat, r.1 = n ∧ 1 ≤ n ∧ n ≤ 8) ∧ Pool (B + 1) r.2) (W.bind (draw_w hs (by omega) (by omega) (by omega)) fun q hq => W.ok ⟨⟨(1 + q.1).toNat, by omega, by omega, by omega⟩, hq.2.2⟩) ?_
  rintro ⟨_, s1⟩ ⟨⟨n, rfl, h1, h8⟩, hs1⟩
  dsimp only at hs1 ⊢
  refine WO.to (lawkin_w hs1 (by omega) h1 h8) ?_
  rintro ⟨kin, s2⟩ ⟨hk1, hk2, hs2⟩
  dsimp only at hk1 hk2 hs2 ⊢
  refine WO.bind (P := fun x => x.2.length = n ∧ (∀ o ∈ x.2, Lot n o) ∧ Pool (B + 1 + 1000 + 3) x.1) ?_ ?_
  · refine WO.to (P := fun c => Pool (B + 1 + 1000 + 1) c.2) (W.bind (draw_w hs2 (by omega) (by omega) (by omega)) fun q hq => W.ok hq.2.2) ?_
    rintro ⟨c, s3⟩ hs3
    dsimp only at hs3 ⊢
    refine WO.if_ (fun _ => ?_) fun _ => WO.nx ⟨hk1, hk2, hs3.mono (by omega)⟩
    refine WO.to (draw_w hs3 (by omega) (by omega) (by omega)) ?_
    rintro ⟨a, s4⟩ ⟨ha1, ha2, hs4⟩
    dsimp only at ha1 ha2 hs4 ⊢
    obtain ⟨a, rfl⟩ := Int.eq_ofNat_of_zero_le ha1
    refine WO.to (P := fun x => x.1.length = n ∧ (∀ o ∈ x.1, Lot n o) ∧ Pool (B + 1 + 1000 + 3) x.2) ?_ fun z hz => WO.nx hz
    refine W.bind (P := fun z => (∃ o ∈ kin, z.1 = kin.take a ++ [o]) ∧ Pool (B + 1 + 1000 + 3) z.2) ?_ ?_
    · refine W.bind (P := fun z => (∃ o ∈ kin, z.1 = [o]) ∧ Pool (B + 1 + 1000 + 3) z.2) (W.bind (pick_w hs4 (by omega) (by omega) (by omega)) fun q hq => W.ok ⟨⟨q.1, hq.1, rfl⟩, hq.2.mono (by omega)⟩) ?_
      rintro ⟨z, s5⟩ ⟨⟨o, ho, rfl⟩, hs5⟩
      dsimp only at hs5 ⊢
      rw [sl_to kin (n := a) (by omega), catT_ok (by simp; omega), nf_st]
      exact W.ok ⟨⟨o, ho, rfl⟩, hs5⟩
    · rintro ⟨z, s5⟩ ⟨⟨o, ho, rfl⟩, hs5⟩
      dsimp only at hs5 ⊢
      rw [show ((a : Int) + 1) = ((a + 1 : Nat) : Int) by omega, sl_from kin (n := a + 1) (by omega), catT_ok (by simp; omega), nf_st]
      refine W.ok ⟨by simp; omega, fun q hq => ?_, hs5⟩
      rcases List.mem_append.mp hq with hq | hq
      · rcases List.mem_append.mp hq with hq | hq
        · exact hk2 q (List.mem_of_mem_take hq)
        · rw [List.mem_singleton.mp hq]; exact hk2 o ho
      · exact hk2 q (List.mem_of_mem_drop hq)
  · rintro ⟨s6, kin⟩ ⟨hk1, hk2, hs6⟩
    dsimp only at hk1 hk2 hs6 ⊢
    have h0 : kin ≠ [] := fun e => by rw [e] at hk1; simp at hk1; omega
    rw [← hk1] at hk2
    have e1 := least_lots_w h0 (by omega) hk2
    rw [law_least_w h0 (by omega), nf_to, e1, nf_to]
    have hL : (isortL (least kin.length kin)).length ≤ 256 := by
      have := (isortL_perm (least kin.length kin)).length_eq
      have h2 := List.length_filter_le (fun l => meets l kin && !(l.any fun m => meets (wo l m) kin)) (lots kin.length)
      have h3 := pow8 (n := kin.length) (by omega)
      rw [lots_len] at h2
      unfold least at this ⊢
      omega
    have e3 : eqb (isortL (least kin.length kin)) [] = inb [] kin := by
      unfold eqb inb
      have : isortL (least kin.length kin) = [] ↔ [] ∈ kin := isort_nil.trans (least_iff hk2)
      simp [this]
    rw [if_neg (by rw [eqb_rfl, e3]; simp), lcM_ok (g := fun _ => true) (by omega) (fun _ _ => rfl), nf_bind, all_map, nf_bind, nf_to, if_neg (by simp), appU_ok (by omega), nf_to, nf_bind, nf_to, if_neg (by rw [eqb_rfl]; decide)]
    exact WO.nx (hs6.mono (by omega))
theorem law_w {ns : List Int} (hl : ns.length ≤ 63) : W (t_law ns) (· = true) := by
  unfold t_law
  refine W.fin (WO.to (pool_w hl) fun s hs => ?_)
  refine WO.bind (P := fun _ => True) (WO.for_n (fun i x => Pool (2000 * i) x) (by simpa using hs) (fun t _ i hi x hx => ?_) fun _ _ => trivial) fun _ _ => WO.ret rfl
  have : i < 4 := by rw [rng_len] at hi; omega
  exact (turn_w hx (by omega) t).mono (fun y hy => hy.mono (by omega)) fun _ z => z
theorem law_true (ns : List Int) (hl : ns.length ≤ 63) : ∃ os, F_law [.scr ns] = .ok (.bl true) os := law_of (ft_law ns) rfl (law_w hl)
end Lk62

open PySem PySem.W PySem.Calls PyProof.Rows
theorem PySem.Challenge.cw_owncause_k62_whole_least_lots_holds : PySem.Challenge.rw_owncause_k62_whole_least_lots.Holds := by
  w_on; o_law
  refine HandSHeadRun.head_any (r := OpenLaw.row PySem.Challenge.rw_owncause_k62_whole_least_lots) (q := view (OpenLaw.row PySem.Challenge.rw_owncause_k62_whole_least_lots).prog [26]) (H := Lk62.hk) (ob := Lk62.ob) (M := 4000) (loose := Lk62.loose) (d := HandSHeadRun.topDef (OpenLaw.row PySem.Challenge.rw_owncause_k62_whole_least_lots).prog 26) (kwd := []) Lk62.ob_eq
    (by kernel_rfl) (fun s => by kernel_rfl) Lk62.run (by kernel_rfl) (by kernel_rfl) (by kernel_rfl) (by rfl) (by first | assumption | decide +kernel) (by decide +kernel) ⟨rfl, rfl, rfl, rfl, rfl, by decide +kernel⟩ ?hw ?hc
  case hw => w_witness2
  case hc =>
    refine DL.walk_ofEW (l := PySem.Challenge.rw_owncause_k62_whole_least_lots) (n := 63) (k := 6) (x := "_law_script") (CX := fun w => L2.CX (PySem.Challenge.rw_owncause_k62_whole_least_lots).prog w) rfl (by decide) (by kernel_rfl) ⟨rfl, by decide, by decide⟩ ?F DL.cx_no
    intro w mg fa h Y G hmg0
    obtain ⟨K, KX, c⟩ := Y
    have hmg : mg ("law" : PySem.Str) = some (.ref fa) := by
      have e : (HandSHeadRun.topDef (OpenLaw.row PySem.Challenge.rw_owncause_k62_whole_least_lots).prog 26).name = ("law" : PySem.Str) := by kernel_rfl
      rw [← e]
      exact hmg0
    obtain ⟨fd, hb, hF⟩ := Lk62.facts (P := (PySem.Challenge.rw_owncause_k62_whole_least_lots).prog) (w := w) KX G hmg c
    exact ⟨K, fd, _, KX, hb, fun H a ns hl _ hS => DL.spLaw_of Lk62.law_true H a ns hl hS, hF⟩
