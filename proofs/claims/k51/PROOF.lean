import PyProof.Rows.All
import Wide.All
import OpenK.AllK
import Wide.FinOn
import HandS.ForMost
import HandS.ForExc
import HandS.CallSlots
import HandS.Wide
import HandS.WideBits
import HandS.TupAny
import HandS.TupMul
import HandS.Defaults
import HandS.Small
import HandS.TryOnly
import HandS.TryMany
import HandS.IsInst
import HandS.Conv
import HandS.Zip
import HandS.Rev
import HandS.Deep
import HandS.ExcOwn
import HandS.ExcIs
import HandS.HeadHook2
import HandS.Head0
import HandS.Head1
import HandS.Head2
import HandS.HeadEnd
import HandS.HeadHook1
import HandS.HeadWalk
import HandS.SetFor
import KE.GoesMore
import PySem.Challenge.RW_owncause_k51_whole_chairs
set_option Elab.async false
set_option linter.all false
set_option maxRecDepth 100000
set_option maxHeartbeats 4000000
namespace DL
open PySem PySem.Spec L2
/-! pure data and what stands for it -/
inductive D where
  | non
  | bl (b : Bool)
  | int (i : Int)
  | str (x : Str)
  | adr (a : Addr)
  | scr (ns : List Int)
  | tup (ds : List D)
  | lst (o : Bool) (ds : List D)
  | dk (o : Bool) (ks : List Key) (ds : List D)
  | dt (o : Bool) (ks : List (List Key)) (ds : List D)
  | obj (o : Bool) (c : Str) (ns : List Str) (ds : List D)
structure RC where
  K : PySem.W.Frag
  mg : Str → Option Value
mutual
def Rep (K : RC) (F H : Hp) : D → V → List Addr → Prop
  | .non, v, A => v = .non ∧ A = []
  | .bl b, v, A => v = .bl b ∧ A = []
  | .int i, v, A => v = .int i ∧ A = []
  | .str x, v, A => v = .str x ∧ A = []
  | .adr a, v, A => v = .ref a ∧ A = []
  | .scr ns, v, A => A = [] ∧ ∃ a, v = .ref a ∧ SqL K.K F a (ns.map V.int)
  | .tup ds, v, A => A = [] ∧ ∃ a xs, v = .ref a ∧ SqT K.K F a xs ∧ RepL K F H ds xs []
  | .lst false ds, v, A => A = [] ∧ ∃ a xs, v = .ref a ∧ F a = some (.lst xs) ∧ RepL K F H ds xs []
  | .lst true ds, v, A => ∃ a xs B, v = .ref a ∧ A = a :: B ∧ H a = some (.lst xs) ∧ RepL K F H ds xs B
  | .dk false ks ds, v, A => A = [] ∧ ∃ a kvs, v = .ref a ∧ F a = some (.dK kvs) ∧ kvs.map Prod.fst = ks ∧ RepL K F H ds (kvs.map Prod.snd) []
  | .dk true ks ds, v, A => ∃ a kvs B, v = .ref a ∧ A = a :: B ∧ H a = some (.dK kvs) ∧ kvs.map Prod.fst = ks ∧ RepL K F H ds (kvs.map Prod.snd) B
  | .dt false ks ds, v, A => A = [] ∧ ∃ a kvs, v = .ref a ∧ F a = some (.dT kvs) ∧ kvs.map Prod.fst = ks ∧ RepL K F H ds (kvs.map Prod.snd) []
  | .dt true ks ds, v, A => ∃ a kvs B, v = .ref a ∧ A = a :: B ∧ H a = some (.dT kvs) ∧ kvs.map Prod.fst = ks ∧ RepL K F H ds (kvs.map Prod.snd) B
  | .obj false c ns ds, v, A => A = [] ∧ ∃ a C dx fs, v = .ref a ∧ K.mg c = some (.ref C) ∧ F a = some (.ins C dx fs) ∧ fs.map Prod.fst = ns ∧ RepL K F H ds (fs.map Prod.snd) []
  | .obj true c ns ds, v, A => ∃ a C dx fs B, v = .ref a ∧ A = a :: B ∧ K.mg c = some (.ref C) ∧ H a = some (.ins C dx fs) ∧ fs.map Prod.fst = ns ∧ RepL K F H ds (fs.map Prod.snd) B
def RepL (K : RC) (F H : Hp) : List D → List V → List Addr → Prop
  | [], vs, A => vs = [] ∧ A = []
  | d :: ds, vs, A => ∃ v ws B C, vs = v :: ws ∧ A = B ++ C ∧ Rep K F H d v B ∧ RepL K F H ds ws C
end
mutual
def frz : D → D
  | .lst _ ds => .lst false (frzL ds)
  | .dk _ ks ds => .dk false ks (frzL ds)
  | .dt _ ks ds => .dt false ks (frzL ds)
  | .obj _ c ns ds => .obj false c ns (frzL ds)
  | .tup ds => .tup ds
  | .non => .non
  | .bl b => .bl b
  | .int i => .int i
  | .str x => .str x
  | .adr a => .adr a
  | .scr ns => .scr ns
def frzL : List D → List D
  | [] => []
  | d :: ds => frz d :: frzL ds
end
variable {K : RC}
theorem Rd.mono {F F' : Hp} {a : Addr} {u : HO} (h : ∀ a o, F a = some o → F' a = some o) (r : Rd F a u) : Rd F' a u := by
  rcases r with r | ⟨o, r⟩
  · exact .inl (h _ _ r)
  · exact .inr ⟨o, h _ _ r⟩
theorem SqL.mono {K : PySem.W.Frag} {F F' : Hp} {a : Addr} {xs : List V} (h : ∀ a o, F a = some o → F' a = some o) (r : SqL K F a xs) : SqL K F' a xs := by
  rcases r with r | r
  · exact .inl (Rd.mono h r)
  · exact .inr r
theorem SqT.mono {K : PySem.W.Frag} {F F' : Hp} {a : Addr} {xs : List V} (h : ∀ a o, F a = some o → F' a = some o) (r : SqT K F a xs) : SqT K F' a xs := by
  rcases r with r | r
  · exact .inl (Rd.mono h r)
  · exact .inr r
mutual
theorem Rep.mono {F F' H H' : Hp} (h : ∀ a o, F a = some o → F' a = some o) : ∀ (d : D) (v : V) (A : List Addr), (∀ a ∈ A, ∀ o, H a = some o → H' a = some o) → Rep K F H d v A → Rep K F' H' d v A
  | .non, v, A, _, r => r
  | .bl b, v, A, _, r => r
  | .int i, v, A, _, r => r
  | .str x, v, A, _, r => r
  | .adr a, v, A, _, r => r
  | .scr ns, v, A, _, r => by
    obtain ⟨rfl, a, rfl, s⟩ := r
    exact ⟨rfl, a, rfl, SqL.mono h s⟩
  | .tup ds, v, A, k, r => by
    obtain ⟨rfl, a, xs, rfl, s, r⟩ := r
    exact ⟨rfl, a, xs, rfl, SqT.mono h s, RepL.mono h ds xs [] (fun _ z => nomatch z) r⟩
  | .lst false ds, v, A, k, r => by
    obtain ⟨rfl, a, xs, rfl, s, r⟩ := r
    exact ⟨rfl, a, xs, rfl, h _ _ s, RepL.mono h ds xs [] (fun _ z => nomatch z) r⟩
  | .lst true ds, v, A, k, r => by
    obtain ⟨a, xs, B, rfl, rfl, s, r⟩ := r
    exact ⟨a, xs, B, rfl, rfl, k a List.mem_cons_self _ s, RepL.mono h ds xs B (fun b z => k b (List.mem_cons_of_mem _ z)) r⟩
  | .dk false ks ds, v, A, k, r => by
    obtain ⟨rfl, a, kvs, rfl, s, e, r⟩ := r
    exact ⟨rfl, a, kvs, rfl, h _ _ s, e, RepL.mono h ds _ [] (fun _ z => nomatch z) r⟩
  | .dk true ks ds, v, A, k, r => by
    obtain ⟨a, kvs, B, rfl, rfl, s, e, r⟩ := r
    exact ⟨a, kvs, B, rfl, rfl, k a List.mem_cons_self _ s, e, RepL.mono h ds _ B (fun b z => k b (List.mem_cons_of_mem _ z)) r⟩
  | .dt false ks ds, v, A, k, r => by
    obtain ⟨rfl, a, kvs, rfl, s, e, r⟩ := r
    exact ⟨rfl, a, kvs, rfl, h _ _ s, e, RepL.mono h ds _ [] (fun _ z => nomatch z) r⟩
  | .dt true ks ds, v, A, k, r => by
    obtain ⟨a, kvs, B, rfl, rfl, s, e, r⟩ := r
    exact ⟨a, kvs, B, rfl, rfl, k a List.mem_cons_self _ s, e, RepL.mono h ds _ B (fun b z => k b (List.mem_cons_of_mem _ z)) r⟩
  | .obj false c ns ds, v, A, k, r => by
    obtain ⟨rfl, a, C, dx, fs, rfl, g, s, e, r⟩ := r
    exact ⟨rfl, a, C, dx, fs, rfl, g, h _ _ s, e, RepL.mono h ds _ [] (fun _ z => nomatch z) r⟩
  | .obj true c ns ds, v, A, k, r => by
    obtain ⟨a, C, dx, fs, B, rfl, rfl, g, s, e, r⟩ := r
    exact ⟨a, C, dx, fs, B, rfl, rfl, g, k a List.mem_cons_self _ s, e, RepL.mono h ds _ B (fun b z => k b (List.mem_cons_of_mem _ z)) r⟩
theorem RepL.mono {F F' H H' : Hp} (h : ∀ a o, F a = some o → F' a = some o) : ∀ (ds : List D) (vs : List V) (A : List Addr), (∀ a ∈ A, ∀ o, H a = some o → H' a = some o) → RepL K F H ds vs A → RepL K F' H' ds vs A
  | [], _, _, _, r => r
  | d :: ds, vs, A, k, r => by
    obtain ⟨v, ws, B, C, rfl, rfl, r1, r2⟩ := r
    exact ⟨v, ws, B, C, rfl, rfl, Rep.mono h d v B (fun a z => k a (List.mem_append_left _ z)) r1, RepL.mono h ds ws C (fun a z => k a (List.mem_append_right _ z)) r2⟩
end
end DL

set_option Elab.async false
set_option linter.all false
set_option maxRecDepth 100000
set_option maxHeartbeats 4000000
namespace DL
open PySem PySem.Spec L2
variable {K : RC}
abbrev Env := List (Option D)
/-- one slot -/
def Sx (K : RC) (F H : Hp) : Option D → Option V → List Addr → Prop
  | none, _, B => B = []
  | some d, s, B => ∃ v, s = some v ∧ Rep K F H d v B
def Sl (K : RC) (F H : Hp) : Env → St → List Addr → Prop
  | [], σ, A => σ = [] ∧ A = []
  | x :: ρ, σ, A => ∃ s τ B C, σ = s :: τ ∧ A = B ++ C ∧ Sx K F H x s B ∧ Sl K F H ρ τ C
def hid (A : List Addr) (H : Hp) : Hp := fun a => if a ∈ A then none else H a
theorem hid_some {A : List Addr} {H : Hp} {a : Addr} {o : HO} : hid A H a = some o ↔ a ∉ A ∧ H a = some o := by
  unfold hid
  by_cases h : a ∈ A
  · rw [if_pos h]; exact ⟨(fun z => by cases z), fun z => absurd h z.1⟩
  · rw [if_neg h]; exact ⟨fun z => ⟨h, z⟩, fun z => z.2⟩
structure Fr where
  G : Hp
  N : List Addr
structure SimA (K : RC) (fr : Fr) (ρ : Env) (σ : St) (H : Hp) (A : List Addr) : Prop where
  sl : Sl K (hid (A ++ fr.N) H) H ρ σ A
  nd : A.Nodup
  off : ∀ a ∈ A, a ∉ fr.N ∧ fr.G a = none
  keep : ∀ a o, fr.G a = some o → H a = some o
  tr : ∀ a ∈ fr.N, ∃ o, fr.G a = some o
def Sim (K : RC) (fr : Fr) (ρ : Env) (σ : St) (H : Hp) : Prop := ∃ A, SimA K fr ρ σ H A

theorem Sx.mono {F F' H H' : Hp} {x : Option D} {s : Option V} {B : List Addr} (h : ∀ a o, F a = some o → F' a = some o) (k : ∀ a ∈ B, ∀ o, H a = some o → H' a = some o) (r : Sx K F H x s B) : Sx K F' H' x s B := by
  cases x with
  | none => exact r
  | some d =>
    obtain ⟨v, e, r⟩ := r
    exact ⟨v, e, Rep.mono h d v B k r⟩
theorem Sl.mono {F F' H H' : Hp} (h : ∀ a o, F a = some o → F' a = some o) : ∀ {ρ : Env} {σ : St} {A : List Addr}, (∀ a ∈ A, ∀ o, H a = some o → H' a = some o) → Sl K F H ρ σ A → Sl K F' H' ρ σ A
  | [], _, _, _, r => r
  | x :: ρ, σ, A, k, r => by
    obtain ⟨s, τ, B, C, rfl, rfl, r1, r2⟩ := r
    exact ⟨s, τ, B, C, rfl, rfl, r1.mono h (fun a z => k a (List.mem_append_left _ z)), Sl.mono h (fun a z => k a (List.mem_append_right _ z)) r2⟩
theorem Sl.len {F H : Hp} : ∀ {ρ : Env} {σ : St} {A : List Addr}, Sl K F H ρ σ A → σ.length = ρ.length
  | [], _, _, r => by rw [r.1]; rfl
  | x :: ρ, σ, A, r => by
    obtain ⟨s, τ, B, C, rfl, rfl, r1, r2⟩ := r
    rw [List.length_cons, List.length_cons, Sl.len r2]
theorem Sl.app {F H : Hp} : ∀ {ρ1 ρ2 : Env} {σ1 σ2 : St} {A1 A2 : List Addr}, Sl K F H ρ1 σ1 A1 → Sl K F H ρ2 σ2 A2 → Sl K F H (ρ1 ++ ρ2) (σ1 ++ σ2) (A1 ++ A2)
  | [], _, _, _, _, _, r, q => by
    obtain ⟨rfl, rfl⟩ := r
    exact q
  | x :: ρ, ρ2, σ, σ2, A, A2, r, q => by
    obtain ⟨s, τ, B, C, rfl, rfl, r1, r2⟩ := r
    exact ⟨s, τ ++ σ2, B, C ++ A2, rfl, by rw [List.append_assoc], r1, Sl.app r2 q⟩
theorem Sl.cut {F H : Hp} : ∀ {ρ1 ρ2 : Env} {σ1 σ2 : St} {A : List Addr}, σ1.length = ρ1.length → Sl K F H (ρ1 ++ ρ2) (σ1 ++ σ2) A → ∃ A1 A2, A = A1 ++ A2 ∧ Sl K F H ρ1 σ1 A1 ∧ Sl K F H ρ2 σ2 A2
  | [], ρ2, σ1, σ2, A, e, r => by
    have : σ1 = [] := List.length_eq_zero_iff.mp e
    subst this
    exact ⟨[], A, rfl, ⟨rfl, rfl⟩, r⟩
  | x :: ρ, ρ2, σ1, σ2, A, e, r => by
    cases σ1 with
    | nil => cases e
    | cons s1 τ1 =>
      obtain ⟨s, τ, B, C, e1, rfl, r1, r2⟩ := r
      injection e1 with e1 e2
      subst e1 e2
      obtain ⟨A1, A2, rfl, q1, q2⟩ := Sl.cut (by simpa using e) r2
      exact ⟨B ++ A1, A2, by rw [List.append_assoc], ⟨s1, τ1, B, A1, rfl, rfl, r1, q1⟩, q2⟩
/-- a slot, and another thing put there -/
theorem Sl.at {F H : Hp} : ∀ {ρ : Env} {σ : St} {A : List Addr} {i : Nat} {x : Option D}, Sl K F H ρ σ A → ρ[i]? = some x →
    ∃ s A1 B A2, σ[i]? = some s ∧ A = A1 ++ (B ++ A2) ∧ Sx K F H x s B ∧
      ∀ {F' H' : Hp} {x' : Option D} {s' : Option V} {B' : List Addr}, (∀ a o, F a = some o → F' a = some o) → (∀ a ∈ A1 ++ A2, ∀ o, H a = some o → H' a = some o) → Sx K F' H' x' s' B' → Sl K F' H' (ρ.set i x') (σ.set i s') (A1 ++ (B' ++ A2))
  | [], _, _, _, _, _, e => by simp at e
  | y :: ρ, σ, A, 0, x, r, e => by
    obtain ⟨s, τ, B, C, rfl, rfl, r1, r2⟩ := r
    have : y = x := by simpa using e
    subst this
    exact ⟨s, [], B, C, rfl, rfl, r1, fun {F' H' x' s' B'} h k q => ⟨s', τ, B', C, rfl, rfl, q, r2.mono h (fun a z => k a (by simpa using z))⟩⟩
  | y :: ρ, σ, A, i + 1, x, r, e => by
    obtain ⟨s, τ, B, C, rfl, rfl, r1, r2⟩ := r
    obtain ⟨s0, A1, B0, A2, e0, rfl, r3, f⟩ := Sl.at (i := i) r2 (by simpa using e)
    refine ⟨s0, B ++ A1, B0, A2, by simpa using e0, by rw [List.append_assoc], r3, fun {F' H' x' s' B'} h k q => ?_⟩
    refine ⟨s, τ.set i s', B, A1 ++ (B' ++ A2), rfl, by rw [List.append_assoc], r1.mono h (fun a z => k a (by simp [z])), f h (fun a z => k a ?_) q⟩
    rcases List.mem_append.mp z with z | z
    · simp [z]
    · simp [z]

section
variable {fr : Fr} {ρ ρ' : Env} {σ σ' : St} {H H' : Hp} {A A' : List Addr}
theorem SimA.fro (S : SimA K fr ρ σ H A) (sub : ∀ a ∈ A', a ∈ A ∨ H a = none) (kp : ∀ a o, a ∉ A → H a = some o → H' a = some o) : ∀ a o, hid (A ++ fr.N) H a = some o → hid (A' ++ fr.N) H' a = some o := fun a o e => by
  rw [hid_some] at e ⊢
  obtain ⟨n, e⟩ := e
  have nA : a ∉ A := fun z => n (List.mem_append_left _ z)
  refine ⟨fun z => ?_, kp a o nA e⟩
  rcases List.mem_append.mp z with z | z
  · rcases sub a z with z | z
    · exact nA z
    · rw [e] at z; cases z
  · exact n (List.mem_append_right _ z)
theorem SimA.next (S : SimA K fr ρ σ H A) (sub : ∀ a ∈ A', a ∈ A ∨ H a = none) (nd : A'.Nodup) (kp : ∀ a o, a ∉ A → H a = some o → H' a = some o) (sl : Sl K (hid (A' ++ fr.N) H') H' ρ' σ' A') : SimA K fr ρ' σ' H' A' := by
  refine ⟨sl, nd, fun a z => ?_, fun a o e => ?_, S.tr⟩
  · rcases sub a z with q | q
    · exact S.off a q
    · refine ⟨fun w => ?_, ?_⟩
      · obtain ⟨o, e⟩ := S.tr a w
        rw [S.keep a o e] at q; cases q
      · cases e : fr.G a with
        | none => rfl
        | some o => rw [S.keep a o e] at q; cases q
  · have nA : a ∉ A := fun z => by rw [(S.off a z).2] at e; cases e
    exact kp a o nA (S.keep a o e)
theorem Sim.len (S : Sim K fr ρ σ H) : σ.length = ρ.length := let ⟨_, S⟩ := S; S.sl.len
/-- the heap grew -/
theorem SimA.grow (S : SimA K fr ρ σ H A) (k : ∀ a o, H a = some o → H' a = some o) : SimA K fr ρ σ H' A :=
  S.next (fun a z => .inl z) S.nd (fun a o _ e => k a o e) (S.sl.mono (S.fro (fun a z => .inl z) fun a o _ e => k a o e) fun a _ o e => k a o e)
theorem Sim.grow (S : Sim K fr ρ σ H) (k : ∀ a o, H a = some o → H' a = some o) : Sim K fr ρ σ H' := let ⟨A, S⟩ := S; ⟨A, S.grow k⟩
theorem Sim.drop {x : Option D} {s : Option V} (S : Sim K fr (x :: ρ) (s :: σ) H) : Sim K fr ρ σ H := by
  obtain ⟨A, S⟩ := S
  obtain ⟨s', τ, B, C, e, rfl, r1, r2⟩ := S.sl
  injection e with e1 e2
  subst e1 e2
  have sub : ∀ a ∈ C, a ∈ B ++ C ∨ H a = none := fun a z => .inl (List.mem_append_right _ z)
  exact ⟨C, S.next sub (List.nodup_append.mp S.nd).2.1 (fun a o _ e => e) (r2.mono (S.fro sub fun a o _ e => e) fun a _ o e => e)⟩
theorem Sim.dropN {ρ1 : Env} {σ1 : St} (e : σ1.length = ρ1.length) (S : Sim K fr (ρ1 ++ ρ) (σ1 ++ σ) H) : Sim K fr ρ σ H := by
  induction ρ1 generalizing σ1 with
  | nil =>
    have : σ1 = [] := List.length_eq_zero_iff.mp e
    subst this
    exact S
  | cons x ρ1 ih =>
    cases σ1 with
    | nil => cases e
    | cons s σ1 => exact ih (by simpa using e) S.drop
theorem nodup_swap {A B : List Addr} (h : (A ++ B).Nodup) : (B ++ A).Nodup := by
  rw [List.nodup_append] at h ⊢
  exact ⟨h.2.1, h.1, fun a ha b hb e => h.2.2 b hb a ha e.symm⟩
/-- exchange -/
theorem Sim.swap {ρ1 ρ2 : Env} {σ1 σ2 : St} (e : σ1.length = ρ1.length) (S : Sim K fr (ρ1 ++ ρ2) (σ1 ++ σ2) H) : Sim K fr (ρ2 ++ ρ1) (σ2 ++ σ1) H := by
  obtain ⟨A, S⟩ := S
  obtain ⟨A1, A2, rfl, q1, q2⟩ := Sl.cut e S.sl
  have sub : ∀ a ∈ A2 ++ A1, a ∈ A1 ++ A2 ∨ H a = none := fun a z => .inl (List.mem_append.mpr (List.mem_append.mp z).symm)
  have f := S.fro sub (H' := H) fun a o _ e => e
  exact ⟨A2 ++ A1, S.next sub (nodup_swap S.nd) (fun a o _ e => e) (Sl.app (q2.mono f fun a _ o e => e) (q1.mono f fun a _ o e => e))⟩
/-- what the owned addresses are: tracked -/
theorem own_tr : True := trivial
end
mutual
theorem Rep.tr {F H : Hp} : ∀ (d : D) (v : V) (A : List Addr), Rep K F H d v A → ∀ a ∈ A, ∃ o, H a = some o
  | .non, v, A, r, a, z => by rw [r.2] at z; cases z
  | .bl b, v, A, r, a, z => by rw [r.2] at z; cases z
  | .int i, v, A, r, a, z => by rw [r.2] at z; cases z
  | .str x, v, A, r, a, z => by rw [r.2] at z; cases z
  | .adr _, v, A, r, a, z => by rw [r.2] at z; cases z
  | .scr ns, v, A, r, a, z => by rw [r.1] at z; cases z
  | .tup ds, v, A, r, a, z => by rw [r.1] at z; cases z
  | .obj false c ns ds, v, A, r, a, z => by rw [r.1] at z; cases z
  | .obj true c ns ds, v, A, r, a, z => by
    obtain ⟨p, C, dx, fs, B, rfl, rfl, g, s, e, r⟩ := r
    rcases List.mem_cons.mp z with z | z
    · subst z; exact ⟨_, s⟩
    · exact RepL.tr ds _ B r a z
  | .lst false ds, v, A, r, a, z => by rw [r.1] at z; cases z
  | .dk false ks ds, v, A, r, a, z => by rw [r.1] at z; cases z
  | .dt false ks ds, v, A, r, a, z => by rw [r.1] at z; cases z
  | .lst true ds, v, A, r, a, z => by
    obtain ⟨p, xs, B, rfl, rfl, s, r⟩ := r
    rcases List.mem_cons.mp z with z | z
    · subst z; exact ⟨_, s⟩
    · exact RepL.tr ds xs B r a z
  | .dk true ks ds, v, A, r, a, z => by
    obtain ⟨p, kvs, B, rfl, rfl, s, e, r⟩ := r
    rcases List.mem_cons.mp z with z | z
    · subst z; exact ⟨_, s⟩
    · exact RepL.tr ds _ B r a z
  | .dt true ks ds, v, A, r, a, z => by
    obtain ⟨p, kvs, B, rfl, rfl, s, e, r⟩ := r
    rcases List.mem_cons.mp z with z | z
    · subst z; exact ⟨_, s⟩
    · exact RepL.tr ds _ B r a z
theorem RepL.tr {F H : Hp} : ∀ (ds : List D) (vs : List V) (A : List Addr), RepL K F H ds vs A → ∀ a ∈ A, ∃ o, H a = some o
  | [], vs, A, r, a, z => by rw [r.2] at z; cases z
  | d :: ds, vs, A, r, a, z => by
    obtain ⟨v, ws, B, C, rfl, rfl, r1, r2⟩ := r
    rcases List.mem_append.mp z with z | z
    · exact Rep.tr d v B r1 a z
    · exact RepL.tr ds ws C r2 a z
end
theorem Sl.tr {F H : Hp} : ∀ {ρ : Env} {σ : St} {A : List Addr}, Sl K F H ρ σ A → ∀ a ∈ A, ∃ o, H a = some o
  | [], σ, A, r, a, z => by rw [r.2] at z; cases z
  | x :: ρ, σ, A, r, a, z => by
    obtain ⟨s, τ, B, C, rfl, rfl, r1, r2⟩ := r
    rcases List.mem_append.mp z with z | z
    · cases x with
      | none => rw [show B = [] from r1] at z; cases z
      | some d =>
        obtain ⟨v, _, r1⟩ := r1
        exact Rep.tr d v B r1 a z
    · exact r2.tr a z
mutual
theorem Rep.frz {F F' H : Hp} (h : ∀ a o, F a = some o → F' a = some o) : ∀ (d : D) (v : V) (A : List Addr), (∀ a ∈ A, ∀ o, H a = some o → F' a = some o) → Rep K F H d v A → Rep K F' H (frz d) v []
  | .non, v, A, _, r => ⟨r.1, rfl⟩
  | .bl b, v, A, _, r => ⟨r.1, rfl⟩
  | .int i, v, A, _, r => ⟨r.1, rfl⟩
  | .str x, v, A, _, r => ⟨r.1, rfl⟩
  | .adr a, v, A, _, r => ⟨r.1, rfl⟩
  | .tup ds, v, A, k, r => by
    obtain ⟨rfl, a, xs, rfl, s, r⟩ := r
    exact ⟨rfl, a, xs, rfl, SqT.mono h s, RepL.mono h ds xs [] (fun _ z => nomatch z) r⟩
  | .lst false ds, v, A, k, r => by
    obtain ⟨rfl, a, xs, rfl, s, r⟩ := r
    exact ⟨rfl, a, xs, rfl, h _ _ s, RepL.frz h ds xs [] (fun _ z => nomatch z) r⟩
  | .lst true ds, v, A, k, r => by
    obtain ⟨a, xs, B, rfl, rfl, s, r⟩ := r
    exact ⟨rfl, a, xs, rfl, k a List.mem_cons_self _ s, RepL.frz h ds xs B (fun b z => k b (List.mem_cons_of_mem _ z)) r⟩
  | .dk false ks ds, v, A, k, r => by
    obtain ⟨rfl, a, kvs, rfl, s, e, r⟩ := r
    exact ⟨rfl, a, kvs, rfl, h _ _ s, e, RepL.frz h ds _ [] (fun _ z => nomatch z) r⟩
  | .dk true ks ds, v, A, k, r => by
    obtain ⟨a, kvs, B, rfl, rfl, s, e, r⟩ := r
    exact ⟨rfl, a, kvs, rfl, k a List.mem_cons_self _ s, e, RepL.frz h ds _ B (fun b z => k b (List.mem_cons_of_mem _ z)) r⟩
  | .dt false ks ds, v, A, k, r => by
    obtain ⟨rfl, a, kvs, rfl, s, e, r⟩ := r
    exact ⟨rfl, a, kvs, rfl, h _ _ s, e, RepL.frz h ds _ [] (fun _ z => nomatch z) r⟩
  | .dt true ks ds, v, A, k, r => by
    obtain ⟨a, kvs, B, rfl, rfl, s, e, r⟩ := r
    exact ⟨rfl, a, kvs, rfl, k a List.mem_cons_self _ s, e, RepL.frz h ds _ B (fun b z => k b (List.mem_cons_of_mem _ z)) r⟩
  | .scr ns, v, A, k, r => by
    obtain ⟨rfl, a, rfl, s⟩ := r
    exact ⟨rfl, a, rfl, SqL.mono h s⟩
  | .obj false c ns ds, v, A, k, r => by
    obtain ⟨rfl, a, C, dx, fs, rfl, g, s, e, r⟩ := r
    exact ⟨rfl, a, C, dx, fs, rfl, g, h _ _ s, e, RepL.frz h ds _ [] (fun _ z => nomatch z) r⟩
  | .obj true c ns ds, v, A, k, r => by
    obtain ⟨a, C, dx, fs, B, rfl, rfl, g, s, e, r⟩ := r
    exact ⟨rfl, a, C, dx, fs, rfl, g, k a List.mem_cons_self _ s, e, RepL.frz h ds _ B (fun b z => k b (List.mem_cons_of_mem _ z)) r⟩
theorem RepL.frz {F F' H : Hp} (h : ∀ a o, F a = some o → F' a = some o) : ∀ (ds : List D) (vs : List V) (A : List Addr), (∀ a ∈ A, ∀ o, H a = some o → F' a = some o) → RepL K F H ds vs A → RepL K F' H (frzL ds) vs []
  | [], vs, A, k, r => ⟨r.1, rfl⟩
  | d :: ds, vs, A, k, r => by
    obtain ⟨v, ws, B, C, rfl, rfl, r1, r2⟩ := r
    exact ⟨v, ws, [], [], rfl, rfl, Rep.frz h d v B (fun a z => k a (List.mem_append_left _ z)) r1, RepL.frz h ds ws C (fun a z => k a (List.mem_append_right _ z)) r2⟩
end
section
variable {fr : Fr} {ρ ρ' : Env} {σ σ' : St} {H H' : Hp} {A A' : List Addr} {d : D} {v : V}
/-- the frame: what stands behind is out of sight and comes back -/
theorem Sim.frame {ρ1 ρ2 : Env} {σ1 σ2 : St} (e : σ1.length = ρ1.length) (S : Sim K fr (ρ1 ++ ρ2) (σ1 ++ σ2) H) : ∃ fr', Sim K fr' ρ1 σ1 H ∧ ∀ ρ1' σ1' H', Sim K fr' ρ1' σ1' H' → Sim K fr (ρ1' ++ ρ2) (σ1' ++ σ2) H' := by
  obtain ⟨A, S⟩ := S
  obtain ⟨A1, A2, rfl, q1, q2⟩ := Sl.cut e S.sl
  have nd := List.nodup_append.mp S.nd
  refine ⟨⟨hid A1 H, A2 ++ fr.N⟩, ⟨A1, ?_, nd.1, fun a z => ⟨fun w => ?_, ?_⟩, fun a o e => (hid_some.mp e).2, fun a z => ?_⟩, ?_⟩
  · refine q1.mono (fun a o e => ?_) fun a _ o e => e
    rw [hid_some] at e ⊢
    exact ⟨fun z => e.1 (by simpa [or_assoc] using z), e.2⟩
  · rcases List.mem_append.mp w with w | w
    · exact nd.2.2 a z a w rfl
    · exact (S.off a (List.mem_append_left _ z)).1 w
  · show hid A1 H a = none
    unfold hid
    rw [if_pos z]
  · rcases List.mem_append.mp z with z | z
    · obtain ⟨o, e⟩ := q2.tr a z
      exact ⟨o, hid_some.mpr ⟨fun w => nd.2.2 a w a z rfl, e⟩⟩
    · obtain ⟨o, e⟩ := S.tr a z
      exact ⟨o, hid_some.mpr ⟨fun w => (S.off a (List.mem_append_left _ w)).1 z, S.keep a o e⟩⟩
  · rintro ρ1' σ1' H' ⟨A1', T⟩
    have k : ∀ a o, a ∉ A1 → H a = some o → H' a = some o := fun a o n e => T.keep a o (hid_some.mpr ⟨n, e⟩)
    have d12 : ∀ a ∈ A1', a ∉ A2 := fun a z w => (T.off a z).1 (List.mem_append_left _ w)
    refine ⟨A1' ++ A2, Sl.app (T.sl.mono (fun a o e => ?_) fun a _ o e => e) (q2.mono (fun a o e => ?_) fun a z o e => k a o (fun w => nd.2.2 a w a z rfl) e), List.nodup_append.mpr ⟨T.nd, nd.2.1, fun a z b w q => d12 a z (q ▸ w)⟩, fun a z => ?_, fun a o e => ?_, S.tr⟩
    · rw [hid_some] at e ⊢
      exact ⟨fun z => e.1 (by simpa [or_assoc] using z), e.2⟩
    · rw [hid_some] at e ⊢
      have n1 : a ∉ A1 := fun z => e.1 (by simp [z])
      refine ⟨fun z => ?_, k a o n1 e.2⟩
      rcases List.mem_append.mp z with z | z
      · rcases List.mem_append.mp z with z | z
        · have g : hid A1 H a = none := (T.off a z).2
          rw [show hid A1 H a = some o from hid_some.mpr ⟨n1, e.2⟩] at g
          cases g
        · exact e.1 (by simp [z])
      · exact e.1 (by simp [z])
    · rcases List.mem_append.mp z with z | z
      · refine ⟨fun w => (T.off a z).1 (List.mem_append_right _ w), ?_⟩
        cases g : fr.G a with
        | none => rfl
        | some o =>
          have n1 : a ∉ A1 := fun w => by rw [(S.off a (List.mem_append_left _ w)).2] at g; cases g
          have q : hid A1 H a = none := (T.off a z).2
          rw [show hid A1 H a = some o from hid_some.mpr ⟨n1, S.keep a o g⟩] at q
          cases q
      · exact S.off a (List.mem_append_right _ z)
    · have n1 : a ∉ A1 := fun w => by rw [(S.off a (List.mem_append_left _ w)).2] at e; cases e
      exact k a o n1 (S.keep a o e)
/-- a temp stands ahead: the rest goes on without it -/
theorem Sim.hold {x : Option D} {s : Option V} (S : Sim K fr (x :: ρ) (s :: σ) H) : ∃ fr', Sim K fr' ρ σ H ∧ ∀ ρ' σ' H', Sim K fr' ρ' σ' H' → Sim K fr (x :: ρ') (s :: σ') H' := by
  have T := Sim.swap (ρ1 := [x]) (σ1 := [s]) rfl S
  obtain ⟨fr', a, b⟩ := Sim.frame S.drop.len T
  refine ⟨fr', a, fun ρ' σ' H' h => ?_⟩
  have z := b ρ' σ' H' h
  exact Sim.swap (ρ1 := ρ') (ρ2 := [x]) h.len z
theorem Sim.holdN {ρ1 : Env} {σ1 : St} (e : σ1.length = ρ1.length) (S : Sim K fr (ρ1 ++ ρ) (σ1 ++ σ) H) : ∃ fr', Sim K fr' ρ σ H ∧ ∀ ρ' σ' H', Sim K fr' ρ' σ' H' → Sim K fr (ρ1 ++ ρ') (σ1 ++ σ') H' := by
  have T := Sim.swap e S
  obtain ⟨fr', a, b⟩ := Sim.frame (S.dropN e).len T
  exact ⟨fr', a, fun ρ' σ' H' h => Sim.swap h.len (b ρ' σ' H' h)⟩
/-- the first one frozen -/
theorem Sim.frz (S : Sim K fr (some d :: ρ) (some v :: σ) H) : Sim K fr (some (frz d) :: ρ) (some v :: σ) H := by
  obtain ⟨A, S⟩ := S
  obtain ⟨s', τ, B, C, e, rfl, ⟨v', e1, r1⟩, r2⟩ := S.sl
  injection e with e2 e3
  subst e2 e3
  cases e1
  have nd := List.nodup_append.mp S.nd
  have sub : ∀ a ∈ C, a ∈ B ++ C ∨ H a = none := fun a z => .inl (List.mem_append_right _ z)
  have f := S.fro sub (H' := H) fun a o _ e => e
  refine ⟨C, S.next sub nd.2.1 (fun a o _ e => e) ⟨some v, σ, [], C, rfl, rfl, ⟨v, rfl, Rep.frz f d v B (fun a z o e => hid_some.mpr ⟨fun w => ?_, e⟩) r1⟩, r2.mono f fun a _ o e => e⟩⟩
  rcases List.mem_append.mp w with w | w
  · exact nd.2.2 a z a w rfl
  · exact (S.off a (List.mem_append_left _ z)).1 w
/-- flat data -/
def flat : D → Option V
  | .non => some .non
  | .bl b => some (.bl b)
  | .int i => some (.int i)
  | .str x => some (.str x)
  | .adr a => some (.ref a)
  | _ => none
theorem flat_rep {F H : Hp} (h : flat d = some v) : Rep K F H d v [] := by
  cases d <;> simp [flat] at h <;> subst h <;> exact ⟨rfl, rfl⟩
theorem rep_flat {F H : Hp} {w : V} {B : List Addr} (h : flat d = some v) (r : Rep K F H d w B) : w = v ∧ B = [] := by
  cases d <;> simp [flat] at h <;> subst h <;> exact r
theorem Sim.pushF (S : Sim K fr ρ σ H) (h : flat d = some v) : Sim K fr (some d :: ρ) (some v :: σ) H := by
  obtain ⟨A, S⟩ := S
  exact ⟨A, S.next (fun a z => .inl z) S.nd (fun a o _ e => e) ⟨some v, σ, [], A, rfl, rfl, ⟨v, rfl, flat_rep h⟩, S.sl⟩⟩
theorem Sim.topF (S : Sim K fr (some d :: ρ) (some v :: σ) H) {w : V} (h : flat d = some w) : v = w := by
  obtain ⟨A, S⟩ := S
  obtain ⟨s', τ, B, C, e, rfl, ⟨v', e1, r1⟩, r2⟩ := S.sl
  injection e with e2 e3
  subst e2
  cases e1
  exact (rep_flat h r1).1
/-- frozen data -/
def fro : D → Bool
  | .lst o _ => !o
  | .dk o _ _ => !o
  | .dt o _ _ => !o
  | .obj o _ _ _ => !o
  | _ => true
theorem fro_rep {F H : Hp} {B : List Addr} (h : fro d = true) (r : Rep K F H d v B) : B = [] := by
  cases d with
  | lst o ds => cases o with
    | false => exact r.1
    | true => cases h
  | dk o ks ds => cases o with
    | false => exact r.1
    | true => cases h
  | dt o ks ds => cases o with
    | false => exact r.1
    | true => cases h
  | obj o c ns ds => cases o with
    | false => exact r.1
    | true => cases h
  | tup ds => exact r.1
  | scr ns => exact r.1
  | _ => exact r.2
theorem fro_frz : ∀ d : D, fro (DL.frz d) = true
  | .lst _ _ => rfl
  | .dk _ _ _ => rfl
  | .dt _ _ _ => rfl
  | .tup _ => rfl
  | .scr _ => rfl
  | .obj _ _ _ _ => rfl
  | .non => rfl
  | .bl _ => rfl
  | .int _ => rfl
  | .str _ => rfl
  | .adr _ => rfl
theorem Sim.dup {i : Nat} (S : Sim K fr ρ σ H) (e : ρ[i]? = some (some d)) (h : fro d = true) : ∃ v, σ[i]? = some (some v) ∧ Sim K fr (some d :: ρ) (some v :: σ) H := by
  obtain ⟨A, S⟩ := S
  obtain ⟨s, A1, B, A2, e1, rfl, ⟨v, rfl, r⟩, _⟩ := S.sl.at e
  have := fro_rep h r
  subst this
  exact ⟨v, e1, _, S.next (fun a z => .inl z) S.nd (fun a o _ e => e) ⟨some v, σ, [], _, rfl, rfl, ⟨v, rfl, r⟩, S.sl⟩⟩
theorem set_self {α : Type} : ∀ {l : List α} {i : Nat} {x : α}, l[i]? = some x → l.set i x = l
  | [], _, _, h => by simp at h
  | a :: l, 0, x, h => by
    have : a = x := by simpa using h
    subst this; rfl
  | a :: l, i + 1, x, h => by
    show a :: l.set i x = a :: l
    rw [set_self (by simpa using h)]
theorem perm_nodup {A B C : List Addr} (h : (A ++ (B ++ C)).Nodup) : (B ++ (A ++ C)).Nodup := by
  refine List.Perm.nodup (l := A ++ (B ++ C)) ?_ h
  exact (List.perm_append_comm_assoc A B C)
/-- moved out of its slot -/
theorem Sim.move {i : Nat} (S : Sim K fr ρ σ H) (e : ρ[i]? = some (some d)) : ∃ v, σ[i]? = some (some v) ∧ Sim K fr (some d :: ρ.set i none) (some v :: σ) H := by
  obtain ⟨A, S⟩ := S
  obtain ⟨s, A1, B, A2, e1, rfl, ⟨v, rfl, r⟩, f⟩ := S.sl.at e
  have sub : ∀ a ∈ B ++ (A1 ++ A2), a ∈ A1 ++ (B ++ A2) ∨ H a = none := fun a z => .inl (by
    simp only [List.mem_append] at z ⊢
    rcases z with z | z | z
    · exact .inr (.inl z)
    · exact .inl z
    · exact .inr (.inr z))
  have g := S.fro sub (H' := H) fun a o _ e => e
  have q := f (x' := none) (s' := some v) (B' := []) g (fun a _ o e => e) rfl
  rw [set_self e1] at q
  exact ⟨v, e1, _, S.next sub (perm_nodup S.nd) (fun a o _ e => e) ⟨some v, σ, B, A1 ++ A2, rfl, rfl, ⟨v, rfl, Rep.mono g d v B (fun a _ o e => e) r⟩, q⟩⟩
/-- stored in a slot -/
theorem Sim.store {i : Nat} (S : Sim K fr (some d :: ρ) (some v :: σ) H) (hi : i < ρ.length) : Sim K fr (ρ.set i (some d)) (σ.set i (some v)) H := by
  obtain ⟨A, S⟩ := S
  obtain ⟨s', τ, B, C, e, rfl, ⟨v', e1, r1⟩, r2⟩ := S.sl
  injection e with e2 e3
  subst e2 e3
  cases e1
  obtain ⟨s, A1, B0, A2, e1, rfl, r, f⟩ := r2.at (List.getElem?_eq_getElem hi)
  have sub : ∀ a ∈ A1 ++ (B ++ A2), a ∈ B ++ (A1 ++ (B0 ++ A2)) ∨ H a = none := fun a z => .inl (by
    simp only [List.mem_append] at z ⊢
    rcases z with z | z | z
    · exact .inr (.inl z)
    · exact .inl z
    · exact .inr (.inr (.inr z)))
  have g := S.fro sub (H' := H) fun a o _ e => e
  refine ⟨_, S.next sub ?_ (fun a o _ e => e) (f (x' := some d) (s' := some v) (B' := B) g (fun a _ o e => e) ⟨v, rfl, Rep.mono g d v B (fun a _ o e => e) r1⟩)⟩
  refine perm_nodup ?_
  refine List.Nodup.sublist ?_ S.nd
  exact (List.append_sublist_append_left B).mpr ((List.append_sublist_append_left A1).mpr (List.sublist_append_right B0 A2))
theorem Sim.back {i : Nat} (S : Sim K fr (some d :: ρ) (some v :: σ) H) (h : σ[i]? = some (some v)) : Sim K fr (ρ.set i (some d)) σ H := by
  have hi : i < ρ.length := by
    have := S.drop.len
    rw [← this]
    exact (List.getElem?_eq_some_iff.mp h).1
  have z := S.store hi
  rw [set_self h] at z
  exact z
theorem Sim.clear {i : Nat} (S : Sim K fr ρ σ H) (s : Option V) : Sim K fr (ρ.set i none) (σ.set i s) H := by
  by_cases hi : i < ρ.length
  · obtain ⟨A, S⟩ := S
    obtain ⟨s0, A1, B0, A2, e1, rfl, r, f⟩ := S.sl.at (List.getElem?_eq_getElem hi)
    have sub : ∀ a ∈ A1 ++ ([] ++ A2), a ∈ A1 ++ (B0 ++ A2) ∨ H a = none := fun a z => .inl (by
      simp only [List.mem_append] at z ⊢
      rcases z with z | z | z
      · exact .inl z
      · cases z
      · exact .inr (.inr z))
    have g := S.fro sub (H' := H) fun a o _ e => e
    refine ⟨_, S.next sub ?_ (fun a o _ e => e) (f (x' := none) (s' := s) (B' := []) g (fun a _ o e => e) rfl)⟩
    refine List.Nodup.sublist ?_ S.nd
    exact (List.append_sublist_append_left A1).mpr (List.sublist_append_right B0 A2)
  · have h1 : ρ.set i none = ρ := List.set_eq_of_length_le (by omega)
    have h2 : σ.set i s = σ := List.set_eq_of_length_le (by rw [S.len]; omega)
    rw [h1, h2]
    exact S
end
end DL

set_option Elab.async false
set_option linter.all false
set_option maxRecDepth 100000
set_option maxHeartbeats 4000000
namespace DL
open PySem PySem.Spec L2
abbrev rc (X : Cx) : RC := ⟨X.K, X.mg⟩
/-! what an expression comes to -/
inductive Res (α : Type) where
  | ok (a : α) (ρ : Env)
  | exc (c : Str) (fs : List (Str × D)) (ρ : Env)
  | stuck
abbrev M (α : Type) := Env → Res α
def mbind {α β : Type} (m : M α) (f : α → M β) : M β := fun ρ => match m ρ with
  | .ok a ρ' => f a ρ'
  | .exc c fs ρ' => .exc c fs ρ'
  | .stuck => .stuck
def mret {α : Type} (a : α) : M α := fun ρ => .ok a ρ
def mlift {α : Type} : Option α → M α
  | some a => fun ρ => .ok a ρ
  | none => fun _ => .stuck
def toV (d : D) : V := (flat d).getD .non
/-- an exception as it lies -/
def ExcR (mg : Str → Option Value) (c : Str) (fs : List (Str × D)) (cls : Value) (dd : Option Addr) (H : Hp) : Prop :=
  ∃ C, mg c = some (.ref C) ∧ cls = .ref C ∧ ((fs = [] ∧ dd = none) ∨ (fs ≠ [] ∧ ∃ a, dd = some a ∧ H a = some (.xd (fs.map fun p => (p.1, toV p.2)))))
def QX (K : RC) (W : WX) (fr : Fr) (σ : L2.St) (c : Str) (fs : List (Str × D)) (ρ : Env) : Prop :=
  ∀ cls dd H, ExcR K.mg c fs cls dd H → Sim K fr ρ σ H → W cls dd σ H
def QR {α : Type} (K : RC) (W : WX) (fr : Fr) (σ : L2.St) (r : Res α) (post : α → Env → Prop) : Prop := match r with
  | .ok a ρ => post a ρ
  | .exc c fs ρ => QX K W fr σ c fs ρ
  | .stuck => False
section
variable {K : RC} {W : WX} {fr fr' : Fr} {σ : L2.St} {H : Hp}
theorem QR.bind {α β : Type} {m : M α} {f : α → M β} {ρ : Env} {post : β → Env → Prop} (h : QR K W fr σ (mbind m f ρ) post) : QR K W fr σ (m ρ) fun a ρ' => QR K W fr σ (f a ρ') post := by
  unfold mbind at h
  cases e : m ρ with
  | ok a ρ' => rw [e] at h; exact h
  | exc c fs ρ' => rw [e] at h; exact h
  | stuck => rw [e] at h; exact h
theorem QR.mono {α : Type} {r : Res α} {p q : α → Env → Prop} (h : QR K W fr σ r p) (k : ∀ a ρ, p a ρ → q a ρ) : QR K W fr σ r q := by
  cases r with
  | ok a ρ => exact k a ρ h
  | exc c fs ρ => exact h
  | stuck => exact h
/-- under a longer frame -/
theorem QR.frame {α : Type} {r : Res α} {p : α → Env → Prop} (h : QR K W fr σ r p) (k : ∀ ρ H, Sim K fr' ρ σ H → Sim K fr ρ σ H) : QR K W fr' σ r p := by
  cases r with
  | ok a ρ => exact h
  | exc c fs ρ => exact fun cls dd H e s => h cls dd H e (k ρ H s)
  | stuck => exact h
theorem QR.lift {α : Type} {o : Option α} {ρ : Env} {p : α → Env → Prop} (h : QR K W fr σ (mlift o ρ) p) : ∃ a, o = some a ∧ p a ρ := by
  cases o with
  | none => exact h.elim
  | some a => exact ⟨a, rfl, h⟩
end
/-- an expression's value -/
def QE (K : RC) (W : WX) (fr : Fr) (σ : L2.St) (r : Res D) (Q : VK) : Prop := QR K W fr σ r fun d ρ => ∀ v H, Sim K fr (some d :: ρ) (some v :: σ) H → Q v H
structure ED {ι : Type} (X : ι → Cx) (K : RC) (W : WX) (e : Expr) (f : M D) : Prop where
  ex : ∃ t, (∀ i, PE (X i) e t) ∧ ∀ fr ρ σ H Q, Sim K fr ρ σ H → QE K W fr σ (f ρ) Q → t σ H Q
def QT (K : RC) (W : WX) (fr : Fr) (σ : L2.St) (r : Res Bool) (Q : Bool → Hp → Prop) : Prop := QR K W fr σ r fun b ρ => ∀ H, Sim K fr ρ σ H → Q b H
structure TD {ι : Type} (X : ι → Cx) (K : RC) (W : WX) (e : Expr) (f : M Bool) : Prop where
  ex : ∃ t, (∀ i, PT (X i) e t) ∧ ∀ fr ρ σ H Q, Sim K fr ρ σ H → QT K W fr σ (f ρ) Q → t σ H Q
/-- and, or as tests -/
structure WD {ι : Type} (X : ι → Cx) (K : RC) (W : WX) (e : Expr) (f : M Bool) : Prop where
  ex : ∃ t, (∀ i, PW (X i) e t) ∧ ∀ fr ρ σ H Q, Sim K fr ρ σ H → QT K W fr σ (f ρ) Q → t σ H Q
def revL (ds : List D) : Env := ds.reverse.map some
/-- arguments: the values lie as temps, the last one ahead -/
def QA (K : RC) (W : WX) (fr : Fr) (σ : L2.St) (r : Res (List D)) (Q : List V → Hp → Prop) : Prop :=
  QR K W fr σ r fun ds ρ => ∀ vs H, vs.length = ds.length → Sim K fr (ds.map some ++ ρ) (vs.map some ++ σ) H → Q vs H
structure AD {ι : Type} (X : ι → Cx) (K : RC) (W : WX) (es : List Expr) (f : M (List D)) : Prop where
  ex : ∃ t, (∀ i, PA (X i) es t) ∧ ∀ fr ρ σ H Q, Sim K fr ρ σ H → QA K W fr σ (f ρ) Q → t σ H Q
section
variable {ι : Type} {X : ι → Cx} {K : RC} {W : WX} {e a b c : Expr} {es : List Expr} {f fa fb fc : M D} {pos : Pos}
/-! ### two in a row, under the first one's hold -/
theorem two {fr : Fr} {ρ1 : Env} {σ : L2.St} {H1 : Hp} {dx : D} {vx : V} {tb : TE} {R : V → Hp → Prop} {post : D → Env → Prop} (S : Sim K fr (some dx :: ρ1) (some vx :: σ) H1)
    (hb : ∀ fr ρ σ H Q, Sim K fr ρ σ H → QE K W fr σ (fb ρ) Q → tb σ H Q) (h : QR K W fr σ (fb ρ1) post)
    (k : ∀ dy ρ2 vy H2, post dy ρ2 → Sim K fr (some dy :: some dx :: ρ2) (some vy :: some vx :: σ) H2 → R vy H2) : tb σ H1 R := by
  obtain ⟨fr', S', back⟩ := S.hold
  refine hb fr' ρ1 σ H1 R S' ?_
  refine (h.frame fun ρ H s => (back ρ σ H s).drop).mono fun dy ρ2 hp vy H2 s => ?_
  refine k dy ρ2 vy H2 hp ?_
  have z := back (some dy :: ρ2) (some vy :: σ) H2 s
  have z1 : Sim K fr ([some dx] ++ ([some dy] ++ ρ2)) ([some vx] ++ ([some vy] ++ σ)) H2 := z
  -- swap the first two
  obtain ⟨A, T⟩ := z
  obtain ⟨s1, τ1, B1, C1, e1, rfl, r1, r2⟩ := T.sl
  injection e1 with e1 e2
  subst e1 e2
  obtain ⟨s2, τ2, B2, C2, e3, rfl, r3, r4⟩ := r2
  injection e3 with e3 e4
  subst e3 e4
  have sub : ∀ q ∈ B2 ++ (B1 ++ C2), q ∈ B1 ++ (B2 ++ C2) ∨ H2 q = none := fun q z => .inl (by
    simp only [List.mem_append] at z ⊢
    rcases z with z | z | z
    · exact .inr (.inl z)
    · exact .inl z
    · exact .inr (.inr z))
  have g := T.fro sub (H' := H2) fun a o _ e => e
  exact ⟨_, T.next sub (perm_nodup T.nd) (fun a o _ e => e) ⟨some vy, some vx :: σ, B2, B1 ++ C2, rfl, rfl, r3.mono g fun a _ o e => e, some vx, σ, B1, C2, rfl, rfl, r1.mono g fun a _ o e => e, r4.mono g fun a _ o e => e⟩⟩
/-! ### names, constants -/
def eVar (i : Nat) : M D := fun ρ => match ρ[i]? with
  | some (some d) => if fro d = true then .ok d ρ else .stuck
  | _ => .stuck
theorem ed_var (i : Nat) {x : Str} {pos : Pos} (h : ∀ j, PE (X j) (.Name x pos) (tVar i)) : ED X K W (.Name x pos) (eVar i) := ⟨tVar i, h, fun fr ρ σ H Q S q => by
  unfold eVar at q
  cases e : ρ[i]? with
  | none => rw [e] at q; exact q.elim
  | some o => cases o with
    | none => rw [e] at q; exact q.elim
    | some d =>
      rw [e] at q
      by_cases hf : fro d = true
      · simp only [hf, if_true] at q
        obtain ⟨v, e1, S1⟩ := S.dup e hf
        exact ⟨v, e1, q v H S1⟩
      · simp only [hf] at q
        exact q.elim⟩
/-- the variable is handed over (and gone) -/
def eMove (i : Nat) : M D := fun ρ => match ρ[i]? with
  | some (some d) => .ok d (ρ.set i none)
  | _ => .stuck
theorem ed_move (i : Nat) {x : Str} {pos : Pos} (h : ∀ j, PE (X j) (.Name x pos) (tVar i)) : ED X K W (.Name x pos) (eMove i) := ⟨tVar i, h, fun fr ρ σ H Q S q => by
  unfold eMove at q
  cases e : ρ[i]? with
  | none => rw [e] at q; exact q.elim
  | some o => cases o with
    | none => rw [e] at q; exact q.elim
    | some d =>
      rw [e] at q
      obtain ⟨v, e1, S1⟩ := S.move e
      exact ⟨v, e1, q v H S1⟩⟩
def eC (d : D) : M D := fun ρ => .ok d ρ
theorem ed_const {d : D} {v : V} (hf : flat d = some v) (h : ∀ i, PE (X i) e (tC v)) : ED X K W e (eC d) := ⟨tC v, h, fun fr ρ σ H Q S q => q v H (S.pushF hf)⟩
theorem ed_int {i j pos} : ED X K W (.Constant (.int i) j pos) (eC (.int i)) := ed_const rfl fun _ => pe_int
theorem ed_bl {i j pos} : ED X K W (.Constant (.bool i) j pos) (eC (.bl i)) := ed_const rfl fun _ => pe_bl
theorem ed_str {i j pos} : ED X K W (.Constant (.str i) j pos) (eC (.str i)) := ed_const rfl fun _ => pe_str
theorem ed_non {j pos} : ED X K W (.Constant .none j pos) (eC .non) := ed_const rfl fun _ => pe_non
/-- what was made is frozen -/
def eFrz (f : M D) : M D := mbind f fun d => mret (frz d)
theorem ed_frz (h : ED X K W e f) : ED X K W e (eFrz f) := by
  obtain ⟨t, p, s⟩ := h.ex
  exact ⟨t, p, fun fr ρ σ H Q S q => s fr ρ σ H Q S (QR.mono (QR.bind q) fun d ρ' q' v H' S' => q' v H' S'.frz)⟩
/-! ### operators -/
def e1 (F : D → Option D) (fa : M D) : M D := mbind fa fun x => mlift (F x)
def e2 (F : D → D → Option D) (fa fb : M D) : M D := mbind fa fun x => mbind fb fun y => mlift (F x y)
/-- r computes F -/
def OpS (K : RC) (r : R2) (F : D → D → Option D) : Prop := ∀ fr ρ σ H dx dy vx vy d Q, Sim K fr (some dy :: some dx :: ρ) (some vy :: some vx :: σ) H → F dx dy = some d →
  (∀ v H', Sim K fr (some d :: ρ) (some v :: σ) H' → Q v H') → r vx vy H Q
def UnS (K : RC) (r : V → Hp → VK → Prop) (F : D → Option D) : Prop := ∀ fr ρ σ H dx vx d Q, Sim K fr (some dx :: ρ) (some vx :: σ) H → F dx = some d →
  (∀ v H', Sim K fr (some d :: ρ) (some v :: σ) H' → Q v H') → r vx H Q
theorem sim_tOp {r : R2} {F : D → D → Option D} (ho : OpS K r F) {ta tb : TE} (ha : ∀ fr ρ σ H Q, Sim K fr ρ σ H → QE K W fr σ (fa ρ) Q → ta σ H Q) (hb : ∀ fr ρ σ H Q, Sim K fr ρ σ H → QE K W fr σ (fb ρ) Q → tb σ H Q)
    {fr : Fr} {ρ : Env} {σ : L2.St} {H : Hp} {Q : VK} (S : Sim K fr ρ σ H) (q : QE K W fr σ (e2 F fa fb ρ) Q) : tOp r ta tb σ H Q := by
  refine ha fr ρ σ H _ S ((QR.bind q).mono fun dx ρ1 q1 vx H1 S1 => ?_)
  refine two S1 hb (QR.bind q1) fun dy ρ2 vy H2 q2 S2 => ?_
  obtain ⟨d, e, q3⟩ := QR.lift q2
  exact ho fr ρ2 σ H2 dx dy vx vy d Q S2 e q3
theorem ed_op {op : Operator} {r : R2} {F : D → D → Option D} (h : ∀ i, OpR (X i) (binaryOp op) r) (ho : OpS K r F) (ha : ED X K W a fa) (hb : ED X K W b fb) : ED X K W (.BinOp a op b pos) (e2 F fa fb) := by
  obtain ⟨ta, pa, sa⟩ := ha.ex
  obtain ⟨tb, pb, sb⟩ := hb.ex
  exact ⟨tOp r ta tb, (fun i => pe_op (h i) (pa i) (pb i)), fun fr ρ σ H Q S q => sim_tOp ho sa sb S q⟩
theorem ed_cmp {op : CmpOp} {r : R2} {F : D → D → Option D} (h : ∀ i, OpR (X i) (compareOp op) r) (ho : OpS K r F) (ha : ED X K W a fa) (hb : ED X K W b fb) (hm : behindInMarks op b = false) : ED X K W (.Compare a [op] [b] pos) (e2 F fa fb) := by
  obtain ⟨ta, pa, sa⟩ := ha.ex
  obtain ⟨tb, pb, sb⟩ := hb.ex
  exact ⟨tOp r ta tb, (fun i => pe_cmpR (h i) (pa i) (pb i) hm), fun fr ρ σ H Q S q => sim_tOp ho sa sb S q⟩
def isB : D → Option Bool
  | .bl b => some b
  | _ => none
def eB (f : M D) : M Bool := mbind f fun d => mlift (isB d)
theorem sim_tTest {t : TE} (s : ∀ fr ρ σ H Q, Sim K fr ρ σ H → QE K W fr σ (f ρ) Q → t σ H Q) {fr : Fr} {ρ : Env} {σ : L2.St} {H : Hp} {Q : Bool → Hp → Prop} (S : Sim K fr ρ σ H) (q : QT K W fr σ (eB f ρ) Q) : tTest t σ H Q := by
  refine s fr ρ σ H _ S ((QR.bind q).mono fun d ρ1 q1 v H1 S1 => ?_)
  obtain ⟨b, e, q2⟩ := QR.lift q1
  cases d <;> simp [isB] at e
  subst e
  have := S1.topF rfl
  subst this
  exact ⟨_, rfl, q2 H1 S1.drop⟩
theorem td_cmp {op : CmpOp} {r : R2} {F : D → D → Option D} (h : ∀ i, OpR (X i) (compareOp op) r) (ho : OpS K r F) (ha : ED X K W a fa) (hb : ED X K W b fb) (hm : behindInMarks op b = false) : TD X K W (.Compare a [op] [b] pos) (eB (e2 F fa fb)) := by
  obtain ⟨ta, pa, sa⟩ := ha.ex
  obtain ⟨tb, pb, sb⟩ := hb.ex
  exact ⟨tTest (tOp r ta tb), (fun i => pt_cmpR (h i) (pa i) (pb i) hm), fun fr ρ σ H Q S q => sim_tTest (fun fr ρ σ H Q S q => sim_tOp ho sa sb S q) S q⟩
/-- a test of an expression that gives a bool -/
theorem td_val (h : ED X K W e f) (he : ∀ i whole, isTrue e (X i).env whole = (do let v ← whole; standAt e.pos; holding [v] (truthy v)) := by intro _ _; rfl) : TD X K W e (eB f) := by
  obtain ⟨t, p, s⟩ := h.ex
  exact ⟨tB t, (fun i => pt_val (p i) (he i)), fun fr ρ σ H Q S q => sim_tTest s S q⟩
theorem td_of (h : WD X K W e f') : TD X K W e f' := by
  obtain ⟨t, p, s⟩ := h.ex
  exact ⟨t, (fun i => (p i).pt), s⟩
def mAnd (f g : M Bool) : M Bool := mbind f fun b => if b = true then g else mret false
def mOr (f g : M Bool) : M Bool := mbind f fun b => if b = true then mret true else g
def mNot (f : M Bool) : M Bool := mbind f fun b => mret (!b)
variable {ga gb : M Bool} {rest : List Expr}
theorem wd_and1 (h : TD X K W a ga) : WD X K W (.BoolOp .And [a] pos) ga := by
  obtain ⟨t, p, s⟩ := h.ex
  exact ⟨t, (fun i => pw_and1 (p i)), s⟩
theorem wd_or1 (h : TD X K W a ga) : WD X K W (.BoolOp .Or [a] pos) ga := by
  obtain ⟨t, p, s⟩ := h.ex
  exact ⟨t, (fun i => pw_or1 (p i)), s⟩
theorem wd_and (h : TD X K W a ga) (h2 : WD X K W (.BoolOp .And (b :: rest) pos) gb) : WD X K W (.BoolOp .And (a :: b :: rest) pos) (mAnd ga gb) := by
  obtain ⟨t, p, s⟩ := h.ex
  obtain ⟨u, p2, s2⟩ := h2.ex
  refine ⟨tAnd t u, (fun i => pw_and (p i) (p2 i)), fun fr ρ σ H Q S q => ?_⟩
  refine s fr ρ σ H _ S ((QR.bind q).mono fun k ρ1 q1 H1 S1 => ?_)
  cases k with
  | true => rw [if_pos rfl] at q1 ⊢; exact s2 fr ρ1 σ H1 Q S1 q1
  | false => rw [if_neg Bool.false_ne_true] at q1 ⊢; exact q1 H1 S1
theorem wd_or (h : TD X K W a ga) (h2 : WD X K W (.BoolOp .Or (b :: rest) pos) gb) : WD X K W (.BoolOp .Or (a :: b :: rest) pos) (mOr ga gb) := by
  obtain ⟨t, p, s⟩ := h.ex
  obtain ⟨u, p2, s2⟩ := h2.ex
  refine ⟨tOr t u, (fun i => pw_or (p i) (p2 i)), fun fr ρ σ H Q S q => ?_⟩
  refine s fr ρ σ H _ S ((QR.bind q).mono fun k ρ1 q1 H1 S1 => ?_)
  cases k with
  | true => rw [if_pos rfl] at q1 ⊢; exact q1 H1 S1
  | false => rw [if_neg Bool.false_ne_true] at q1 ⊢; exact s2 fr ρ1 σ H1 Q S1 q1
theorem td_not (h : TD X K W a ga) : TD X K W (.UnaryOp .Not a pos) (mNot ga) := by
  obtain ⟨t, p, s⟩ := h.ex
  exact ⟨tNot t, (fun i => pt_not (p i)), fun fr ρ σ H Q S q => s fr ρ σ H _ S ((QR.bind q).mono fun k ρ1 q1 H1 S1 => q1 H1 S1)⟩
/-! as values -/
def eAnd (f g : M D) : M D := mbind f fun x => mbind (mlift (isB x)) fun b => if b = true then g else mret (.bl false)
def eOr (f g : M D) : M D := mbind f fun x => mbind (mlift (isB x)) fun b => if b = true then mret (.bl true) else g
def eNot (f : M D) : M D := mbind f fun x => mbind (mlift (isB x)) fun b => mret (.bl !b)
def eIf (c : M Bool) (f g : M D) : M D := mbind c fun b => if b = true then f else g
theorem ed_one {op} (h : ED X K W a fa) : ED X K W (.BoolOp op [a] pos) fa := by
  obtain ⟨t, p, s⟩ := h.ex
  exact ⟨t, (fun i => pe_one (p i)), s⟩
theorem isB_eq {d : D} {b : Bool} (h : isB d = some b) : d = .bl b := by
  cases d <;> simp [isB] at h
  rw [h]
theorem ed_and (h : ED X K W a fa) (h2 : ED X K W (.BoolOp .And (b :: rest) pos) fb) : ED X K W (.BoolOp .And (a :: b :: rest) pos) (eAnd fa fb) := by
  obtain ⟨t, p, s⟩ := h.ex
  obtain ⟨u, p2, s2⟩ := h2.ex
  refine ⟨tAndV t u, (fun i => pe_and (p i) (p2 i)), fun fr ρ σ H Q S q => ?_⟩
  refine s fr ρ σ H _ S ((QR.bind q).mono fun d ρ1 q1 v H1 S1 => ?_)
  obtain ⟨k, e, q2⟩ := QR.lift (QR.bind q1)
  have := isB_eq e
  subst this
  have := S1.topF rfl
  subst this
  refine ⟨k, rfl, ?_⟩
  cases k with
  | true => rw [if_pos rfl] at q2 ⊢; exact s2 fr ρ1 σ H1 Q S1.drop q2
  | false => rw [if_neg Bool.false_ne_true] at q2 ⊢; exact q2 _ H1 (S1.drop.pushF rfl)
theorem ed_or (h : ED X K W a fa) (h2 : ED X K W (.BoolOp .Or (b :: rest) pos) fb) : ED X K W (.BoolOp .Or (a :: b :: rest) pos) (eOr fa fb) := by
  obtain ⟨t, p, s⟩ := h.ex
  obtain ⟨u, p2, s2⟩ := h2.ex
  refine ⟨tOrV t u, (fun i => pe_or (p i) (p2 i)), fun fr ρ σ H Q S q => ?_⟩
  refine s fr ρ σ H _ S ((QR.bind q).mono fun d ρ1 q1 v H1 S1 => ?_)
  obtain ⟨k, e, q2⟩ := QR.lift (QR.bind q1)
  have := isB_eq e
  subst this
  have := S1.topF rfl
  subst this
  refine ⟨k, rfl, ?_⟩
  cases k with
  | true => rw [if_pos rfl] at q2 ⊢; exact q2 _ H1 (S1.drop.pushF rfl)
  | false => rw [if_neg Bool.false_ne_true] at q2 ⊢; exact s2 fr ρ1 σ H1 Q S1.drop q2
theorem ed_not (h : ED X K W a fa) : ED X K W (.UnaryOp .Not a pos) (eNot fa) := by
  obtain ⟨t, p, s⟩ := h.ex
  refine ⟨tNotV t, (fun i => pe_not (p i)), fun fr ρ σ H Q S q => ?_⟩
  refine s fr ρ σ H _ S ((QR.bind q).mono fun d ρ1 q1 v H1 S1 => ?_)
  obtain ⟨k, e, q2⟩ := QR.lift (QR.bind q1)
  have := isB_eq e
  subst this
  have := S1.topF rfl
  subst this
  exact ⟨k, rfl, q2 _ H1 (S1.drop.pushF rfl)⟩
theorem ed_if (hc : TD X K W c gc) (h : ED X K W a fa) (h2 : ED X K W b fb) : ED X K W (.IfExp c a b pos) (eIf gc fa fb) := by
  obtain ⟨tc, pc, sc⟩ := hc.ex
  obtain ⟨t, p, s⟩ := h.ex
  obtain ⟨u, p2, s2⟩ := h2.ex
  refine ⟨tIf tc t u, (fun i => pe_ifExp (pc i) (p i) (p2 i)), fun fr ρ σ H Q S q => ?_⟩
  refine sc fr ρ σ H _ S ((QR.bind q).mono fun k ρ1 q1 H1 S1 => ?_)
  cases k with
  | true => rw [if_pos rfl] at q1 ⊢; exact s fr ρ1 σ H1 Q S1 q1
  | false => rw [if_neg Bool.false_ne_true] at q1 ⊢; exact s2 fr ρ1 σ H1 Q S1 q1
/-! ### arguments -/
def aNil : M (List D) := mret []
def aCons (f : M D) (g : M (List D)) : M (List D) := mbind f fun d => mbind g fun ds => mret (d :: ds)
theorem ad_nil : AD X K W [] aNil := ⟨tNil, (fun _ => pa_nil), fun fr ρ σ H Q S q => q [] H rfl S⟩
theorem ad_cons {g : M (List D)} (h : ED X K W e f) (hr : AD X K W es g) (hs : ∀ i, starEach (e :: es) (X i).env = (false, eval e (X i).env) :: starEach es (X i).env := by intro _; rfl) : AD X K W (e :: es) (aCons f g) := by
  obtain ⟨t, p, s⟩ := h.ex
  obtain ⟨u, p2, s2⟩ := hr.ex
  refine ⟨tCons t u, (fun i => pa_cons (p i) (p2 i) (hs i)), fun fr ρ σ H Q S q => ?_⟩
  refine s fr ρ σ H _ S ((QR.bind q).mono fun d ρ1 q1 v H1 S1 => ?_)
  obtain ⟨fr', S', back⟩ := S1.hold
  refine s2 fr' ρ1 σ H1 _ S' (((QR.bind q1).frame fun ρ H s => (back ρ σ H s).drop).mono fun ds ρ2 q2 vs H2 hl S2 => ?_)
  exact q2 (v :: vs) H2 (by simp [hl]) (back _ _ H2 S2)
end
end DL

set_option Elab.async false
set_option linter.all false
set_option maxRecDepth 100000
set_option maxHeartbeats 4000000
namespace DL
open PySem PySem.Spec L2
variable {K : RC}
/-! ### sequences taken apart and made -/
theorem RepL.len {F H : Hp} : ∀ {ds : List D} {vs : List V} {A : List Addr}, RepL K F H ds vs A → vs.length = ds.length
  | [], vs, A, r => by rw [r.1]; rfl
  | d :: ds, vs, A, r => by
    obtain ⟨v, ws, B, C, rfl, rfl, r1, r2⟩ := r
    rw [List.length_cons, List.length_cons, r2.len]
theorem RepL.sl {F H : Hp} : ∀ {ds : List D} {vs : List V} {A : List Addr}, RepL K F H ds vs A → Sl K F H (ds.map some) (vs.map some) A
  | [], vs, A, r => by
    obtain ⟨rfl, rfl⟩ := r
    exact ⟨rfl, rfl⟩
  | d :: ds, vs, A, r => by
    obtain ⟨v, ws, B, C, rfl, rfl, r1, r2⟩ := r
    exact ⟨some v, ws.map some, B, C, rfl, rfl, ⟨v, rfl, r1⟩, r2.sl⟩
theorem Sl.repL {F H : Hp} : ∀ {ds : List D} {vs : List V} {A : List Addr}, Sl K F H (ds.map some) (vs.map some) A → RepL K F H ds vs A
  | [], vs, A, r => by
    obtain ⟨e, rfl⟩ := r
    cases vs with
    | nil => exact ⟨rfl, rfl⟩
    | cons v vs => cases e
  | d :: ds, vs, A, r => by
    obtain ⟨s, τ, B, C, e, rfl, ⟨v, rfl, r1⟩, r2⟩ := r
    cases vs with
    | nil => cases e
    | cons w vs =>
      have e : some w :: vs.map some = some v :: τ := e
      injection e with e1 e2
      injection e1 with e1
      subst e1 e2
      exact ⟨_, vs, B, C, rfl, rfl, r1, Sl.repL r2⟩
theorem RepL.app {F H : Hp} : ∀ {ds es : List D} {vs ws : List V} {A B : List Addr}, RepL K F H ds vs A → RepL K F H es ws B → RepL K F H (ds ++ es) (vs ++ ws) (A ++ B)
  | [], es, vs, ws, A, B, r, q => by
    obtain ⟨rfl, rfl⟩ := r
    exact q
  | d :: ds, es, vs, ws, A, B, r, q => by
    obtain ⟨v, us, B', C, rfl, rfl, r1, r2⟩ := r
    exact ⟨v, us ++ ws, B', C ++ B, rfl, by rw [List.append_assoc], r1, r2.app q⟩
section
variable {fr : Fr} {ρ : Env} {σ : L2.St} {H : Hp} {d : D} {v : V} {ds : List D} {vs : List V}
/-- the top data's own description -/
theorem Sim.top (S : Sim K fr (some d :: ρ) (some v :: σ) H) : ∃ F B, Rep K F H d v B ∧ (∀ a o, F a = some o → H a = some o) := by
  obtain ⟨A, S⟩ := S
  obtain ⟨s', τ, B, C, e, rfl, ⟨v', e1, r1⟩, r2⟩ := S.sl
  injection e with e2 e3
  subst e2
  cases e1
  exact ⟨_, B, r1, fun a o e => (hid_some.mp e).2⟩
/-- a list or tuple ahead, its items in its place -/
def items : D → Option (List D)
  | .tup ds => some ds
  | .lst _ ds => some ds
  | .scr ns => some (ns.map D.int)
  | _ => none
def isL : D → Bool
  | .lst _ _ => true
  | .scr _ => true
  | _ => false
theorem rep_ints {F H : Hp} : ∀ ns : List Int, RepL K F H (ns.map D.int) (ns.map V.int) []
  | [] => ⟨rfl, rfl⟩
  | n :: ns => ⟨.int n, ns.map V.int, [], [], rfl, rfl, ⟨rfl, rfl⟩, rep_ints ns⟩
theorem Sim.explode (S : Sim K fr (some d :: ρ) (some v :: σ) H) (e : items d = some ds) : ∃ p xs, v = .ref p ∧ xs.length = ds.length ∧ (if isL d = true then SqL K.K H p xs else SqT K.K H p xs) ∧
    ((∀ o es, d = .lst o es → H p = some (.lst xs)) ∧ Sim K fr (ds.map some ++ ρ) (xs.map some ++ σ) H) := by
  obtain ⟨A, S⟩ := S
  obtain ⟨s', τ, B, C, e0, rfl, ⟨v', e1, r1⟩, r2⟩ := S.sl
  injection e0 with e2 e3
  subst e2 e3
  cases e1
  have go : ∀ xs B', (∀ a ∈ B', a ∈ B) → B'.Nodup → RepL K (hid (B ++ C ++ fr.N) H) H ds xs B' → Sim K fr (ds.map some ++ ρ) (xs.map some ++ σ) H := fun xs B' hs hn r => by
    have nd := List.nodup_append.mp S.nd
    have sub : ∀ a ∈ B' ++ C, a ∈ B ++ C ∨ H a = none := fun a z => .inl (by
      rcases List.mem_append.mp z with z | z
      · exact List.mem_append_left _ (hs a z)
      · exact List.mem_append_right _ z)
    have f := S.fro sub (H' := H) fun a o _ e => e
    refine ⟨B' ++ C, S.next sub (List.nodup_append.mpr ⟨hn, nd.2.1, fun a ha b hb => nd.2.2 a (hs a ha) b hb⟩) (fun a o _ e => e) (Sl.app (r.sl.mono f fun a _ o e => e) (r2.mono f fun a _ o e => e))⟩
  have hH : ∀ a o, hid (B ++ C ++ fr.N) H a = some o → H a = some o := fun a o e => (hid_some.mp e).2
  cases d with
  | tup es =>
    cases e
    obtain ⟨rfl, a, xs, rfl, s, r⟩ := r1
    exact ⟨a, xs, rfl, r.len, SqT.mono hH s, (fun _ _ z => nomatch z), go xs [] (fun _ z => nomatch z) .nil r⟩
  | lst o es =>
    cases e
    cases o with
    | false =>
      obtain ⟨rfl, a, xs, rfl, s, r⟩ := r1
      exact ⟨a, xs, rfl, r.len, SqL.of (hH _ _ s), (fun _ _ _ => hH _ _ s), go xs [] (fun _ z => nomatch z) .nil r⟩
    | true =>
      obtain ⟨a, xs, B1, rfl, rfl, s, r⟩ := r1
      exact ⟨a, xs, rfl, r.len, SqL.of s, (fun _ _ _ => s), go xs B1 (fun b z => List.mem_cons_of_mem _ z) (List.nodup_append.mp S.nd).1.of_cons r⟩
  | scr ns =>
    cases e
    obtain ⟨rfl, a, rfl, s⟩ := r1
    exact ⟨a, _, rfl, by simp, SqL.mono hH s, (fun _ _ z => nomatch z), go _ [] (fun _ z => nomatch z) .nil (rep_ints ns)⟩
  | _ => cases e
theorem isTrueOf : True := trivial
theorem nodup_cons_fresh {A : List Addr} {p : Addr} {H : Hp} (nd : A.Nodup) (hp : H p = none) (tr : ∀ a ∈ A, ∃ o, H a = some o) : (p :: A).Nodup :=
  List.nodup_cons.mpr ⟨(fun z => by obtain ⟨o, e⟩ := tr p z; rw [hp] at e; cases e), nd⟩
/-- a new object of the items that lie ahead: a list of one's own -/
theorem Sim.newL {p : Addr} (S : Sim K fr (ds.map some ++ ρ) (vs.map some ++ σ) H) (hl : vs.length = ds.length) (hp : H p = none) : Sim K fr (some (.lst true ds) :: ρ) (some (.ref p) :: σ) (upd H p (.lst vs)) := by
  obtain ⟨A, S⟩ := S
  obtain ⟨A1, A2, rfl, q1, q2⟩ := Sl.cut (by simpa using hl) S.sl
  have tr := S.sl.tr
  have sub : ∀ a ∈ p :: (A1 ++ A2), a ∈ A1 ++ A2 ∨ H a = none := fun a z => by
    rcases List.mem_cons.mp z with z | z
    · subst z; exact .inr hp
    · exact .inl z
  have kp : ∀ a o, H a = some o → upd H p (.lst vs) a = some o := fun a o e => by rw [upd_ne (ne_of_none e hp)]; exact e
  have f := S.fro sub (H' := upd H p (.lst vs)) fun a o _ e => kp a o e
  exact ⟨p :: (A1 ++ A2), S.next sub (nodup_cons_fresh S.nd hp tr) (fun a o _ e => kp a o e) ⟨some (.ref p), σ, p :: A1, A2, rfl, rfl, ⟨.ref p, rfl, p, vs, A1, rfl, rfl, upd_same, (q1.repL).mono f _ _ _ fun a _ o e => kp a o e⟩, q2.mono f fun a _ o e => kp a o e⟩⟩
/-- a tuple: its items are frozen -/
theorem Sim.newT {p : Addr} (S : Sim K fr (ds.map some ++ ρ) (vs.map some ++ σ) H) (hl : vs.length = ds.length) (hp : H p = none) : Sim K fr (some (.tup (frzL ds)) :: ρ) (some (.ref p) :: σ) (upd H p (.tup vs)) := by
  obtain ⟨A, S⟩ := S
  obtain ⟨A1, A2, rfl, q1, q2⟩ := Sl.cut (by simpa using hl) S.sl
  have nd := List.nodup_append.mp S.nd
  have sub : ∀ a ∈ A2, a ∈ A1 ++ A2 ∨ H a = none := fun a z => .inl (List.mem_append_right _ z)
  have kp : ∀ a o, H a = some o → upd H p (.tup vs) a = some o := fun a o e => by rw [upd_ne (ne_of_none e hp)]; exact e
  have f := S.fro sub (H' := upd H p (.tup vs)) fun a o _ e => kp a o e
  have nin : ∀ a, a ∉ A2 → a ∉ fr.N → a ∉ A2 ++ fr.N := fun a h1 h2 z => (List.mem_append.mp z).elim h1 h2
  have r : RepL K (hid (A2 ++ fr.N) (upd H p (.tup vs))) H (frzL ds) vs [] := RepL.frz f ds vs A1 (fun a z o e => hid_some.mpr ⟨nin a (fun w => nd.2.2 a z a w rfl) (S.off a (List.mem_append_left _ z)).1, kp a o e⟩) q1.repL
  have pN : p ∉ A2 ++ fr.N := nin p (fun z => by obtain ⟨o, e⟩ := q2.tr p z; rw [hp] at e; cases e) fun z => by obtain ⟨o, e⟩ := S.tr p z; rw [S.keep p o e] at hp; cases hp
  exact ⟨A2, S.next sub nd.2.1 (fun a o _ e => kp a o e) ⟨some (.ref p), σ, [], A2, rfl, rfl, ⟨.ref p, rfl, rfl, p, vs, rfl, SqT.of (hid_some.mpr ⟨pN, upd_same⟩), RepL.mono (fun _ _ e => e) _ _ _ (fun _ z => nomatch z) r⟩, q2.mono f fun a _ o e => kp a o e⟩⟩
/-- the visible part of a frame -/
def VF (fr : Fr) : Hp := hid fr.N fr.G
theorem SimA.vf {A : List Addr} (S : SimA K fr ρ σ H A) : ∀ a o, VF fr a = some o → hid (A ++ fr.N) H a = some o := fun a o e => by
  obtain ⟨n, e⟩ := hid_some.mp e
  refine hid_some.mpr ⟨fun z => ?_, S.keep a o e⟩
  rcases List.mem_append.mp z with z | z
  · rw [(S.off a z).2] at e; cases e
  · exact n z
theorem Sim.vfH (S : Sim K fr ρ σ H) : ∀ a o, VF fr a = some o → H a = some o := fun a o e => let ⟨_, S⟩ := S; S.keep a o (hid_some.mp e).2
/-- what stands in the visible part is at hand -/
theorem Sim.pushG {H0 : Hp} (S : Sim K fr ρ σ H) (r : Rep K (VF fr) H0 d v []) : Sim K fr (some d :: ρ) (some v :: σ) H := by
  obtain ⟨A, S⟩ := S
  exact ⟨A, S.next (fun a z => .inl z) S.nd (fun a o _ e => e) ⟨some v, σ, [], A, rfl, rfl, ⟨v, rfl, Rep.mono S.vf d v [] (fun _ z => nomatch z) r⟩, S.sl⟩⟩
/-- a frozen thing held aside stands in the visible part -/
theorem Sim.holdF (S : Sim K fr (some d :: ρ) (some v :: σ) H) (hf : fro d = true) : ∃ fr', Sim K fr' ρ σ H ∧ Rep K (VF fr') H d v [] ∧ ∀ ρ' σ' H', Sim K fr' ρ' σ' H' → Sim K fr ρ' σ' H' := by
  obtain ⟨A, S⟩ := S
  obtain ⟨s', τ, B, C, e0, rfl, ⟨v', e1, r1⟩, r2⟩ := S.sl
  injection e0 with e2 e3
  subst e2 e3
  cases e1
  have := fro_rep hf r1
  subst this
  have T : SimA K fr ρ σ H C := ⟨r2, S.nd, S.off, S.keep, S.tr⟩
  refine ⟨⟨hid C H, fr.N⟩, ⟨C, r2, S.nd, fun a z => ⟨(S.off a z).1, by show hid C H a = none; unfold hid; rw [if_pos z]⟩, fun a o e => (hid_some.mp e).2, fun a z => ?_⟩, ?_, ?_⟩
  · obtain ⟨o, e⟩ := S.tr a z
    exact ⟨o, hid_some.mpr ⟨fun w => (S.off a w).1 z, S.keep a o e⟩⟩
  · refine Rep.mono (fun a o e => ?_) d _ [] (fun _ z => nomatch z) r1
    obtain ⟨n, e⟩ := hid_some.mp e
    exact hid_some.mpr ⟨fun z => n (List.mem_append_right _ z), hid_some.mpr ⟨fun z => n (List.mem_append_left _ z), e⟩⟩
  · rintro ρ' σ' H' ⟨A', U⟩
    refine ⟨A', U.sl, U.nd, fun a z => ⟨(U.off a z).1, ?_⟩, fun a o e => ?_, S.tr⟩
    · cases g : fr.G a with
      | none => rfl
      | some o =>
        have q : hid C H a = none := (U.off a z).2
        have nC : a ∉ C := fun w => by rw [(S.off a w).2] at g; cases g
        rw [show hid C H a = some o from hid_some.mpr ⟨nC, S.keep a o g⟩] at q
        cases q
    · have nC : a ∉ C := fun w => by rw [(S.off a w).2] at e; cases e
      exact U.keep a o (hid_some.mpr ⟨nC, S.keep a o e⟩)
end
/-! ### statements -/
inductive RS where
  | nx (ρ : Env)
  | ret (d : D) (ρ : Env)
  | brk (ρ : Env)
  | cnt (ρ : Env)
  | exc (c : Str) (fs : List (Str × D)) (ρ : Env)
  | stuck
abbrev SF := Env → RS
def KeepS (pr : List Nat) (σ0 σ : L2.St) : Prop := ∀ j ∈ pr, σ[j]? = σ0[j]?
theorem KeepS.refl {pr : List Nat} {σ : L2.St} : KeepS pr σ σ := fun _ _ => rfl
theorem KeepS.trans {pr : List Nat} {σ0 σ1 σ2 : L2.St} (a : KeepS pr σ0 σ1) (b : KeepS pr σ1 σ2) : KeepS pr σ0 σ2 := fun j h => (b j h).trans (a j h)
theorem KeepS.set {pr : List Nat} {σ : L2.St} {i : Nat} {s : Option V} (h : i ∉ pr) : KeepS pr σ (σ.set i s) := fun j hj => by
  rw [List.getElem?_set_ne]
  intro e
  subst e
  exact h hj
def QS (K : RC) (W : WX) (pr : List Nat) (fr : Fr) (σ0 : L2.St) (r : RS) (Dn : Ends) : Prop := match r with
  | .nx ρ => ∀ σ H, KeepS pr σ0 σ → Sim K fr ρ σ H → Dn.nx σ H
  | .ret d ρ => ∀ v σ H, KeepS pr σ0 σ → Sim K fr (some d :: ρ) (some v :: σ) H → Dn.rt v H
  | .brk ρ => ∀ σ H, KeepS pr σ0 σ → Sim K fr ρ σ H → Dn.bk σ H
  | .cnt ρ => ∀ σ H, KeepS pr σ0 σ → Sim K fr ρ σ H → Dn.ct σ H
  | .exc c fs ρ => ∀ cls dd σ H, KeepS pr σ0 σ → ExcR K.mg c fs cls dd H → Sim K fr ρ σ H → W cls dd σ H
  | .stuck => False
structure SD {ι : Type} (X : ι → Cx) (K : RC) (W : WX) (pr : List Nat) (st : Stmt) (F : SF) : Prop where
  ex : ∃ t, (∀ i, PS (X i) st t) ∧ ∀ fr ρ σ H Dn, Sim K fr ρ σ H → QS K W pr fr σ (F ρ) Dn → t Dn σ H
structure SDs {ι : Type} (X : ι → Cx) (K : RC) (W : WX) (pr : List Nat) (sts : List Stmt) (F : SF) : Prop where
  ex : ∃ t, (∀ i, PSs (X i) sts t) ∧ ∀ fr ρ σ H Dn, Sim K fr ρ σ H → QS K W pr fr σ (F ρ) Dn → t Dn σ H
/-- later entry: what is kept from there is kept from here -/
theorem QS.from {K : RC} {W : WX} {pr : List Nat} {fr : Fr} {σ0 σ : L2.St} {r : RS} {Dn : Ends} (k : KeepS pr σ0 σ) (q : QS K W pr fr σ0 r Dn) : QS K W pr fr σ r Dn := by
  cases r with
  | nx ρ => exact fun σ' H k' s => q σ' H (k.trans k') s
  | ret d ρ => exact fun v σ' H k' s => q v σ' H (k.trans k') s
  | brk ρ => exact fun σ' H k' s => q σ' H (k.trans k') s
  | cnt ρ => exact fun σ' H k' s => q σ' H (k.trans k') s
  | exc c fs ρ => exact fun cls dd σ' H k' x s => q cls dd σ' H (k.trans k') x s
  | stuck => exact q
theorem QS.frame {K : RC} {W : WX} {pr : List Nat} {fr fr' : Fr} {σ0 : L2.St} {r : RS} {Dn : Ends} (q : QS K W pr fr σ0 r Dn) (k : ∀ ρ σ H, Sim K fr' ρ σ H → Sim K fr ρ σ H) : QS K W pr fr' σ0 r Dn := by
  cases r with
  | nx ρ => exact fun σ' H k' s => q σ' H k' (k _ _ _ s)
  | ret d ρ => exact fun v σ' H k' s => q v σ' H k' (k _ _ _ s)
  | brk ρ => exact fun σ' H k' s => q σ' H k' (k _ _ _ s)
  | cnt ρ => exact fun σ' H k' s => q σ' H k' (k _ _ _ s)
  | exc c fs ρ => exact fun cls dd σ' H k' x s => q cls dd σ' H k' x (k _ _ _ s)
  | stuck => exact q
/-- an expression, then a statement's rest -/
def sE {α : Type} (m : M α) (f : α → SF) : SF := fun ρ => match m ρ with
  | .ok a ρ' => f a ρ'
  | .exc c fs ρ' => .exc c fs ρ'
  | .stuck => .stuck
theorem QS.ofE {α : Type} {K : RC} {W : WX} {pr : List Nat} {fr : Fr} {σ : L2.St} {m : M α} {f : α → SF} {ρ : Env} {Dn : Ends} (q : QS K W pr fr σ (sE m f ρ) Dn) : QR K W fr σ (m ρ) fun a ρ' => QS K W pr fr σ (f a ρ') Dn := by
  unfold sE at q
  cases e : m ρ with
  | ok a ρ' => rw [e] at q; exact q
  | exc c fs ρ' => rw [e] at q; exact fun cls dd H x s => q cls dd σ H .refl x s
  | stuck => rw [e] at q; exact q
def sNext : SF := fun ρ => .nx ρ
def sSeq (f g : SF) : SF := fun ρ => match f ρ with
  | .nx ρ' => g ρ'
  | r => r
def sIf (c : M Bool) (f g : SF) : SF := sE c fun b => if b = true then f else g
def sRet (f : M D) : SF := sE f fun d ρ => .ret d ρ
def sRetN : SF := fun ρ => .ret .non ρ
def sDrop (f : M D) : SF := sE f fun _ ρ => .nx ρ
def sBrk : SF := fun ρ => .brk ρ
def sCnt : SF := fun ρ => .cnt ρ
section
variable {ι : Type} {X : ι → Cx} {K : RC} {W : WX} {pr : List Nat} {st : Stmt} {sts : List Stmt} {F G : SF} {e : Expr} {f : M D} {pos : Pos}
theorem ss_nil : SDs X K W pr [] sNext := ⟨tNext, (fun _ => pss_nil), fun fr ρ σ H Dn S q => q σ H .refl S⟩
theorem ss_one (h : SD X K W pr st F) : SDs X K W pr [st] F := by
  obtain ⟨t, p, s⟩ := h.ex
  exact ⟨t, (fun i => pss_one (p i)), s⟩
theorem ss_cons (h : SD X K W pr st F) (h2 : SDs X K W pr sts G) : SDs X K W pr (st :: sts) (sSeq F G) := by
  obtain ⟨t, p, s⟩ := h.ex
  obtain ⟨u, p2, s2⟩ := h2.ex
  refine ⟨tSeq t u, (fun i => pss_cons (p i) (p2 i)), fun fr ρ σ H Dn S q => s fr ρ σ H _ S ?_⟩
  unfold sSeq at q
  cases e : F ρ with
  | nx ρ' =>
    rw [e] at q
    exact fun σ' H' k S' => s2 fr ρ' σ' H' Dn S' (q.from k)
  | ret d ρ' => rw [e] at q; exact q
  | brk ρ' => rw [e] at q; exact q
  | cnt ρ' => rw [e] at q; exact q
  | exc c fs ρ' => rw [e] at q; exact q
  | stuck => rw [e] at q; exact q
theorem sd_pass : SD X K W pr (.Pass pos) sNext := ⟨tNext, (fun _ => ps_pass), fun fr ρ σ H Dn S q => q σ H .refl S⟩
theorem sd_brk : SD X K W pr (.Break pos) sBrk := ⟨tBreak, (fun _ => ps_break), fun fr ρ σ H Dn S q => q σ H .refl S⟩
theorem sd_cnt : SD X K W pr (.Continue pos) sCnt := ⟨tCont, (fun _ => ps_continue), fun fr ρ σ H Dn S q => q σ H .refl S⟩
theorem sd_doc {x j pos'} : SD X K W pr (.Expr (.Constant (.str x) j pos) pos') sNext := ⟨tNext, (fun _ => ps_doc), fun fr ρ σ H Dn S q => q σ H .refl S⟩
theorem sd_expr (h : ED X K W e f) (hs : ∀ i, swapsWith e none pos.line (X i).env = pure false := by intro _; rfl) : SD X K W pr (.Expr e pos) (sDrop f) := by
  obtain ⟨t, p, s⟩ := h.ex
  exact ⟨tDrop t, (fun i => ps_expr (p i) (hs i)), fun fr ρ σ H Dn S q => s fr ρ σ H _ S (q.ofE.mono fun d ρ' q' v H' S' => q' σ H' .refl S'.drop)⟩
theorem sd_ret (h : ED X K W e f) : SD X K W pr (.Return (some e) pos) (sRet f) := by
  obtain ⟨t, p, s⟩ := h.ex
  exact ⟨tRet t, (fun i => ps_ret (p i)), fun fr ρ σ H Dn S q => s fr ρ σ H _ S (q.ofE.mono fun d ρ' q' v H' S' => q' v σ H' .refl S')⟩
theorem sd_retN : SD X K W pr (.Return none pos) sRetN := ⟨tRetN, (fun _ => ps_retN), fun fr ρ σ H Dn S q => q .non σ H .refl (S.pushF rfl)⟩
theorem sd_if {c : Expr} {gc : M Bool} {a b : List Stmt} (hc : TD X K W c gc) (h : SDs X K W pr a F) (h2 : SDs X K W pr b G) : SD X K W pr (.If c a b pos) (sIf gc F G) := by
  obtain ⟨tc, pc, sc⟩ := hc.ex
  obtain ⟨t, p, s⟩ := h.ex
  obtain ⟨u, p2, s2⟩ := h2.ex
  refine ⟨tIfS tc t u, (fun i => ps_if (pc i) (p i) (p2 i)), fun fr ρ σ H Dn S q => sc fr ρ σ H _ S (q.ofE.mono fun k ρ1 q1 H1 S1 => ?_)⟩
  cases k with
  | true => rw [if_pos rfl] at q1 ⊢; exact s fr ρ1 σ H1 Dn S1 q1
  | false => rw [if_neg Bool.false_ne_true] at q1 ⊢; exact s2 fr ρ1 σ H1 Dn S1 q1
/-! targets: what is to be stored lies ahead -/
structure GD {ι : Type} (X : ι → Cx) (K : RC) (pr : List Nat) (tg : Expr) (g : D → Env → Option Env) : Prop where
  ex : ∃ t, (∀ i, PG (X i) tg t) ∧ ∀ fr ρ σ H d v ρ' Q, Sim K fr (some d :: ρ) (some v :: σ) H → g d ρ = some ρ' → (∀ σ' H', KeepS pr σ σ' → Sim K fr ρ' σ' H' → Q σ' H') → t v σ H Q
  len : ∀ d ρ ρ', g d ρ = some ρ' → ρ'.length = ρ.length
def gSet (i : Nat) : D → Env → Option Env := fun d ρ => if i < ρ.length then some (ρ.set i (some d)) else none
theorem gd_name {i : Nat} {x : Str} (h : ∀ j, PG (X j) (.Name x pos) (gName i)) (hp : i ∉ pr := by decide) : GD X K pr (.Name x pos) (gSet i) := ⟨⟨gName i, h, fun fr ρ σ H d v ρ' Q S e q => by
  unfold gSet at e
  by_cases hi : i < ρ.length
  · rw [if_pos hi] at e
    cases e
    exact q _ H (KeepS.set hp) (S.store hi)
  · rw [if_neg hi] at e
    cases e⟩, fun d ρ ρ' e => by
  unfold gSet at e
  by_cases hi : i < ρ.length
  · rw [if_pos hi] at e
    cases e
    exact List.length_set
  · rw [if_neg hi] at e
    cases e⟩
/-- several -/
structure GDs {ι : Type} (X : ι → Cx) (K : RC) (pr : List Nat) (tgs : List Expr) (g : List D → Env → Option Env) : Prop where
  ex : ∃ t, (∀ i, PGs (X i) tgs t) ∧ ∀ fr ρ σ H ds vs ρ' Q, vs.length = ds.length → Sim K fr (ds.map some ++ ρ) (vs.map some ++ σ) H → g ds ρ = some ρ' → (∀ σ' H', KeepS pr σ σ' → Sim K fr ρ' σ' H' → Q σ' H') → t vs σ H Q
  len : ∀ ds ρ ρ', g ds ρ = some ρ' → ρ'.length = ρ.length
def gsNil : List D → Env → Option Env := fun ds ρ => if ds.isEmpty = true then some ρ else none
def gsCons (g : D → Env → Option Env) (r : List D → Env → Option Env) : List D → Env → Option Env := fun ds ρ => match ds with
  | [] => none
  | d :: ds => (g d ρ).bind fun ρ' => r ds ρ'
theorem gds_nil : GDs X K pr [] gsNil := ⟨⟨gNil, (fun _ => pgs_nil), fun fr ρ σ H ds vs ρ' Q hl S e q => by
  cases ds with
  | nil =>
    cases vs with
    | nil =>
      cases e
      exact ⟨rfl, q σ H .refl S⟩
    | cons v vs => cases hl
  | cons d ds => cases e⟩, fun ds ρ ρ' e => by
  cases ds with
  | nil => cases e; rfl
  | cons d ds => cases e⟩
theorem gds_cons {tg : Expr} {tgs : List Expr} {g : D → Env → Option Env} {r : List D → Env → Option Env} (h : GD X K pr tg g) (h2 : GDs X K pr tgs r) (hs : ∀ i, (assignEach (tg :: tgs) (X i).env).map (·.2) = assign tg (X i).env :: (assignEach tgs (X i).env).map (·.2) := by intro _; rfl) : GDs X K pr (tg :: tgs) (gsCons g r) := by
  obtain ⟨t, p, s⟩ := h.ex
  obtain ⟨u, p2, s2⟩ := h2.ex
  refine ⟨⟨gCons t u, (fun i => pgs_cons (p i) (p2 i) (hs i)), fun fr ρ σ H ds vs ρ' Q hl S e q => ?_⟩, fun ds ρ ρ' e => ?_⟩
  rotate_left
  · cases ds with
    | nil => cases e
    | cons d ds =>
      unfold gsCons at e
      cases e1 : g d ρ with
      | none => simp [e1] at e
      | some ρ1 =>
        simp [e1] at e
        rw [h2.len _ _ _ e, h.len _ _ _ e1]
  cases ds with
  | nil => cases e
  | cons d ds =>
    cases vs with
    | nil => cases hl
    | cons v vs =>
      refine ⟨v, vs, rfl, ?_⟩
      have hl' : vs.length = ds.length := by simpa using hl
      unfold gsCons at e
      cases e1 : g d ρ with
      | none => simp [e1] at e
      | some ρ1 =>
        simp [e1] at e
        -- d stays, the others are held
        have S' : Sim K fr ([some d] ++ (ds.map some ++ ρ)) ([some v] ++ (vs.map some ++ σ)) H := S
        have S1 := Sim.swap (ρ1 := [some d]) (σ1 := [some v]) rfl S'
        rw [List.append_assoc, List.append_assoc] at S1
        obtain ⟨fr', S2, back⟩ := Sim.holdN (by simpa using hl') S1
        have S3 := Sim.swap (ρ1 := ρ) (ρ2 := [some d]) (by have := S2.len; simpa using this) S2
        refine s fr' ρ σ H d v ρ1 _ S3 e1 fun σ1 H1 k1 S4 => ?_
        have S5 := back _ _ _ S4
        exact s2 fr ρ1 σ1 H1 ds vs ρ' Q hl' S5 e fun σ2 H2 k2 S6 => q σ2 H2 (k1.trans k2) S6
def gTupD (n : Nat) (r : List D → Env → Option Env) : D → Env → Option Env := fun d ρ => match d with
  | .tup ds => if ds.length = n then r ds ρ else none
  | _ => none
theorem gd_tup {tgs : List Expr} {k : Nat} {r : List D → Env → Option Env} {t : TGs} {n : Nat} (hp : ∀ i t, PGs (X i) tgs t → PG (X i) (.Tuple tgs k pos) (gTup K.K n t)) (h : GDs X K pr tgs r) : GD X K pr (.Tuple tgs k pos) (gTupD n r) := by
  obtain ⟨u, p, s⟩ := h.ex
  refine ⟨⟨gTup K.K n u, (fun i => hp i u (p i)), fun fr ρ σ H d v ρ' Q S e q => ?_⟩, fun d ρ ρ' e => ?_⟩
  rotate_left
  · cases d with
    | tup ds =>
      unfold gTupD at e
      by_cases hn : ds.length = n
      · simp [hn] at e
        exact h.len _ _ _ e
      · simp [hn] at e
    | _ => cases e
  cases d with
  | tup ds =>
    unfold gTupD at e
    by_cases hn : ds.length = n
    · simp [hn] at e
      obtain ⟨a, xs, rfl, hl, ht, _, S1⟩ := S.explode (ds := ds) rfl
      exact ⟨a, xs, rfl, ht, by rw [hl, hn], s fr ρ σ H ds xs ρ' Q hl S1 e q⟩
    · simp [hn] at e
  | _ => cases e
def sAsg (f : M D) (g : D → Env → Option Env) : SF := sE f fun d ρ => match g d ρ with
  | some ρ' => .nx ρ'
  | none => .stuck
theorem sd_asg {tg : Expr} {g : D → Env → Option Env} (hp : ∀ i te tg', PE (X i) e te → PG (X i) tg tg' → PS (X i) (.Assign [tg] e pos) (tAsg te tg')) (h : ED X K W e f) (hg : GD X K pr tg g) : SD X K W pr (.Assign [tg] e pos) (sAsg f g) := by
  obtain ⟨t, p, s⟩ := h.ex
  obtain ⟨u, p2, s2⟩ := hg.ex
  refine ⟨tAsg t u, (fun i => hp i t u (p i) (p2 i)), fun fr ρ σ H Dn S q => s fr ρ σ H _ S (q.ofE.mono fun d ρ1 q1 v H1 S1 => ?_)⟩
  cases e1 : g d ρ1 with
  | none => rw [e1] at q1; exact q1.elim
  | some ρ2 =>
    rw [e1] at q1
    exact s2 fr ρ1 σ H1 d v ρ2 _ S1 e1 q1
/-- the variable in a slot is frozen from here on (nothing runs) -/
def frzAt (i : Nat) (ρ : Env) : Env := match ρ[i]? with
  | some (some d) => ρ.set i (some (frz d))
  | _ => ρ
def sFrz (i : Nat) (F : SF) : SF := fun ρ => F (frzAt i ρ)
theorem set_set_ {α : Type} : ∀ {l : List α} {i : Nat} {x y : α}, (l.set i x).set i y = l.set i y
  | [], _, _, _ => rfl
  | a :: l, 0, x, y => rfl
  | a :: l, i + 1, x, y => by
    show a :: (l.set i x).set i y = a :: l.set i y
    rw [set_set_]
theorem Sim.frzAt {K : RC} {fr : Fr} {ρ : Env} {σ : L2.St} {H : Hp} {i : Nat} (S : Sim K fr ρ σ H) : Sim K fr (DL.frzAt i ρ) σ H := by
  unfold DL.frzAt
  cases e : ρ[i]? with
  | none => exact S
  | some o => cases o with
    | none => exact S
    | some d =>
      obtain ⟨v, e1, S1⟩ := S.move e
      have z := S1.frz.back e1
      rw [set_set_] at z
      exact z
theorem ss_frz {i : Nat} (h : SDs X K W pr sts F) : SDs X K W pr sts (sFrz i F) := by
  obtain ⟨t, p, s⟩ := h.ex
  exact ⟨t, p, fun fr ρ σ H Dn S q => s fr (frzAt i ρ) σ H Dn S.frzAt q⟩
end
end DL

set_option Elab.async false
set_option linter.all false
set_option maxRecDepth 100000
set_option maxHeartbeats 4000000
namespace DL
open PySem PySem.Spec L2
/-! ### while -/
def whileN (c : M Bool) (b : SF) : Nat → SF
  | 0 => fun _ => .stuck
  | n + 1 => sE c fun k => if k = true then (fun ρ => match b ρ with
      | .nx ρ' => whileN c b n ρ'
      | .cnt ρ' => whileN c b n ρ'
      | .brk ρ' => .nx ρ'
      | r => r) else sNext
open Classical in
noncomputable def sWhile (c : M Bool) (b : SF) : SF := fun ρ => if h : ∃ n, whileN c b n ρ ≠ .stuck then whileN c b h.choose ρ else .stuck
theorem whileN_mono (c : M Bool) (b : SF) : ∀ (n m : Nat) (ρ : Env), n ≤ m → whileN c b n ρ ≠ .stuck → whileN c b m ρ = whileN c b n ρ
  | 0, _, _, _, h => absurd rfl h
  | n + 1, 0, _, hm, _ => absurd hm (by omega)
  | n + 1, m + 1, ρ, hm, h => by
    unfold whileN sE at h ⊢
    cases e : c ρ with
    | stuck => rfl
    | exc x y z => rfl
    | ok k ρ1 =>
      rw [e] at h
      simp only at h ⊢
      cases k with
      | false => rfl
      | true =>
        rw [if_pos rfl] at h ⊢
        rw [if_pos rfl]
        cases e2 : b ρ1 with
        | nx ρ2 => rw [e2] at h; exact whileN_mono c b n m ρ2 (by omega) h
        | cnt ρ2 => rw [e2] at h; exact whileN_mono c b n m ρ2 (by omega) h
        | _ => rfl
theorem sWhile_of {c : M Bool} {b : SF} {n : Nat} {ρ : Env} {r : RS} (h : whileN c b n ρ = r) (hr : r ≠ .stuck) : sWhile c b ρ = r := by
  have ex : ∃ n, whileN c b n ρ ≠ .stuck := ⟨n, by rw [h]; exact hr⟩
  unfold sWhile
  rw [dif_pos ex]
  have h1 := ex.choose_spec
  rcases Nat.le_total n ex.choose with q | q
  · rw [whileN_mono c b n _ ρ q (by rw [h]; exact hr), h]
  · rw [← whileN_mono c b _ n ρ q h1, h]
theorem sWhile_eq (c : M Bool) (b : SF) (ρ : Env) : sWhile c b ρ = sE c (fun k => if k = true then (fun ρ => match b ρ with
      | .nx ρ' => sWhile c b ρ'
      | .cnt ρ' => sWhile c b ρ'
      | .brk ρ' => .nx ρ'
      | r => r) else sNext) ρ := by
  unfold sE
  have one : ∀ n, whileN c b (n + 1) ρ = sE c (fun k => if k = true then (fun ρ => match b ρ with
      | .nx ρ' => whileN c b n ρ'
      | .cnt ρ' => whileN c b n ρ'
      | .brk ρ' => .nx ρ'
      | r => r) else sNext) ρ := fun n => rfl
  have stuckOf : ∀ ρ', (∀ n, whileN c b n ρ' = .stuck) → sWhile c b ρ' = .stuck := fun ρ' hs => by
    unfold sWhile
    rw [dif_neg]
    rintro ⟨n, h⟩
    exact h (hs n)
  have tail : ∀ ρ2, (∀ n, whileN c b (n + 1) ρ = whileN c b n ρ2) → sWhile c b ρ = sWhile c b ρ2 := fun ρ2 hs => by
    by_cases h : ∃ n, whileN c b n ρ2 ≠ .stuck
    · obtain ⟨n, h⟩ := h
      rw [sWhile_of rfl h, sWhile_of (hs n) h]
    · have h2 : ∀ n, whileN c b n ρ2 = .stuck := fun n => Classical.byContradiction fun q => h ⟨n, q⟩
      rw [stuckOf ρ2 h2]
      refine stuckOf ρ fun n => ?_
      cases n with
      | zero => rfl
      | succ n => rw [hs n, h2 n]
  have done : ∀ r, whileN c b 1 ρ = r → r ≠ .stuck → sWhile c b ρ = r := fun r h hr => sWhile_of h hr
  cases e : c ρ with
  | stuck =>
    refine stuckOf ρ fun n => ?_
    cases n with
    | zero => rfl
    | succ n => rw [one n]; unfold sE; rw [e]
  | exc x y z =>
    refine done _ ?_ (fun q => nomatch q)
    rw [one 0]; unfold sE; rw [e]
  | ok k ρ1 =>
    cases k with
    | false =>
      refine done _ ?_ (fun q => nomatch q)
      rw [one 0]; unfold sE; rw [e]; rfl
    | true =>
      simp only [if_true]
      have u : ∀ n, whileN c b (n + 1) ρ = (match b ρ1 with
        | .nx ρ' => whileN c b n ρ'
        | .cnt ρ' => whileN c b n ρ'
        | .brk ρ' => .nx ρ'
        | r => r) := fun n => by rw [one n]; unfold sE; rw [e]; rfl
      cases e2 : b ρ1 with
      | nx ρ2 => exact tail ρ2 fun n => by rw [u n, e2]
      | cnt ρ2 => exact tail ρ2 fun n => by rw [u n, e2]
      | brk ρ2 => exact done _ (by rw [u 0, e2]) (fun q => nomatch q)
      | ret d ρ2 => exact done _ (by rw [u 0, e2]) (fun q => nomatch q)
      | exc x y z => exact done _ (by rw [u 0, e2]) (fun q => nomatch q)
      | stuck =>
        refine stuckOf ρ fun n => ?_
        cases n with
        | zero => rfl
        | succ n => rw [u n, e2]
section
variable {ι : Type} {X : ι → Cx} {K : RC} {W : WX} {pr : List Nat} {F G : SF} {e : Expr} {f : M D} {pos : Pos}
theorem sd_while {c : Expr} {gc : M Bool} {body : List Stmt} (hp : ∀ i, PassesOwn (model (X i).prog (X i).w) (X i).A (X i).env (X i).xe) (hc : TD X K W c gc) (hb : SDs X K W pr body F) : SD X K W pr (.While c body [] pos) (sWhile gc F) := by
  obtain ⟨tc, pc, sc⟩ := hc.ex
  obtain ⟨t, p, s⟩ := hb.ex
  refine ⟨tWhile tc t, (fun i => ps_while (hp i) (pc i) (p i)), fun fr ρ σ H Dn S q => ?_⟩
  have ex : ∃ n, QS K W pr fr σ (whileN gc F n ρ) Dn := by
    unfold sWhile at q
    by_cases h : ∃ n, whileN gc F n ρ ≠ .stuck
    · rw [dif_pos h] at q; exact ⟨_, q⟩
    · rw [dif_neg h] at q; exact q.elim
  obtain ⟨n0, q0⟩ := ex
  refine ⟨fun m σ1 H1 => ∃ ρ1, Sim K fr ρ1 σ1 H1 ∧ QS K W pr fr σ1 (whileN gc F m ρ1) Dn, ⟨n0, ρ, S, q0⟩, ?_⟩
  rintro m σ1 H1 ⟨ρ1, S1, q1⟩
  cases m with
  | zero => exact q1.elim
  | succ m =>
    refine sc fr ρ1 σ1 H1 _ S1 ((QS.ofE q1).mono fun k ρ2 q2 H2 S2 => ?_)
    cases k with
    | false =>
      rw [if_neg Bool.false_ne_true] at q2 ⊢
      exact q2 σ1 H2 .refl S2
    | true =>
      rw [if_pos rfl] at q2 ⊢
      refine ⟨fun σ' H' => ∃ ρ', Sim K fr ρ' σ' H' ∧ QS K W pr fr σ' (whileN gc F m ρ') Dn, fun σ' H' h => ⟨m, by omega, h⟩, ?_⟩
      refine s fr ρ2 σ1 H2 _ S2 ?_
      cases e2 : F ρ2 with
      | nx ρ3 =>
        rw [e2] at q2
        exact fun σ3 H3 k3 S3 => ⟨ρ3, S3, QS.from k3 q2⟩
      | cnt ρ3 =>
        rw [e2] at q2
        exact fun σ3 H3 k3 S3 => ⟨ρ3, S3, QS.from k3 q2⟩
      | brk ρ3 => rw [e2] at q2; exact fun σ3 H3 k3 S3 => q2 σ3 H3 k3 S3
      | ret d ρ3 => rw [e2] at q2; exact q2
      | exc x y z => rw [e2] at q2; exact q2
      | stuck => rw [e2] at q2; exact q2.elim
/-! ### for -/
/-- the walk J yields the data ds under the frame fr -/
structure Yields (K : RC) (J : It) (fr : Fr) (ds : List D) : Prop where
  go : ∀ i H ρ σ, Sim K fr ρ σ H → i < ds.length → J.go i H
  stop : ∀ i H ρ σ, Sim K fr ρ σ H → ds.length ≤ i → J.stop i H
  yld : ∀ i H x H' ρ σ d, Sim K fr ρ σ H → ds[i]? = some d → J.yld i H x H' → Sim K fr (some d :: ρ) (some x :: σ) H'
structure ID {ι : Type} (X : ι → Cx) (K : RC) (W : WX) (tg iter : Expr) (f : M (List D)) : Prop where
  ex : ∃ wi, (∀ i, PI (X i) tg iter wi) ∧ ∀ fr ρ σ H R, Sim K fr ρ σ H → QR K W fr σ (f ρ) (fun ds ρ' => ∀ J H1 fr1, Sim K fr1 ρ' σ H1 → (∀ ρ σ H, Sim K fr1 ρ σ H → Sim K fr ρ σ H) → Yields K J fr1 ds → R J H1) → wi σ H R
def forGo (g : D → Env → Option Env) (b : SF) : List D → SF
  | [] => fun ρ => .nx ρ
  | d :: ds => fun ρ => match g d ρ with
    | none => .stuck
    | some ρ1 => match b ρ1 with
      | .nx ρ' => forGo g b ds ρ'
      | .cnt ρ' => forGo g b ds ρ'
      | .brk ρ' => .nx ρ'
      | r => r
def sFor (f : M (List D)) (g : D → Env → Option Env) (b : SF) : SF := sE f fun ds => forGo g b ds
theorem drop_get {α : Type} {l : List α} {i : Nat} {d : α} (h : l[i]? = some d) : l.drop i = d :: l.drop (i + 1) := by
  obtain ⟨hi, e⟩ := List.getElem?_eq_some_iff.mp h
  rw [List.drop_eq_getElem_cons hi, e]
theorem sd_for {tg iter : Expr} {body : List Stmt} {fi : M (List D)} {g : D → Env → Option Env} (hp : ∀ i, PassesOwn (model (X i).prog (X i).w) (X i).A (X i).env (X i).xe) (hc : ∀ i, (X i).calm = true) (hi : ID X K W tg iter fi) (hg : GD X K pr tg g) (hb : SDs X K W pr body F)
    (hs : ∀ i x, foldedSetIterable iter (X i).env x = pure x := by intro _ _; rfl) : SD X K W pr (.For tg iter body [] pos) (sFor fi g F) := by
  obtain ⟨wi, pi, si⟩ := hi.ex
  obtain ⟨u, p2, s2⟩ := hg.ex
  obtain ⟨t, p, s⟩ := hb.ex
  refine ⟨tFor wi u t, (fun i => ps_for (hp i) (hc i) (pi i) (p2 i) (p i) (hs i)), fun fr ρ σ H Dn S q => ?_⟩
  refine si fr ρ σ H _ S ((QS.ofE q).mono fun ds ρ1 q1 J H1 fr1 S1 back Y => ?_)
  refine ⟨fun i m σ2 H2 => ∃ ρ2, i + m = ds.length ∧ Sim K fr1 ρ2 σ2 H2 ∧ QS K W pr fr1 σ2 (forGo g F (ds.drop i) ρ2) Dn, ⟨ds.length, ρ1, by omega, S1, q1.frame back⟩, ?_⟩
  rintro i m σ2 H2 ⟨ρ2, hm, S2, q2⟩
  by_cases hlt : i < ds.length
  · refine .inr ⟨Y.go i H2 ρ2 σ2 S2 hlt, fun σ' H' => ∃ ρ', i + 1 + (m - 1) = ds.length ∧ Sim K fr1 ρ' σ' H' ∧ QS K W pr fr1 σ' (forGo g F (ds.drop (i + 1)) ρ') Dn, fun σ' H' h => ⟨m - 1, by omega, h⟩, fun x H' hy => ?_⟩
    have hd : ds[i]? = some ds[i] := List.getElem?_eq_getElem hlt
    have S3 := Y.yld i H2 x H' ρ2 σ2 ds[i] S2 hd hy
    rw [drop_get hd] at q2
    unfold forGo at q2
    cases e1 : g ds[i] ρ2 with
    | none => rw [e1] at q2; exact q2.elim
    | some ρ3 =>
      rw [e1] at q2
      refine s2 fr1 ρ2 σ2 H' ds[i] x ρ3 _ S3 e1 fun σ4 H4 k4 S4 => ?_
      refine s fr1 ρ3 σ4 H4 _ S4 ?_
      simp only at q2
      cases e2 : F ρ3 with
      | nx ρ5 =>
        rw [e2] at q2
        exact fun σ5 H5 k5 S5 => ⟨ρ5, by omega, S5, QS.from (k4.trans k5) q2⟩
      | cnt ρ5 =>
        rw [e2] at q2
        exact fun σ5 H5 k5 S5 => ⟨ρ5, by omega, S5, QS.from (k4.trans k5) q2⟩
      | brk ρ5 => rw [e2] at q2; exact fun σ5 H5 k5 S5 => q2 σ5 H5 (k4.trans k5) S5
      | ret d ρ5 => rw [e2] at q2; exact fun v σ5 H5 k5 S5 => q2 v σ5 H5 (k4.trans k5) S5
      | exc x y z => rw [e2] at q2; exact fun cls dd σ5 H5 k5 xx S5 => q2 cls dd σ5 H5 (k4.trans k5) xx S5
      | stuck => rw [e2] at q2; exact q2.elim
  · refine .inl ⟨Y.stop i H2 ρ2 σ2 S2 (by omega), ?_⟩
    rw [List.drop_eq_nil_of_le (by omega)] at q2
    exact q2 σ2 H2 .refl S2
/-! ### comprehensions -/
def wipeE (ρ : Env) : List Nat → Env
  | [] => ρ
  | v :: vs => (wipeE ρ vs).set v none
theorem Sim.wiped {K : RC} {fr : Fr} {ρ : Env} {σ : L2.St} {H : Hp} (S : Sim K fr ρ σ H) : ∀ vs : List Nat, Sim K fr (wipeE ρ vs) (wipe σ vs) H
  | [] => S
  | v :: vs => (Sim.wiped S vs).clear none
theorem wipeE_none : ∀ {vs : List Nat} {ρ : Env} {i : Nat}, i ∈ vs → i < ρ.length → (wipeE ρ vs)[i]? = some none
  | [], _, _, h, _ => by cases h
  | v :: vs, ρ, i, h, hl => by
    have wl : ∀ vs : List Nat, (wipeE ρ vs).length = ρ.length := fun vs => by
      induction vs with
      | nil => rfl
      | cons w ws ih => show ((wipeE ρ ws).set w none).length = _; rw [List.length_set, ih]
    show ((wipeE ρ vs).set v none)[i]? = some none
    by_cases e : v = i
    · subst e
      rw [List.getElem?_set_self (by rw [wl]; exact hl)]
    · rw [List.getElem?_set_ne e]
      rcases List.mem_cons.mp h with z | z
      · exact absurd z.symm e
      · exact wipeE_none z hl
/-- empty slots may hold anything -/
theorem Sl.any {K : RC} {F H : Hp} : ∀ {ρ : Env} {σ τ : L2.St} {A : List Addr}, Sl K F H ρ σ A → τ.length = σ.length → (∀ i : Nat, ρ[i]? ≠ some none → τ[i]? = σ[i]?) → Sl K F H ρ τ A
  | [], σ, τ, A, r, hl, _ => by
    obtain ⟨rfl, rfl⟩ := r
    exact ⟨List.length_eq_zero_iff.mp hl, rfl⟩
  | x :: ρ, σ, τ, A, r, hl, h => by
    obtain ⟨s, σ', B, C, rfl, rfl, r1, r2⟩ := r
    cases τ with
    | nil => cases hl
    | cons t τ =>
      have r2' := Sl.any (τ := τ) r2 (by simpa using hl) fun i hi => by simpa using h (i + 1) (by simpa using hi)
      refine ⟨t, τ, B, C, rfl, rfl, ?_, r2'⟩
      cases x with
      | none => exact r1
      | some d =>
        have z := h 0 (by simp)
        have z : some t = some s := by simpa using z
        cases z
        exact r1
theorem wipe_get : ∀ {vs : List Nat} {σ : L2.St} {i : Nat}, i ∉ vs → (wipe σ vs)[i]? = σ[i]?
  | [], _, _, _ => rfl
  | v :: vs, σ, i, h => by
    show ((wipe σ vs).set v none)[i]? = _
    rw [List.getElem?_set_ne (fun e => h (by simp [e])), wipe_get (fun z => h (List.mem_cons_of_mem _ z))]
theorem Sim.unwipe {K : RC} {fr : Fr} {ρ : Env} {σ : L2.St} {H : Hp} {vs : List Nat} (S : Sim K fr (wipeE ρ vs) (wipe σ vs) H) : Sim K fr (wipeE ρ vs) σ H := by
  obtain ⟨A, S⟩ := S
  have hl := S.sl.len
  have wl : (wipeE ρ vs).length = ρ.length := by
    clear hl S
    induction vs with
    | nil => rfl
    | cons w ws ih => show ((wipeE ρ ws).set w none).length = _; rw [List.length_set, ih]
  have hl2 : σ.length = ρ.length := by rw [← wl, ← hl, wipe_length]
  refine ⟨A, S.sl.any (by rw [wipe_length]) fun i hi => ?_, S.nd, S.off, S.keep, S.tr⟩
  by_cases h : i ∈ vs
  · by_cases hl3 : i < ρ.length
    · exact absurd (wipeE_none h hl3) hi
    · rw [List.getElem?_eq_none (by omega), List.getElem?_eq_none (by rw [wipe_length]; omega)]
  · exact (wipe_get h).symm
theorem wipe_eq {pr vs : List Nat} {σ σ' : L2.St} (k : KeepS pr σ σ') (hl : σ'.length = σ.length) (hp : ∀ j, j < σ.length → j ∉ vs → j ∈ pr) : wipe σ' vs = wipe σ vs := by
  refine List.ext_getElem? fun i => ?_
  have gs : ∀ (σ : L2.St) (vs : List Nat) (i : Nat), i ∈ vs → i < σ.length → (wipe σ vs)[i]? = some none := fun σ vs i h hl => by
    induction vs with
    | nil => cases h
    | cons v vs ih =>
      show ((wipe σ vs).set v none)[i]? = some none
      by_cases e : v = i
      · subst e
        rw [List.getElem?_set_self (by rw [wipe_length]; exact hl)]
      · rw [List.getElem?_set_ne e]
        rcases List.mem_cons.mp h with z | z
        · exact absurd z.symm e
        · exact ih z
  by_cases hi : i < σ.length
  · by_cases h : i ∈ vs
    · rw [gs σ' vs i h (by omega), gs σ vs i h hi]
    · rw [wipe_get h, wipe_get h]
      exact k i (hp i hi h)
  · rw [List.getElem?_eq_none (by rw [wipe_length]; omega), List.getElem?_eq_none (by rw [wipe_length]; omega)]
/-- one more item at the end of the list ahead -/
theorem Sim.append {K : RC} {fr : Fr} {ρ : Env} {σ : L2.St} {H : Hp} {ds : List D} {d : D} {p : Addr} {v : V} (S : Sim K fr (some (.lst true ds) :: some d :: ρ) (some (.ref p) :: some v :: σ) H) :
    ∃ xs, H p = some (.lst xs) ∧ xs.length = ds.length ∧ Sim K fr (some (.lst true (ds ++ [d])) :: ρ) (some (.ref p) :: σ) (upd H p (.lst (xs ++ [v]))) := by
  obtain ⟨A, S⟩ := S
  obtain ⟨s1, τ1, B1, C1, e1, rfl, ⟨v1, ev, r1⟩, r2⟩ := S.sl
  injection e1 with e1 e2
  subst e1 e2
  cases ev
  obtain ⟨s2, τ2, B2, C2, e3, rfl, ⟨v2, ev, r3⟩, r4⟩ := r2
  injection e3 with e3 e4
  subst e3 e4
  cases ev
  obtain ⟨a, xs, B, ea, rfl, hx, r1⟩ := r1
  cases ea
  refine ⟨xs, hx, r1.len, p :: (B ++ B2) ++ C2, ?_⟩
  have sub : ∀ a ∈ p :: (B ++ B2) ++ C2, a ∈ p :: B ++ (B2 ++ C2) ∨ H a = none := fun a z => .inl (by simpa [List.append_assoc] using z)
  have nd : (p :: (B ++ B2) ++ C2).Nodup := by
    have := S.nd
    simpa [List.append_assoc] using this
  have pn : p ∉ B ++ (B2 ++ C2) := by
    have := S.nd
    rw [List.cons_append] at this
    exact (List.nodup_cons.mp this).1
  have kp : ∀ a o, a ≠ p → H a = some o → upd H p (.lst (xs ++ [v])) a = some o := fun a o n e => by rw [upd_ne n]; exact e
  have kpA : ∀ a o, a ∉ p :: B ++ (B2 ++ C2) → H a = some o → upd H p (.lst (xs ++ [v])) a = some o := fun a o n e => kp a o (fun z => n (by simp [z])) e
  have f := S.fro sub (H' := upd H p (.lst (xs ++ [v]))) kpA
  have ne : ∀ a, a ∈ B ++ (B2 ++ C2) → a ≠ p := fun a z e => pn (e ▸ z)
  refine S.next sub nd kpA ⟨some (.ref p), _, p :: (B ++ B2), C2, rfl, rfl, ⟨.ref p, rfl, p, xs ++ [v], B ++ B2, rfl, rfl, upd_same, ?_⟩, r4.mono f fun a z o e => kp a o (ne a (by simp [z])) e⟩
  refine RepL.app (RepL.mono f _ _ _ (fun a z o e => kp a o (ne a (by simp [z])) e) r1) ?_
  exact ⟨v, [], B2, [], rfl, by simp, Rep.mono f _ _ _ (fun a z o e => kp a o (ne a (by simp [z])) e) r3, rfl, rfl⟩
def noX {α : Type} (r : Res α) : Res α := match r with
  | .exc _ _ _ => .stuck
  | r => r
def lcGo (g : D → Env → Option Env) (tt : M Bool) (te : M D) (vs : List Nat) : List D → M (List D)
  | [] => fun ρ => .ok [] (wipeE ρ vs)
  | d :: ds => fun ρ => match g d (wipeE ρ vs) with
    | none => .stuck
    | some ρ1 => mbind tt (fun b => if b = true then mbind te fun y => mbind (lcGo g tt te vs ds) fun ys => mret (y :: ys) else lcGo g tt te vs ds) ρ1
def eLc (fi : M (List D)) (g : D → Env → Option Env) (tt : M Bool) (te : M D) (vs : List Nat) : M D := mbind fi fun ds ρ => if ds.length < sizeLine then noX (mbind (lcGo g tt te vs ds) (fun ys => mret (.lst true ys)) ρ) else .stuck
abbrev W0 : WX := fun _ _ _ _ => False
end
end DL

set_option Elab.async false
set_option linter.all false
set_option maxRecDepth 100000
set_option maxHeartbeats 4000000
namespace DL
open PySem PySem.Spec L2
section
variable {K : RC} {fr : Fr} {ρ : Env} {σ : L2.St} {H : Hp}
theorem Sim.xch {x y : Option D} {s t : Option V} (S : Sim K fr (x :: y :: ρ) (s :: t :: σ) H) : Sim K fr (y :: x :: ρ) (t :: s :: σ) H := by
  obtain ⟨A, T⟩ := S
  obtain ⟨s1, τ1, B1, C1, e1, rfl, r1, r2⟩ := T.sl
  injection e1 with e1 e2
  subst e1 e2
  obtain ⟨s2, τ2, B2, C2, e3, rfl, r3, r4⟩ := r2
  injection e3 with e3 e4
  subst e3 e4
  have sub : ∀ q ∈ B2 ++ (B1 ++ C2), q ∈ B1 ++ (B2 ++ C2) ∨ H q = none := fun q z => .inl (by
    simp only [List.mem_append] at z ⊢
    rcases z with z | z | z
    · exact .inr (.inl z)
    · exact .inl z
    · exact .inr (.inr z))
  have g := T.fro sub (H' := H) fun a o _ e => e
  exact ⟨_, T.next sub (perm_nodup T.nd) (fun a o _ e => e) ⟨t, s :: σ, B2, B1 ++ C2, rfl, rfl, r3.mono g fun a _ o e => e, s, σ, B1, C2, rfl, rfl, r1.mono g fun a _ o e => e, r4.mono g fun a _ o e => e⟩⟩
theorem Sim.wiped1 {x : Option D} {s : Option V} (S : Sim K fr (x :: ρ) (s :: σ) H) (vs : List Nat) : Sim K fr (x :: wipeE ρ vs) (s :: wipe σ vs) H := by
  obtain ⟨fr', S', back⟩ := S.hold
  exact back _ _ _ (S'.wiped vs)
theorem Sim.unwipe1 {x : Option D} {s : Option V} {vs : List Nat} (S : Sim K fr (x :: wipeE ρ vs) (s :: wipe σ vs) H) : Sim K fr (x :: wipeE ρ vs) (s :: σ) H := by
  obtain ⟨fr', S', back⟩ := S.hold
  exact back _ _ _ S'.unwipe
theorem wipeE_len (ρ : Env) : ∀ vs : List Nat, (wipeE ρ vs).length = ρ.length
  | [] => rfl
  | v :: vs => by show ((wipeE ρ vs).set v none).length = _; rw [List.length_set, wipeE_len ρ vs]
end
abbrev blkF {ι : Type} (X : ι → Cx) (scope : Scope) : (ι × Shared × Hp × Addr × List (Str × Addr) × List Addr) → Cx := fun j => (X j.1).blk j.2.1 j.2.2.1 scope (compEnvC scope j.2.2.2.2.1 j.2.2.2.1 (X j.1).env) j.2.2.2.2.2
/-- a comprehension's tests -/
structure LD {ι : Type} (X : ι → Cx) (K : RC) (ifs : List Expr) (f : M Bool) : Prop where
  ex : ∃ t, (∀ i, PTs (X i) ifs t) ∧ ∀ fr ρ σ H Q, Sim K fr ρ σ H → QT K W0 fr σ (f ρ) Q → t σ H Q
def mYes : M Bool := mret true
def prOf (L : Nat) (vs : List Nat) : List Nat := (List.range L).filter fun j => !vs.contains j
theorem mem_prOf {L : Nat} {vs : List Nat} {j : Nat} (h : j < L) (n : j ∉ vs) : j ∈ prOf L vs := by
  unfold prOf
  rw [List.mem_filter]
  exact ⟨List.mem_range.mpr h, by simpa using n⟩
def eLcL (L : Nat) (fi : M (List D)) (g : D → Env → Option Env) (tt : M Bool) (te : M D) (vs : List Nat) : M D := mbind fi fun ds ρ => if ds.length < sizeLine ∧ ρ.length = L then noX (mbind (lcGo g tt te vs ds) (fun ys => mret (.lst true ys)) ρ) else .stuck
theorem noX_ok {α : Type} {r : Res α} {K : RC} {W : WX} {fr : Fr} {σ : L2.St} {p : α → Env → Prop} (h : QR K W fr σ (noX r) p) : ∃ a ρ, r = .ok a ρ ∧ p a ρ := by
  cases r with
  | ok a ρ => exact ⟨a, ρ, rfl, h⟩
  | exc c fs ρ => exact h.elim
  | stuck => exact h.elim
theorem mbind_ok {α β : Type} {m : M α} {f : α → M β} {ρ ρ' : Env} {b : β} (h : mbind m f ρ = .ok b ρ') : ∃ a ρ1, m ρ = .ok a ρ1 ∧ f a ρ1 = .ok b ρ' := by
  unfold mbind at h
  cases e : m ρ with
  | ok a ρ1 => rw [e] at h; exact ⟨a, ρ1, rfl, h⟩
  | exc c fs ρ1 => rw [e] at h; cases h
  | stuck => rw [e] at h; cases h
section
variable {ι : Type} {X : ι → Cx} {K : RC} {W : WX}
theorem ld_nil {κ : Type} {Y : κ → Cx} : LD Y K [] mYes := ⟨tYes, (fun _ => pts_nil), fun fr ρ σ H Q S q => q H S⟩
theorem ld_one {κ : Type} {Y : κ → Cx} {c : Expr} {f : M Bool} (h : TD Y K W0 c f) : LD Y K [c] f := by
  obtain ⟨t, p, s⟩ := h.ex
  exact ⟨t, (fun i => pts_one (p i)), s⟩
theorem lc_parts {elt tg iter : Expr} {ifs : List Expr} {scope : Scope} {vs : List Nat} {fi : M (List D)} {g : D → Env → Option Env} {gt : M Bool} {fe : M D} (L : Nat) (hc : ∀ i, (X i).calm = true) (hN : ∀ i, (X i).N.Nodup)
    (hi : ID X K W tg iter fi) (hg : GD (blkF X scope) K (prOf L vs) tg g) (ht : LD (blkF X scope) K ifs gt) (he : ED (blkF X scope) K W0 elt fe) :
    ∃ wi u tt te, (∀ i, PI (X i) tg iter wi) ∧ (∀ j, PG (blkF X scope j) tg u) ∧ (∀ j, PTs (blkF X scope j) ifs tt) ∧ (∀ j, PE (blkF X scope j) elt te) ∧ ∀ fr ρ σ H Q, Sim K fr ρ σ H → QE K W fr σ (eLcL L fi g gt fe vs ρ) Q → tLc wi u tt te vs σ H Q := by
  obtain ⟨wi, pi, si⟩ := hi.ex
  obtain ⟨u, p2, s2⟩ := hg.ex
  obtain ⟨tt, p3, s3⟩ := ht.ex
  obtain ⟨te, p4, s4⟩ := he.ex
  refine ⟨wi, u, tt, te, pi, p2, p3, p4, fun fr ρ σ H Q S q => ?_⟩
  refine si fr ρ σ H _ S ((QR.bind q).mono fun ds ρ1 q1 J H1 fr1 S1 back Y => ?_)
  by_cases hz : ds.length < sizeLine ∧ ρ1.length = L
  · simp only [hz, and_self, if_true] at q1
    obtain ⟨dl, ρe, e, q2⟩ := noX_ok q1
    obtain ⟨ys, ρe', e2, e3⟩ := mbind_ok e
    cases e3
    intro Dd hD
    have S0 : Sim K fr1 (some (.lst true []) :: ρ1) (some (.ref Dd) :: σ) (upd H1 Dd (.lst [])) := Sim.newL (ds := []) (vs := []) S1 rfl hD
    refine ⟨fun i m H2 => ∃ acc ρ2 ys ρe, i + m = ds.length ∧ acc.length ≤ i ∧ ρ2.length = L ∧ Sim K fr1 (some (.lst true acc) :: wipeE ρ2 vs) (some (.ref Dd) :: wipe σ vs) H2 ∧ lcGo g gt fe vs (ds.drop i) ρ2 = .ok ys ρe ∧
      ∀ v H, Sim K fr1 (some (.lst true (acc ++ ys)) :: ρe) (some v :: σ) H → Q v H, ⟨ds.length, [], ρ1, ys, _, by omega, Nat.le_refl _, hz.2, S0.wiped1 vs, e2, fun v H S => q2 v H (back _ _ _ S)⟩, ?_⟩
    rintro i m H2 ⟨acc, ρ2, ys, ρe, hm, ha, hL, S2, el, fin⟩
    by_cases hlt : i < ds.length
    · refine .inr ⟨Y.go i H2 _ _ S2 hlt, fun H' => ∃ acc ρ2 ys ρe, i + 1 + (m - 1) = ds.length ∧ acc.length ≤ i + 1 ∧ ρ2.length = L ∧ Sim K fr1 (some (.lst true acc) :: wipeE ρ2 vs) (some (.ref Dd) :: wipe σ vs) H' ∧ lcGo g gt fe vs (ds.drop (i + 1)) ρ2 = .ok ys ρe ∧
        ∀ v H, Sim K fr1 (some (.lst true (acc ++ ys)) :: ρe) (some v :: σ) H → Q v H, fun H' h => ⟨m - 1, by omega, h⟩, fun x H' hy => ?_⟩
      have hd : ds[i]? = some ds[i] := List.getElem?_eq_getElem hlt
      have S3 := (Y.yld i H2 x H' _ _ ds[i] S2 hd hy).xch
      obtain ⟨fr2, S4, back2⟩ := S3.hold
      rw [drop_get hd] at el
      unfold lcGo at el
      cases e1 : g ds[i] (wipeE ρ2 vs) with
      | none => rw [e1] at el; cases el
      | some ρ3 =>
        rw [e1] at el
        obtain ⟨b, ρ5, et, el⟩ := mbind_ok el
        have l3 : ρ3.length = L := by rw [hg.len _ _ _ e1, wipeE_len, hL]
        refine s2 fr2 (wipeE ρ2 vs) (wipe σ vs) H' ds[i] x ρ3 _ S4 e1 fun σ4 H4 k4 S5 => ?_
        have l4 : σ4.length = L := by rw [S5.len, l3]
        have lσ : σ.length = L := by
          have := S4.drop.len
          rw [wipe_length, wipeE_len, hL] at this
          exact this
        have hw : wipe σ4 vs = wipe σ vs := by
          rw [wipe_eq k4 (by rw [wipe_length, l4, lσ]) fun j hj hn => mem_prOf (by rw [wipe_length, lσ] at hj; exact hj) hn]
          have idem : ∀ (vs' : List Nat), (∀ j ∈ vs', j ∈ vs) → wipe (wipe σ vs) vs' = wipe σ vs := fun vs' => by
            induction vs' with
            | nil => exact fun _ => rfl
            | cons w ws ih =>
              intro h
              show (wipe (wipe σ vs) ws).set w none = _
              rw [ih fun j hj => h j (List.mem_cons_of_mem _ hj)]
              by_cases hwl : w < (wipe σ vs).length
              · refine set_self ?_
                have gs : ∀ (vs : List Nat) (i : Nat), i ∈ vs → i < σ.length → (wipe σ vs)[i]? = some none := fun vs i h hl => by
                  induction vs with
                  | nil => cases h
                  | cons v vs ih =>
                    show ((wipe σ vs).set v none)[i]? = some none
                    by_cases e : v = i
                    · subst e
                      rw [List.getElem?_set_self (by rw [wipe_length]; exact hl)]
                    · rw [List.getElem?_set_ne e]
                      rcases List.mem_cons.mp h with z | z
                      · exact absurd z.symm e
                      · exact ih z
                exact gs vs w (h w List.mem_cons_self) (by rw [wipe_length] at hwl; exact hwl)
              · exact List.set_eq_of_length_le (by omega)
          exact idem vs fun _ h => h
        refine ⟨hw, s3 fr2 ρ3 σ4 H4 _ S5 ?_⟩
        rw [et]
        show ∀ H, Sim K fr2 ρ5 σ4 H → _
        intro H5 S6
        have l5 : ρ5.length = L := by rw [← S6.len, l4]
        cases b with
        | false =>
          rw [if_neg Bool.false_ne_true] at el ⊢
          have S7 := (back2 _ _ _ S6).wiped1 vs
          rw [hw] at S7
          exact ⟨acc, ρ5, ys, ρe, by omega, by omega, l5, S7, el, fin⟩
        | true =>
          rw [if_pos rfl] at el ⊢
          obtain ⟨y, ρ6, ey, el⟩ := mbind_ok el
          obtain ⟨ys', ρ7, er, el⟩ := mbind_ok el
          cases el
          refine s4 fr2 ρ5 σ4 H5 _ S6 ?_
          rw [ey]
          show ∀ v H, Sim K fr2 (some y :: ρ6) (some v :: σ4) H → _
          intro v H6 S7
          have S8 := back2 _ _ _ S7
          obtain ⟨xs, hx, hl, S9⟩ := S8.append
          have l6 : ρ6.length = L := by
            have := S7.drop.len
            rw [← this, l4]
          refine ⟨xs, hx, by omega, acc ++ [y], ρ6, ys', ρe, by omega, by simp; omega, l6, ?_, er, ?_⟩
          · have := S9.wiped1 vs
            rw [hw] at this
            exact this
          · intro v H S
            exact fin v H (by simpa [List.append_assoc] using S)
    · rw [List.drop_eq_nil_of_le (by omega)] at el
      cases el
      refine .inl ⟨Y.stop i H2 _ _ S2 (by omega), fin _ _ ?_⟩
      rw [List.append_nil]
      exact S2.unwipe1
  · simp only [hz, if_false] at q1
    exact q1.elim
theorem ed_lc {elt tg iter : Expr} {ifs : List Expr} {scope : Scope} {own : List (Str × Nat)} {pos : Pos} {fi : M (List D)} {g : D → Env → Option Env} {gt : M Bool} {fe : M D} (L : Nat) (hc : ∀ i, (X i).calm = true) (hN : ∀ i, (X i).N.Nodup)
    (hi : ID X K W tg iter fi) (ok : ∀ i, BlkOk (X i).N (X i).env.scope scope own) (hg : GD (blkF X scope) K (prOf L (own.map (·.2))) tg g) (ht : LD (blkF X scope) K ifs gt) (he : ED (blkF X scope) K W0 elt fe)
    (hs : ∀ i x, foldedSetIterable iter (X i).env x = pure x := by intro _ _; rfl) : ED X K W (.ListComp elt [⟨tg, iter, ifs, 0⟩] scope pos) (eLcL L fi g gt fe (own.map (·.2))) := by
  obtain ⟨wi, u, tt, te, pi, p2, p3, p4, sm⟩ := lc_parts L hc hN hi hg ht he
  exact ⟨tLc wi u tt te (own.map (·.2)), (fun i => pe_lc (hc i) (hN i) (pi i) (ok i) (fun s H C cl fp => p2 (i, s, H, C, cl, fp)) (fun s H C cl fp => p3 (i, s, H, C, cl, fp)) (fun s H C cl fp => p4 (i, s, H, C, cl, fp)) (hs i)), sm⟩
/-- y = [..], y a local: stored within the comprehension's frame -/
theorem sd_setLc {elt tg iter : Expr} {ifs : List Expr} {scope : Scope} {own : List (Str × Nat)} {y : Str} {py pos spos : Pos} {pr : List Nat} {fi : M (List D)} {g : D → Env → Option Env} {gt : M Bool} {fe : M D} {i : Nat} (L : Nat) (hc : ∀ i, (X i).calm = true) (hN : ∀ i, (X i).N.Nodup)
    (hy : ∀ j, (X j).N[i]? = some y) (hyl : ∀ j, (X j).env.scope.names.lookup y = some .local) (hk : ∀ j, (X j).env.scope.kind = .function) (hl : (py.line == pos.line) = true) (ha : (scope.names.any fun (n, k) => n == y && (k == .local || k == .cell)) = false) (hp : i ∉ pr)
    (hi : ID X K W tg iter fi) (ok : ∀ i, BlkOk (X i).N (X i).env.scope scope own) (hg : GD (blkF X scope) K (prOf L (own.map (·.2))) tg g) (ht : LD (blkF X scope) K ifs gt) (he : ED (blkF X scope) K W0 elt fe)
    (hs : ∀ i x, foldedSetIterable iter (X i).env x = pure x := by intro _ _; rfl) : SD X K W pr (.Assign [.Name y py] (.ListComp elt [⟨tg, iter, ifs, 0⟩] scope pos) spos) (sAsg (eLcL L fi g gt fe (own.map (·.2))) (gSet i)) := by
  obtain ⟨wi, u, tt, te, pi, p2, p3, p4, sm⟩ := lc_parts L hc hN hi hg ht he
  refine ⟨tAsg (tLc wi u tt te (own.map (·.2))) (gName i), (fun j => ps_setLc (hc j) (hN j) (hy j) (hyl j) (sw_true (hk j) (hyl j) hl ha) (pi j) (ok j) (fun s H C cl fp => p2 (j, s, H, C, cl, fp)) (fun s H C cl fp => p3 (j, s, H, C, cl, fp)) (fun s H C cl fp => p4 (j, s, H, C, cl, fp)) (hs j)), fun fr ρ σ H Dn S q => ?_⟩
  show tLc wi u tt te (own.map (·.2)) σ H (fun x H1 => gName i x σ H1 Dn.nx)
  refine sm fr ρ σ H _ S (q.ofE.mono fun d ρ1 q1 v H1 S1 => ?_)
  unfold gSet at q1
  by_cases hi : i < ρ1.length
  · rw [if_pos hi] at q1
    exact q1 _ H1 (KeepS.set hp) (S1.store hi)
  · rw [if_neg hi] at q1
    exact q1.elim
theorem sd_setLcF {elt tg iter : Expr} {ifs : List Expr} {scope : Scope} {own : List (Str × Nat)} {y : Str} {py pos spos : Pos} {pr : List Nat} {fi : M (List D)} {g : D → Env → Option Env} {gt : M Bool} {fe : M D} {i : Nat} (L : Nat) (hc : ∀ i, (X i).calm = true) (hN : ∀ i, (X i).N.Nodup)
    (hy : ∀ j, (X j).N[i]? = some y) (hyl : ∀ j, (X j).env.scope.names.lookup y = some .local) (hk : ∀ j, (X j).env.scope.kind = .function) (hl : (py.line == pos.line) = true) (ha : (scope.names.any fun (n, k) => n == y && (k == .local || k == .cell)) = false) (hp : i ∉ pr)
    (hi : ID X K W tg iter fi) (ok : ∀ i, BlkOk (X i).N (X i).env.scope scope own) (hg : GD (blkF X scope) K (prOf L (own.map (·.2))) tg g) (ht : LD (blkF X scope) K ifs gt) (he : ED (blkF X scope) K W0 elt fe)
    (hs : ∀ i x, foldedSetIterable iter (X i).env x = pure x := by intro _ _; rfl) : SD X K W pr (.Assign [.Name y py] (.ListComp elt [⟨tg, iter, ifs, 0⟩] scope pos) spos) (sAsg (eFrz (eLcL L fi g gt fe (own.map (·.2)))) (gSet i)) := by
  obtain ⟨wi, u, tt, te, pi, p2, p3, p4, sm⟩ := lc_parts L hc hN hi hg ht he
  refine ⟨tAsg (tLc wi u tt te (own.map (·.2))) (gName i), (fun j => ps_setLc (hc j) (hN j) (hy j) (hyl j) (sw_true (hk j) (hyl j) hl ha) (pi j) (ok j) (fun s H C cl fp => p2 (j, s, H, C, cl, fp)) (fun s H C cl fp => p3 (j, s, H, C, cl, fp)) (fun s H C cl fp => p4 (j, s, H, C, cl, fp)) (hs j)), fun fr ρ σ H Dn S q => ?_⟩
  show tLc wi u tt te (own.map (·.2)) σ H (fun x H1 => gName i x σ H1 Dn.nx)
  refine sm fr ρ σ H _ S (q.ofE.bind.mono fun d ρ1 q1 v H1 S1 => ?_)
  have q1 : QS K W pr fr σ (match gSet i (frz d) ρ1 with | some ρ' => .nx ρ' | none => .stuck) Dn := q1
  unfold gSet at q1
  by_cases hi : i < ρ1.length
  · rw [if_pos hi] at q1
    exact q1 _ H1 (KeepS.set hp) (S1.frz.store hi)
  · rw [if_neg hi] at q1
    exact q1.elim
end
end DL

set_option Elab.async false
set_option linter.all false
set_option maxRecDepth 100000
set_option maxHeartbeats 4000000
namespace DL
open PySem PySem.Spec L2
/-! ### what a def promises -/
def outs (pr : List Nat) (n : Nat) (ρ : Env) : Env := (wipeE ρ ((List.range n).filter fun j => !pr.contains j)).take n
def spD (K : RC) (n : Nat) (F : List D → Res D) : Sp := fun vs H Q E => ∃ fr ds, vs.length = n ∧ ds.length = n ∧ Sim K fr (ds.map some) (vs.map some) H ∧ match F ds with
  | .ok d os => ∀ v H', Sim K fr (some d :: os) (some v :: vs.map some) H' → Q v H'
  | .exc c fs os => ∀ cls dd H', ExcR K.mg c fs cls dd H' → Sim K fr os (vs.map some) H' → E cls dd H'
  | .stuck => False
def runS (pr : List Nat) (n L : Nat) (b : SF) (ds : List D) : Res D := match b (ds.map some ++ List.replicate (L - ds.length) none) with
  | .nx ρ => if n ≤ ρ.length then .ok .non (outs pr n ρ) else .stuck
  | .ret d ρ => if n ≤ ρ.length then .ok d (outs pr n ρ) else .stuck
  | .exc c fs ρ => if n ≤ ρ.length then .exc c fs (outs pr n ρ) else .stuck
  | _ => .stuck
section
variable {K : RC} {fr : Fr} {ρ : Env} {σ : L2.St} {H : Hp}
theorem Sim.none_end (S : Sim K fr ρ σ H) (m : Nat) : Sim K fr (ρ ++ List.replicate m none) (σ ++ List.replicate m none) H := by
  obtain ⟨A, S⟩ := S
  have r : ∀ m, Sl K (hid (A ++ fr.N) H) H (List.replicate m none) (List.replicate m none) [] := fun m => by
    induction m with
    | zero => exact ⟨rfl, rfl⟩
    | succ m ih => exact ⟨none, _, [], [], rfl, rfl, rfl, ih⟩
  have z := Sl.app S.sl (r m)
  rw [List.append_nil] at z
  exact ⟨A, z, S.nd, S.off, S.keep, S.tr⟩
theorem Sim.any {τ : L2.St} (S : Sim K fr ρ σ H) (hl : τ.length = σ.length) (h : ∀ i : Nat, ρ[i]? ≠ some none → τ[i]? = σ[i]?) : Sim K fr ρ τ H := by
  obtain ⟨A, S⟩ := S
  exact ⟨A, S.sl.any hl h, S.nd, S.off, S.keep, S.tr⟩
theorem Sim.takeN (S : Sim K fr ρ σ H) (n : Nat) : Sim K fr (ρ.take n) (σ.take n) H := by
  have S' : Sim K fr (ρ.take n ++ ρ.drop n) (σ.take n ++ σ.drop n) H := by rw [List.take_append_drop, List.take_append_drop]; exact S
  have hl : (σ.take n).length = (ρ.take n).length := by rw [List.length_take, List.length_take, S.len]
  exact (S'.swap hl).dropN (by rw [List.length_drop, List.length_drop, S.len])
theorem Sim.outs {pr : List Nat} {n : Nat} {vs : List V} {m : Nat} (S : Sim K fr ρ σ H) (hn : vs.length = n) (k : KeepS pr (vs.map some ++ List.replicate m none) σ) (hl : n ≤ ρ.length) : Sim K fr (DL.outs pr n ρ) (vs.map some) H := by
  unfold DL.outs
  have S1 := (S.wiped ((List.range n).filter fun j => !pr.contains j)).takeN n
  refine S1.any (by rw [List.length_map, List.length_take, wipe_length, S.len, hn]; omega) fun i hi => ?_
  by_cases h : i < n
  · rw [List.getElem?_take_of_lt h] at hi
    by_cases hp : i ∈ pr
    · rw [List.getElem?_take_of_lt h, wipe_get (fun z => by
        have := (List.mem_filter.mp z).2
        simp [hp] at this), k i hp, List.getElem?_append_left (by rw [List.length_map]; omega)]
    · exact absurd (wipeE_none (List.mem_filter.mpr ⟨List.mem_range.mpr h, by simp [hp]⟩) (by omega)) hi
  · rw [List.getElem?_eq_none (by rw [List.length_map]; omega), List.getElem?_eq_none (by rw [List.length_take]; omega)]
end
section
variable {P : Program} {w : World} {K : PySem.W.Frag} {mg : Str → Option Value} {base : Heap}
/-- THE RULE for a def -/
theorem fnok_of {x qual : Str} {params : Arguments} {body : List Stmt} {scope : Scope} {dvs : List V} {kws : List (Str × V)} {f : Addr} {fd : FuncData} {N ps : List Str} {k : Nat} {pr : List Nat} {b : SF}
    (F : FunD K x qual params body scope dvs kws f fd) (S : FnScope N ps scope)
    (hb : ∀ (cdv : Value) (A : Around) (outer : List PySem.Env) (s : Shared) (H : Hp) (E : XK), Room k (A.deeper (PyProof.Rows.envOfC qual scope s.heap.objs.size f cdv)) →
      SDs (fun _ : Unit => cxOf (L2.CX P w) P w K mg base N qual scope f cdv A outer s H E) ⟨K, mg⟩ (fun cls d _ H => E cls d H) pr body b) : FnOk P w K mg base (L2.CX P w) (k + 1) f fd ps (spD ⟨K, mg⟩ ps.length (runS pr ps.length N.length b)) := by
  refine F.ok S (fun vs H Q E h => h.choose_spec.choose_spec.1) fun cdv A outer s H vs Q E hr h => ?_
  obtain ⟨t, p, sm⟩ := (hb cdv A outer s H E hr).ex
  obtain ⟨fr, ds, hv, hd, Sm, q⟩ := h
  refine ⟨t, p (), ?_⟩
  have hpl : ps.length ≤ N.length := by have := congrArg List.length S.pre; rw [List.length_take] at this; omega
  have S0 : Sim ⟨K, mg⟩ fr (ds.map some ++ List.replicate (N.length - ds.length) none) (L2.start N vs) H := by
    unfold L2.start
    rw [hd, hv]
    exact Sm.none_end _
  refine sm fr _ (L2.start N vs) H _ S0 ?_
  unfold runS at q
  have len : ∀ {ρ : Env} {σ : L2.St} {H' : Hp}, Sim ⟨K, mg⟩ fr ρ σ H' → KeepS pr (L2.start N vs) σ → ps.length ≤ ρ.length → Sim ⟨K, mg⟩ fr (outs pr ps.length ρ) (vs.map some) H' := fun {ρ σ H'} Sx k hl => by
    unfold L2.start at k
    exact Sx.outs hv k hl
  cases e : b (ds.map some ++ List.replicate (N.length - ds.length) none) with
  | nx ρ =>
    rw [e] at q
    by_cases hl : ps.length ≤ ρ.length
    · simp only [hl, if_true] at q
      exact fun σ H' k Sx => q .non H' ((len Sx k hl).pushF rfl)
    · simp only [hl, if_false] at q
  | ret d ρ =>
    rw [e] at q
    by_cases hl : ps.length ≤ ρ.length
    · simp only [hl, if_true] at q
      intro v σ H' k Sx
      obtain ⟨fr', Sy, back⟩ := Sx.hold
      refine q v H' (back _ _ _ ?_)
      unfold L2.start at k
      exact Sy.outs hv k hl
    · simp only [hl, if_false] at q
  | exc c fs ρ =>
    rw [e] at q
    by_cases hl : ps.length ≤ ρ.length
    · simp only [hl, if_true] at q
      exact fun cls dd σ H' k xx Sx => q cls dd H' xx (len Sx k hl)
    · simp only [hl, if_false] at q
  | brk ρ => rw [e] at q; exact q.elim
  | cnt ρ => rw [e] at q; exact q.elim
  | stuck => rw [e] at q; exact q.elim
end
/-- a def of the text: what it computes -/
def FnD (P : Program) (w : World) (K : PySem.W.Frag) (mg : Str → Option Value) (base : Heap) (k : Nat) (x : Str) (n : Nat) (dfl : List D) (F : List D → Res D) : Prop :=
  ∃ f fd ps ds, mg x = some (.ref f) ∧ PySem.W.keepIn K (.ref f) = true ∧ Binds K fd ps ds ∧ Vals (dfl.map toV) ds ∧ (∀ d ∈ dfl, (flat d).isSome = true) ∧ ps.length = n ∧ FnOk P w K mg base (L2.CX P w) k f fd ps (spD ⟨K, mg⟩ n F)
abbrev FnX (X : Cx) := FnD X.prog X.w X.K X.mg X.base
/-! ### calls -/
def restore : List (Nat × Nat) → Env → Env → Env
  | [], _, ρ => ρ
  | (j, i) :: rs, os, ρ => match os[j]? with
    | some (some d) => restore rs (os.set j none) (ρ.set i (some d))
    | _ => restore rs os ρ
def eCall (F : List D → Res D) (fa : M (List D)) (dfl : List D) (rs : List (Nat × Nat)) : M D := mbind fa fun ds ρ => match F (ds ++ dfl) with
  | .ok d os => .ok d (restore rs os ρ)
  | .exc c fs os => .exc c fs (restore rs os ρ)
  | .stuck => .stuck
/-- arguments, of which those in rs are handed over by their slots -/
def QM (K : RC) (W : WX) (fr : Fr) (σ : L2.St) (rs : List (Nat × Nat)) (r : Res (List D)) (Q : List V → Hp → Prop) : Prop :=
  QR K W fr σ r fun ds ρ => ∀ vs H, vs.length = ds.length → (∀ p ∈ rs, ∃ v, vs[p.1]? = some v ∧ σ[p.2]? = some (some v)) → Sim K fr (ds.map some ++ ρ) (vs.map some ++ σ) H → Q vs H
structure AM {ι : Type} (X : ι → Cx) (K : RC) (W : WX) (es : List Expr) (f : M (List D)) (rs : List (Nat × Nat)) : Prop where
  ex : ∃ t, (∀ i, PA (X i) es t) ∧ ∀ fr ρ σ H Q, Sim K fr ρ σ H → QM K W fr σ rs (f ρ) Q → t σ H Q
def shift (rs : List (Nat × Nat)) : List (Nat × Nat) := rs.map fun p => (p.1 + 1, p.2)
section
variable {ι : Type} {X : ι → Cx} {K : RC} {W : WX} {e : Expr} {es : List Expr} {f : M D} {g : M (List D)} {rs : List (Nat × Nat)} {pos : Pos}
theorem am_nil : AM X K W [] aNil [] := ⟨tNil, (fun _ => pa_nil), fun fr ρ σ H Q S q => q [] H rfl (fun _ z => nomatch z) S⟩
theorem am_cons (h : ED X K W e f) (hr : AM X K W es g rs) (hs : ∀ i, starEach (e :: es) (X i).env = (false, eval e (X i).env) :: starEach es (X i).env := by intro _; rfl) : AM X K W (e :: es) (aCons f g) (shift rs) := by
  obtain ⟨t, p, s⟩ := h.ex
  obtain ⟨u, p2, s2⟩ := hr.ex
  refine ⟨tCons t u, (fun i => pa_cons (p i) (p2 i) (hs i)), fun fr ρ σ H Q S q => ?_⟩
  refine s fr ρ σ H _ S ((QR.bind q).mono fun d ρ1 q1 v H1 S1 => ?_)
  obtain ⟨fr', S', back⟩ := S1.hold
  refine s2 fr' ρ1 σ H1 _ S' (((QR.bind q1).frame fun ρ H s => (back ρ σ H s).drop).mono fun ds ρ2 q2 vs H2 hl hrs S2 => ?_)
  refine q2 (v :: vs) H2 (by simp [hl]) (fun p hp => ?_) (back _ _ H2 S2)
  obtain ⟨p', hp', rfl⟩ := List.mem_map.mp hp
  obtain ⟨u, h1, h2⟩ := hrs p' hp'
  exact ⟨u, by simpa using h1, h2⟩
theorem am_mv (i : Nat) {x : Str} (h : ∀ j, PE (X j) (.Name x pos) (tVar i)) (hr : AM X K W es g rs) (hs : ∀ i, starEach (.Name x pos :: es) (X i).env = (false, eval (.Name x pos) (X i).env) :: starEach es (X i).env := by intro _; rfl) : AM X K W (.Name x pos :: es) (aCons (eMove i) g) ((0, i) :: shift rs) := by
  obtain ⟨u, p2, s2⟩ := hr.ex
  refine ⟨tCons (tVar i) u, (fun j => pa_cons (h j) (p2 j) (hs j)), fun fr ρ σ H Q S q => ?_⟩
  have q0 := QR.bind q
  unfold eMove at q0
  cases e : ρ[i]? with
  | none => rw [e] at q0; exact q0.elim
  | some o => cases o with
    | none => rw [e] at q0; exact q0.elim
    | some d =>
      rw [e] at q0
      obtain ⟨v, e1, S1⟩ := S.move e
      refine ⟨v, e1, ?_⟩
      obtain ⟨fr', S', back⟩ := S1.hold
      refine s2 fr' _ σ H _ S' (((QR.bind q0).frame fun ρ H s => (back ρ σ H s).drop).mono fun ds ρ2 q2 vs H2 hl hrs S2 => ?_)
      refine q2 (v :: vs) H2 (by simp [hl]) (fun p hp => ?_) (back _ _ H2 S2)
      rcases List.mem_cons.mp hp with z | hp
      · subst z; exact ⟨v, rfl, e1⟩
      · obtain ⟨p', hp', rfl⟩ := List.mem_map.mp hp
        obtain ⟨u, h1, h2⟩ := hrs p' hp'
        exact ⟨u, by simpa using h1, h2⟩
theorem getElem?_app {α : Type} {a b : List α} {i : Nat} {x : α} (h : a[i]? = some x) : (a ++ b)[i]? = some x := by
  rw [List.getElem?_append_left (List.getElem?_eq_some_iff.mp h).1, h]
/-- what was handed over is put back -/
theorem Sim.restore {fr : Fr} {σ : L2.St} {H : Hp} {vs : List V} : ∀ {rs : List (Nat × Nat)} {os ρ : Env}, os.length = vs.length → (∀ p ∈ rs, ∃ v, vs[p.1]? = some v ∧ σ[p.2]? = some (some v)) → Sim K fr (os ++ ρ) (vs.map some ++ σ) H → Sim K fr (DL.restore rs os ρ) σ H
  | [], os, ρ, hl, _, S => S.dropN (by rw [List.length_map, hl])
  | (j, i) :: rs, os, ρ, hl, h, S => by
    unfold DL.restore
    have h' : ∀ p ∈ rs, ∃ v, vs[p.1]? = some v ∧ σ[p.2]? = some (some v) := fun p hp => h p (List.mem_cons_of_mem _ hp)
    cases e : os[j]? with
    | none => exact Sim.restore hl h' S
    | some o => cases o with
      | none => exact Sim.restore hl h' S
      | some d =>
        obtain ⟨v, hv, hs⟩ := h (j, i) List.mem_cons_self
        obtain ⟨v', e1, S1⟩ := S.move (getElem?_app e)
        have ev : v' = v := by
          have z : (vs.map some ++ σ)[j]? = some (some v) := getElem?_app (by rw [List.getElem?_map, hv]; rfl)
          rw [z] at e1
          cases e1
          rfl
        subst ev
        have hj : j < os.length := (List.getElem?_eq_some_iff.mp e).1
        rw [List.set_append_left _ _ hj] at S1
        have hi : (vs.map some ++ σ)[vs.length + i]? = some (some v') := by
          rw [List.getElem?_append_right (by rw [List.length_map]; omega), List.length_map, Nat.add_sub_cancel_left, hs]
        have S2 := S1.back hi
        rw [List.set_append_right _ _ (by rw [List.length_set, hl]; omega), List.length_set, hl, Nat.add_sub_cancel_left] at S2
        exact Sim.restore (by rw [List.length_set, hl]) h' S2
/-- flat values at the end -/
theorem Sim.flats {fr : Fr} {ρ : Env} {σ : L2.St} {H : Hp} (S : Sim K fr ρ σ H) : ∀ dfl : List D, (∀ d ∈ dfl, (flat d).isSome = true) → Sim K fr (ρ ++ dfl.map some) (σ ++ (dfl.map toV).map some) H := fun dfl h => by
  obtain ⟨A, S⟩ := S
  have r : ∀ dfl : List D, (∀ d ∈ dfl, (flat d).isSome = true) → Sl K (hid (A ++ fr.N) H) H (dfl.map some) ((dfl.map toV).map some) [] := fun dfl => by
    induction dfl with
    | nil => exact fun _ => ⟨rfl, rfl⟩
    | cons d ds ih =>
      intro h
      obtain ⟨v, hv⟩ := Option.isSome_iff_exists.mp (h d List.mem_cons_self)
      refine ⟨some (toV d), _, [], [], rfl, rfl, ⟨toV d, rfl, flat_rep ?_⟩, ih fun d hd => h d (List.mem_cons_of_mem _ hd)⟩
      unfold toV
      rw [hv]
      rfl
  have z := Sl.app S.sl (r dfl h)
  rw [List.append_nil] at z
  exact ⟨A, z, S.nd, S.off, S.keep, S.tr⟩
theorem sim_call {n : Nat} {F : List D → Res D} {dfl : List D} {t : TA} (hd : ∀ d ∈ dfl, (flat d).isSome = true) (s : ∀ fr ρ σ H Q, Sim K fr ρ σ H → QM K W fr σ rs (g ρ) Q → t σ H Q) (hn : ∀ ρ ds ρ', g ρ = .ok ds ρ' → (ds ++ dfl).length = n) {fr : Fr} {ρ : Env} {σ : L2.St} {H : Hp} {Q : VK}
    (S : Sim K fr ρ σ H) (q : QE K W fr σ (eCall F g dfl rs ρ) Q) : tCallSD (spD K n F) (dfl.map toV) (WE W) t σ H Q := by
  have hq : QR K W fr σ (g ρ) fun ds ρ1 => g ρ = .ok ds ρ1 ∧ QE K W fr σ (match F (ds ++ dfl) with
    | .ok d os => .ok d (restore rs os ρ1)
    | .exc c fs os => .exc c fs (restore rs os ρ1)
    | .stuck => .stuck) Q := by
    have := QR.bind q
    cases e : g ρ with
    | ok ds ρ1 => rw [e] at this; exact ⟨rfl, this⟩
    | exc c fs ρ1 => rw [e] at this; exact this
    | stuck => rw [e] at this; exact this
  refine s fr ρ σ H _ S (hq.mono fun ds ρ1 ⟨e, q1⟩ vs H1 hl hrs S1 => ?_)
  have hN := hn ρ ds ρ1 e
  rw [List.length_append] at hN
  have S2 : Sim K fr ((ds ++ dfl).map some ++ ρ1) ((vs ++ dfl.map toV).map some ++ σ) H1 := by
    have hl2 : (vs.map some).length = (ds.map some).length := by rw [List.length_map, List.length_map, hl]
    have z1 : Sim K fr (ρ1 ++ ds.map some) (σ ++ vs.map some) H1 := S1.swap hl2
    have z2 := z1.flats dfl hd
    rw [List.append_assoc, List.append_assoc] at z2
    have z3 := z2.swap (ρ1 := ρ1) (σ1 := σ) (S1.dropN hl2).len
    rw [← List.map_append, ← List.map_append] at z3
    exact z3
  have hlv : (vs ++ dfl.map toV).length = (ds ++ dfl).length := by rw [List.length_append, List.length_append, List.length_map, hl]
  obtain ⟨fr', S3, back⟩ := Sim.frame (by rw [List.length_map, List.length_map, hlv]) S2
  refine ⟨fr', ds ++ dfl, by rw [hlv, List.length_append]; exact hN, by rw [List.length_append]; exact hN, S3, ?_⟩
  have hrs' : ∀ p ∈ rs, ∃ v, (vs ++ dfl.map toV)[p.1]? = some v ∧ σ[p.2]? = some (some v) := fun p hp => by
    obtain ⟨v, h1, h2⟩ := hrs p hp
    exact ⟨v, getElem?_app h1, h2⟩
  cases eF : F (ds ++ dfl) with
  | ok d os =>
    rw [eF] at q1
    intro v H' S4
    have S5 := back _ _ _ S4
    have ho : os.length = (vs ++ dfl.map toV).length := by
      have := S4.len
      simp only [List.length_cons, List.length_map] at this
      omega
    obtain ⟨fr2, S6, back2⟩ := Sim.hold (x := some d) (s := some v) S5
    exact q1 v H' (back2 _ _ _ (S6.restore ho hrs'))
  | exc c fs os =>
    rw [eF] at q1
    intro cls dd H' xx S4
    have ho : os.length = (vs ++ dfl.map toV).length := by
      have := S4.len
      simp only [List.length_map] at this
      omega
    exact q1 cls dd H' xx ((back _ _ _ S4).restore ho hrs')
  | stuck => rw [eF] at q1; exact q1.elim
theorem pe_call0S {X : Cx} {CX : CXT} {k : Nat} {f : Addr} {fd : FuncData} {ps : List Str} {sp : Sp} {dvs : List V} {ds : List Value} {E : L2.St → XK} {x : Str} {p pos : Pos} (F : FnOk X.prog X.w X.K X.mg X.base CX k f fd ps sp) (hr : Room k X.A) (hg : Gl X x) (hm : X.mg x = some (.ref f)) (hk : PySem.W.keepIn X.K (.ref f) = true) (hb : Binds X.K fd ps ds) (hd : Vals dvs ds) (hx : ∀ σ, PassesAt CX X σ (E σ))
    (hdb : (x == ("__debug__" : Str)) = false := by decide) : PE X (.Call (.Name x p) [] [] pos) (tCallSD sp dvs E tNil) := by
  refine ⟨fun pins s σ H Q I h => ?_⟩
  refine wpAny_Call_Name_kw (ld_glob I hg hm ?_ hdb)
  exact PySem.W.callWith_K0 I.kIn hk (run_fnSD (us := []) F hr hb hd (hx σ) I .nil h)
/-- f(e, ..) -/
theorem ed_call {k n : Nat} {x : Str} {F : List D → Res D} {dfl : List D} {p : Pos} (h : ∀ i, FnX (X i) k x n dfl F) (hK : ∀ i, rc (X i) = K) (hr : ∀ i, Room k (X i).A) (hg : ∀ i, Gl (X i) x) (tk : ∀ i, Takes (X i) W) (ha : AM X K W (e :: es) g rs)
    (hn : ∀ ρ ds ρ', g ρ = .ok ds ρ' → (ds ++ dfl).length = n) (hdb : (x == ("__debug__" : Str)) = false := by decide) (hd : ∀ d ∈ dfl, (flat d).isSome = true := by simp [flat])
    (he : ∀ i, starEach (e :: es) (X i).env = (false, eval e (X i).env) :: starEach es (X i).env := by intro _; rfl) (hpl : ∀ i, (backTo pos (starEach es (X i).env)).any (·.1) = false := by intro _; rfl) : ED X K W (.Call (.Name x p) (e :: es) [] pos) (eCall F g dfl rs) := by
  obtain ⟨t, pa, s⟩ := ha.ex
  refine ⟨tCallSD (spD K n F) (dfl.map toV) (WE W) t, (fun i => ?_), fun fr ρ σ H Q S q => ?_⟩
  · obtain ⟨f, fd, ps, ds, hm, hk, hb, hv, _, hl, hF⟩ := h i
    rw [← hK i]
    exact pe_callSD hF (hr i) (hg i) hm hk hb hv (fun σ => passAt (tk i) σ) (pa i) hdb (he i) (hpl i)
  · exact sim_call hd s hn S q
theorem ed_call0 {k n : Nat} {x : Str} {F : List D → Res D} {dfl : List D} {p : Pos} (h : ∀ i, FnX (X i) k x n dfl F) (hK : ∀ i, rc (X i) = K) (hr : ∀ i, Room k (X i).A) (hg : ∀ i, Gl (X i) x) (tk : ∀ i, Takes (X i) W)
    (hn : dfl.length = n) (hdb : (x == ("__debug__" : Str)) = false := by decide) (hd : ∀ d ∈ dfl, (flat d).isSome = true := by simp [flat]) : ED X K W (.Call (.Name x p) [] [] pos) (eCall F aNil dfl []) := by
  obtain ⟨t, pa, s⟩ := (am_nil (X := X) (K := K) (W := W)).ex
  refine ⟨tCallSD (spD K n F) (dfl.map toV) (WE W) tNil, (fun i => ?_), fun fr ρ σ H Q S q => ?_⟩
  · obtain ⟨f, fd, ps, ds, hm, hk, hb, hv, _, hl, hF⟩ := h i
    rw [← hK i]
    exact pe_call0S hF (hr i) (hg i) hm hk hb hv (fun σ => passAt (tk i) σ) hdb
  · exact sim_call (t := tNil) (g := aNil) (rs := []) hd (fun fr ρ σ H Q S q => q [] H rfl (fun _ z => nomatch z) S) (fun ρ ds ρ' e => by cases e; simpa using hn) S q
end
/-! ### raise -/
theorem pmk_own0 {X : Cx} {C : Addr} {bmB : List Value} {B newId initId : String} {x : Str} {p pos : Pos} (F : ExcBaseFacts B newId initId bmB) (q : PySem.W.excIn X.K C bmB newId = true) (gC : X.mg x = some (.ref C))
    (kC : PySem.W.keepIn X.K (.ref C) = true) (r : Raises X (.ref C)) (hg : Gl X x) (hdb : (x == ("__debug__" : Str)) = false := by decide) :
    PMk X (.Call (.Name x p) [] [] pos) (fun σ H Q => Q (.ref C) none H) := by
  intro pins s σ H Q I h
  refine wpAny_Call_Name_kw (ld_glob I hg gC ?_ hdb)
  refine PySem.W.callWith_K0 I.kIn kC ?_
  show wpAny _ _ (call (.ref C) []) _ _ _
  obtain ⟨bm, N, nm, qn, bs, hdct, sn, sub, ab, col, dd, k0, k1, k2, k3, k5, mN, hC, hN, hni, T⟩ := exc_obj I.kIn q
  refine wpAny_call_exc_subT F T hC hN hni (fun h' e hm => ?_) (by rw [sizeLine_eq]; exact Nat.zero_le _)
  exact mk_of I hm r h (I.hok.gone hm.new)
end DL

set_option Elab.async false
set_option linter.all false
set_option maxRecDepth 100000
set_option maxHeartbeats 4000000
namespace DL
open PySem PySem.Spec L2
/-! facts of the contexts -/
structure CF {ι : Type} (X : ι → Cx) (K : RC) (W : WX) (k : Nat) : Prop where
  K : ∀ i, rc (X i) = K
  calm : ∀ i, (X i).calm = true
  room : ∀ i, Room k (X i).A
  tk : ∀ i, Takes (X i) W
  nd : ∀ i, (X i).N.Nodup
section
variable {ι : Type} {X : ι → Cx} {K : RC} {W : WX} {k : Nat}
theorem CF.kk (c : CF X K W k) (i : ι) : (X i).K = K.K := congrArg RC.K (c.K i)
theorem CF.mg (c : CF X K W k) (i : ι) : (X i).mg = K.mg := congrArg RC.mg (c.K i)
theorem CF.blk (c : CF X K W k) (scope : Scope) : CF (blkF X scope) K W0 k where
  K := fun j => c.K j.1
  calm := fun j => c.calm j.1
  room := fun j => c.room j.1
  tk := fun j => takes0
  nd := fun j => c.nd j.1
end
mutual
theorem Rep.frz_id {K : RC} {F H : Hp} : ∀ (d : D) (v : V), Rep K F H d v [] → frz d = d
  | .non, _, _ => rfl
  | .bl _, _, _ => rfl
  | .int _, _, _ => rfl
  | .str _, _, _ => rfl
  | .adr _, _, _ => rfl
  | .scr _, _, _ => rfl
  | .tup _, _, _ => rfl
  | .lst false ds, v, r => by
    obtain ⟨_, a, xs, _, _, r⟩ := r
    show D.lst false (frzL ds) = _
    rw [RepL.frz_id ds xs r]
  | .lst true ds, v, r => by obtain ⟨_, _, _, _, e, _⟩ := r; cases e
  | .dk false ks ds, v, r => by
    obtain ⟨_, a, kvs, _, _, _, r⟩ := r
    show D.dk false ks (frzL ds) = _
    rw [RepL.frz_id ds _ r]
  | .dk true ks ds, v, r => by obtain ⟨_, _, _, _, e, _⟩ := r; cases e
  | .dt false ks ds, v, r => by
    obtain ⟨_, a, kvs, _, _, _, r⟩ := r
    show D.dt false ks (frzL ds) = _
    rw [RepL.frz_id ds _ r]
  | .dt true ks ds, v, r => by obtain ⟨_, _, _, _, e, _⟩ := r; cases e
  | .obj false c ns ds, v, r => by
    obtain ⟨_, a, C, dx, fs, _, _, _, _, r⟩ := r
    show D.obj false c ns (frzL ds) = _
    rw [RepL.frz_id ds _ r]
  | .obj true c ns ds, v, r => by obtain ⟨_, _, _, _, _, _, e, _⟩ := r; cases e
theorem RepL.frz_id {K : RC} {F H : Hp} : ∀ (ds : List D) (vs : List V), RepL K F H ds vs [] → frzL ds = ds
  | [], _, _ => rfl
  | d :: ds, vs, r => by
    obtain ⟨v, ws, B, C, rfl, e, r1, r2⟩ := r
    have e1 := (List.append_eq_nil_iff.mp e.symm).1
    have e2 := (List.append_eq_nil_iff.mp e.symm).2
    subst e1 e2
    show frz d :: frzL ds = _
    rw [Rep.frz_id d v r1, RepL.frz_id ds ws r2]
end
section
variable {K : RC} {fr : Fr} {ρ : Env} {σ : L2.St} {H : Hp} {d : D} {v : V} {ds : List D} {vs : List V}
theorem Sim.tup_frz (S : Sim K fr (some (.tup ds) :: ρ) (some v :: σ) H) : frzL ds = ds := by
  obtain ⟨F, B, r, _⟩ := S.top
  obtain ⟨_, a, xs, _, _, r⟩ := r
  exact RepL.frz_id ds xs r
theorem frzL_app (a b : List D) : frzL (a ++ b) = frzL a ++ frzL b := by
  induction a with
  | nil => rfl
  | cons x a ih => show frz x :: frzL (a ++ b) = _; rw [ih]; rfl
/-- the second one taken apart -/
theorem Sim.explode2 {d2 : D} {v2 : V} (S : Sim K fr (some d2 :: some d :: ρ) (some v2 :: some v :: σ) H) (e : items d = some ds) : ∃ p xs, v = .ref p ∧ xs.length = ds.length ∧ (if isL d = true then SqL K.K H p xs else SqT K.K H p xs) ∧
    ((∀ o es, d = .lst o es → H p = some (.lst xs)) ∧ Sim K fr (some d2 :: (ds.map some ++ ρ)) (some v2 :: (xs.map some ++ σ)) H) := by
  obtain ⟨fr', S', back⟩ := S.hold
  obtain ⟨p, xs, h1, h2, h3, h4, S2⟩ := S'.explode e
  exact ⟨p, xs, h1, h2, h3, h4, back _ _ _ S2⟩
theorem Sim.pick {j : Nat} (S : Sim K fr (ds.map some ++ ρ) (vs.map some ++ σ) H) (hl : vs.length = ds.length) (e : ds[j]? = some d) : ∃ v, vs[j]? = some v ∧ Sim K fr (some d :: ρ) (some v :: σ) H := by
  obtain ⟨v, e1, S1⟩ := S.move (getElem?_app (a := ds.map some) (b := ρ) (by rw [List.getElem?_map, e]; rfl))
  have hj : j < ds.length := (List.getElem?_eq_some_iff.mp e).1
  rw [List.getElem?_append_left (by rw [List.length_map, hl]; exact hj), List.getElem?_map] at e1
  cases ev : vs[j]? with
  | none => rw [ev] at e1; cases e1
  | some u =>
    rw [ev] at e1
    have e1 : some (some u) = some (some v) := e1
    cases e1
    refine ⟨_, rfl, ?_⟩
    rw [List.set_append_left _ _ (by rw [List.length_map]; exact hj)] at S1
    obtain ⟨fr', S2, back⟩ := S1.hold
    exact back _ _ _ (S2.dropN (by rw [List.length_set, List.length_map, List.length_map, hl]))
end
section
variable {K : RC} {fr : Fr} {ρ : Env} {σ : L2.St} {H : Hp}
theorem Sim.flip {A B : Env} {α β : L2.St} (ha : α.length = A.length) (hb : β.length = B.length) (S : Sim K fr (A ++ (B ++ ρ)) (α ++ (β ++ σ)) H) : Sim K fr (B ++ (A ++ ρ)) (β ++ (α ++ σ)) H := by
  have S1 := S.swap ha
  rw [List.append_assoc, List.append_assoc] at S1
  obtain ⟨fr', S2, back⟩ := S1.holdN hb
  refine back _ _ _ (S2.swap ?_)
  have h1 := S.len
  simp only [List.length_append] at h1
  omega
theorem Sim.explode22 {dx dy : D} {vx vy : V} {xs ys : List D} (S : Sim K fr (some dy :: some dx :: ρ) (some vy :: some vx :: σ) H) (ey : items dy = some ys) (ex : items dx = some xs) :
    ∃ p us q ws, vy = .ref p ∧ vx = .ref q ∧ us.length = ys.length ∧ ws.length = xs.length ∧ (if isL dy = true then SqL K.K H p us else SqT K.K H p us) ∧ (if isL dx = true then SqL K.K H q ws else SqT K.K H q ws) ∧
      (∀ o es, dy = .lst o es → H p = some (.lst us)) ∧ (∀ o es, dx = .lst o es → H q = some (.lst ws)) ∧ Sim K fr (xs.map some ++ (ys.map some ++ ρ)) (ws.map some ++ (us.map some ++ σ)) H := by
  obtain ⟨p, us, h1, h2, h3, h4, S2⟩ := S.explode ey
  obtain ⟨fr', S3, back⟩ := S2.holdN (by rw [List.length_map, List.length_map, h2])
  obtain ⟨q, ws, h5, h6, h7, h8, S4⟩ := S3.explode ex
  exact ⟨p, us, q, ws, h1, h5, h2, h6, h3, h7, h4, h8, (back _ _ _ S4).flip (by simp [h2]) (by simp [h6])⟩
end
/-! ### evaluated with everything frozen; the answer flat -/
theorem Sl.frzA {K : RC} {F F' H : Hp} (h : ∀ a o, F a = some o → F' a = some o) : ∀ {ρ : Env} {σ : L2.St} {A : List Addr}, (∀ a ∈ A, ∀ o, H a = some o → F' a = some o) → Sl K F H ρ σ A → Sl K F' H (ρ.map (Option.map DL.frz)) σ []
  | [], σ, A, _, r => ⟨r.1, rfl⟩
  | x :: ρ, σ, A, k, r => by
    obtain ⟨s, τ, B, C, rfl, rfl, r1, r2⟩ := r
    refine ⟨s, τ, [], [], rfl, rfl, ?_, Sl.frzA h (fun a z => k a (List.mem_append_right _ z)) r2⟩
    cases x with
    | none => rfl
    | some d =>
      obtain ⟨v, e, r1⟩ := r1
      exact ⟨v, e, Rep.frz h d v B (fun a z => k a (List.mem_append_left _ z)) r1⟩
theorem Sim.frzAll {K : RC} {fr : Fr} {ρ : Env} {σ : L2.St} {H : Hp} (S : Sim K fr ρ σ H) : Sim K ⟨H, fr.N⟩ (ρ.map (Option.map DL.frz)) σ H := by
  obtain ⟨A, S⟩ := S
  refine ⟨[], ?_, .nil, (fun _ z => nomatch z), fun _ _ e => e, fun a z => ?_⟩
  · refine Sl.frzA (fun a o e => ?_) (fun a z o e => ?_) S.sl
    · rw [hid_some] at e ⊢
      exact ⟨fun w => e.1 (List.mem_append_right _ (by simpa using w)), e.2⟩
    · exact hid_some.mpr ⟨fun w => (S.off a z).1 (by simpa using w), e⟩
  · obtain ⟨o, e⟩ := S.tr a z
    exact ⟨o, S.keep a o e⟩
theorem Sim.keepG {K : RC} {fr : Fr} {ρ : Env} {σ : L2.St} {H : Hp} (S : Sim K fr ρ σ H) : ∀ a o, fr.G a = some o → H a = some o := let ⟨_, S⟩ := S; S.keep
def eBor (f : M D) : M D := fun ρ => match f (ρ.map (Option.map frz)) with
  | .ok d _ => if (flat d).isSome = true then .ok d ρ else .stuck
  | .exc c fs _ => .exc c fs ρ
  | .stuck => .stuck
section
variable {ι : Type} {X : ι → Cx} {K : RC} {W : WX} {k : Nat} {e a b : Expr} {es : List Expr} {f fa fb : M D} {g : M (List D)} {pos : Pos}
theorem ed_bor (h : ED X K W e f) : ED X K W e (eBor f) := by
  obtain ⟨t, p, s⟩ := h.ex
  refine ⟨t, p, fun fr ρ σ H Q S q => s _ _ σ H Q S.frzAll ?_⟩
  unfold eBor at q
  cases ef : f (ρ.map (Option.map frz)) with
  | ok d ρ' =>
    rw [ef] at q
    by_cases hf : (flat d).isSome = true
    · simp only [hf, if_true] at q
      obtain ⟨u, hu⟩ := Option.isSome_iff_exists.mp hf
      intro v H' S'
      have := S'.topF hu
      subst this
      exact q v H' ((S.grow S'.keepG).pushF hu)
    · simp only [hf] at q
      exact q.elim
  | exc c fs ρ' =>
    rw [ef] at q
    exact fun cls dd H' xx S' => q cls dd H' xx (S.grow S'.keepG)
  | stuck => rw [ef] at q; exact q.elim
theorem td_bor {f : M Bool} (h : TD X K W e f) : TD X K W e (fun ρ => match f (ρ.map (Option.map frz)) with
  | .ok b _ => .ok b ρ
  | .exc c fs _ => .exc c fs ρ
  | .stuck => .stuck) := by
  obtain ⟨t, p, s⟩ := h.ex
  refine ⟨t, p, fun fr ρ σ H Q S q => s _ _ σ H Q S.frzAll ?_⟩
  cases ef : f (ρ.map (Option.map frz)) with
  | ok d ρ' =>
    rw [ef] at q
    exact fun H' S' => q H' (S.grow S'.keepG)
  | exc c fs ρ' =>
    rw [ef] at q
    exact fun cls dd H' xx S' => q cls dd H' xx (S.grow S'.keepG)
  | stuck => rw [ef] at q; exact q.elim
/-! ### built-ins by values -/
def CaS (K : RC) (r : List V → Hp → VK → Prop) (F : List D → Option D) : Prop := ∀ fr ρ σ H ds vs d Q, vs.length = ds.length → Sim K fr (ds.map some ++ ρ) (vs.map some ++ σ) H → F ds = some d →
  (∀ v H', Sim K fr (some d :: ρ) (some v :: σ) H' → Q v H') → r vs H Q
def eBi (F : List D → Option D) (g : M (List D)) : M D := mbind g fun ds => mlift (F ds)
theorem sim_tCB {r : List V → Hp → VK → Prop} {F : List D → Option D} {t : TA} (ho : CaS K r F) (s : ∀ fr ρ σ H Q, Sim K fr ρ σ H → QM K W fr σ [] (g ρ) Q → t σ H Q) {fr : Fr} {ρ : Env} {σ : L2.St} {H : Hp} {Q : VK} (S : Sim K fr ρ σ H) (q : QE K W fr σ (eBi F g ρ) Q) : tCB r t σ H Q := by
  refine s fr ρ σ H _ S ((QR.bind q).mono fun ds ρ1 q1 vs H1 hl _ S1 => ?_)
  obtain ⟨d, e, q2⟩ := QR.lift q1
  exact ho fr ρ1 σ H1 ds vs d Q hl S1 e q2
theorem ed_bi {x : Str} {id : String} {p : Pos} {r : List V → Hp → VK → Prop} {F : List D → Option D} (c : CF X K W k) (hc : ∀ i, CallR (X i) (.builtin id) r) (ho : CaS K r F) (hg : ∀ i, Gl (X i) x) (hm : K.mg x = none) (hv : bootBuiltins x = some (.builtin id)) (ha : AM X K W (e :: es) g [])
    (hn : x ≠ "__name__" := by decide) (hdb : (x == ("__debug__" : Str)) = false := by decide) (he : ∀ i, starEach (e :: es) (X i).env = (false, eval e (X i).env) :: starEach es (X i).env := by intro _; rfl) (hpl : ∀ i, (backTo pos (starEach es (X i).env)).any (·.1) = false := by intro _; rfl) :
    ED X K W (.Call (.Name x p) (e :: es) [] pos) (eBi F g) := by
  obtain ⟨t, pa, s⟩ := ha.ex
  exact ⟨tCB r t, (fun i => pe_callB (hc i) (hg i) (by rw [c.mg i]; exact hm) hv (pa i) hn hdb (he i) (hpl i)), fun fr ρ σ H Q S q => sim_tCB ho s S q⟩
theorem ed_ty {x : Str} {T : String} {p : Pos} {r : List V → Hp → VK → Prop} {F : List D → Option D} (c : CF X K W k) (hc : ∀ i, CallR (X i) (.type T) r) (ho : CaS K r F) (hg : ∀ i, Gl (X i) x) (hm : K.mg x = none) (hv : bootBuiltins x = some (.type T)) (ha : AM X K W (e :: es) g [])
    (hn : x ≠ "__name__" := by decide) (hdb : (x == ("__debug__" : Str)) = false := by decide) (he : ∀ i, starEach (e :: es) (X i).env = (false, eval e (X i).env) :: starEach es (X i).env := by intro _; rfl) (hpl : ∀ i, (backTo pos (starEach es (X i).env)).any (·.1) = false := by intro _; rfl) :
    ED X K W (.Call (.Name x p) (e :: es) [] pos) (eBi F g) := by
  obtain ⟨t, pa, s⟩ := ha.ex
  exact ⟨tCB r t, (fun i => pe_callTy (hc i) (hg i) (by rw [c.mg i]; exact hm) hv (pa i) hn hdb (he i) (hpl i)), fun fr ρ σ H Q S q => sim_tCB ho s S q⟩
/-! ints -/
def isI : D → Option Int
  | .int i => some i
  | _ => none
def ii (C : Int → Int → Bool) (g : Int → Int → D) : D → D → Option D
  | .int i, .int j => if C i j = true then some (g i j) else none
  | _, _ => none
theorem ops_ii {C : Int → Int → Bool} {P : Int → Int → Prop} {g : Int → Int → D} {h : Int → Int → V} (hP : ∀ i j, C i j = true → P i j) (hg : ∀ i j, flat (g i j) = some (h i j)) : OpS K (rI P h) (ii C g) := by
  intro fr ρ σ H dx dy vx vy d Q S e q
  cases dx with
  | int i => cases dy with
    | int j =>
      unfold ii at e
      by_cases hc : C i j = true
      · simp only [hc, if_true] at e
        cases e
        exact ⟨i, j, S.drop.topF rfl, S.topF rfl, hP i j hc, q _ H (S.drop.drop.pushF (hg i j))⟩
      · simp only [hc] at e
        cases e
    | _ => cases e
  | _ => cases e
theorem ops_ii0 {g : Int → Int → D} {h : Int → Int → V} (hg : ∀ i j, flat (g i j) = some (h i j)) : OpS K (rI0 h) (ii (fun _ _ => true) g) := by
  intro fr ρ σ H dx dy vx vy d Q S e q
  cases dx with
  | int i => cases dy with
    | int j =>
      cases e
      exact ⟨i, j, S.drop.topF rfl, S.topF rfl, q _ H (S.drop.drop.pushF (hg i j))⟩
    | _ => cases e
  | _ => cases e
def subD : D → D → Option D := ii (fun _ _ => true) fun i j => .int (i - j)
theorem ed_sub (c : CF X K W k) (ha : ED X K W a fa) (hb : ED X K W b fb) : ED X K W (.BinOp a .Sub b pos) (e2 subD fa fb) := ed_op (fun _ => op_sub) (ops_ii0 fun _ _ => rfl) ha hb
/-- products: one factor below 2^64, or both below 2^4000 -/
def mulOk (i j : Int) : Bool := decide (-(2 ^ 64) < i ∧ i < 2 ^ 64) || decide (-(2 ^ 64) < j ∧ j < 2 ^ 64) || (decide (i.natAbs < 2 ^ 4000) && decide (j.natAbs < 2 ^ 4000))
def lebD : D → D → Option D := ii (fun _ _ => true) fun i j => .bl (decide (i ≤ j))
def ltD : D → D → Option D := ii (fun _ _ => true) fun i j => .bl (decide (i < j))
def gtD : D → D → Option D := ii (fun _ _ => true) fun i j => .bl (decide (j < i))
def geD : D → D → Option D := ii (fun _ _ => true) fun i j => .bl (decide (j ≤ i))
theorem ops_le : OpS K (rI0 fun i j => .bl (decide (i ≤ j))) lebD := ops_ii0 fun _ _ => rfl
theorem ops_lt : OpS K (rI0 fun i j => .bl (decide (i < j))) ltD := ops_ii0 fun _ _ => rfl
theorem ops_gt : OpS K (rI0 fun i j => .bl (decide (j < i))) gtD := ops_ii0 fun _ _ => rfl
theorem ops_ge : OpS K (rI0 fun i j => .bl (decide (j ≤ i))) geD := ops_ii0 fun _ _ => rfl
/-! floor and rest by positive divisors -/
def fdivD : D → D → Option D := ii (fun _ j => decide (0 < j ∧ j.natAbs < 2 ^ 8000)) fun i j => .int (i / j)
def modD : D → D → Option D := ii (fun _ j => decide (0 < j)) fun i j => .int (i % j)
theorem ed_fdiv (c : CF X K W k) (ha : ED X K W a fa) (hb : ED X K W b fb) : ED X K W (.BinOp a .FloorDiv b pos) (e2 fdivD fa fb) :=
  ed_op (fun _ => op_fdivW) (ops_ii (fun i j h => by
    have := of_decide_eq_true h
    exact wide_div this.1 this.2 (by decide) (by decide)) fun _ _ => rfl) ha hb
theorem ed_mod (c : CF X K W k) (ha : ED X K W a fa) (hb : ED X K W b fb) : ED X K W (.BinOp a .Mod b pos) (e2 modD fa fb) :=
  ed_op (fun _ => op_mod) (ops_ii (fun i j h => of_decide_eq_true h) fun _ _ => rfl) ha hb
def powD : D → D → Option D := ii (fun i j => decide (0 ≤ j ∧ j ≤ 1000000 ∧ i.natAbs < 2 ^ 64)) fun i j => .int (i ^ j.toNat)
theorem ed_pow (c : CF X K W k) (ha : ED X K W a fa) (hb : ED X K W b fb) : ED X K W (.BinOp a .Pow b pos) (e2 powD fa fb) :=
  ed_op (fun _ => op_pow) (ops_ii (P := CPow) (fun i j h => show CPow i j from of_decide_eq_true (p := 0 ≤ j ∧ j ≤ 1000000 ∧ i.natAbs < 2 ^ 64) h) fun _ _ => rfl) ha hb
def negD : D → Option D
  | .int i => some (.int (-i))
  | _ => none
theorem ed_neg (c : CF X K W k) (ha : ED X K W a fa) : ED X K W (.UnaryOp .USub a pos) (e1 negD fa) := by
  obtain ⟨t, p, s⟩ := ha.ex
  refine ⟨tUn (rU fun i => .int (-i)) t, (fun i => pe_un un_neg (p i)), fun fr ρ σ H Q S q => s fr ρ σ H _ S ((QR.bind q).mono fun d ρ1 q1 v H1 S1 => ?_)⟩
  obtain ⟨d', e, q2⟩ := QR.lift q1
  cases d with
  | int i =>
    cases e
    exact ⟨i, S1.topF rfl, q2 _ H1 (S1.drop.pushF rfl)⟩
  | _ => cases e
/-! + of ints, texts, tuples, lists -/
def addD : D → D → Option D
  | .int i, .int j => some (.int (i + j))
  | .str x, .str y => if x.length + y.length ≤ sizeLine then some (.str (x ++ y)) else none
  | .tup xs, .tup ys => if xs.length + ys.length ≤ sizeLine then some (.tup (xs ++ ys)) else none
  | .lst _ xs, .lst _ ys => if xs.length + ys.length ≤ sizeLine then some (.lst true (xs ++ ys)) else none
  | _, _ => none
def rAddA (K : PySem.W.Frag) : R2 := fun x y H Q => (rI0 (fun i j => .int (i + j)) x y H Q) ∨ ((∃ i j, x = .str i ∧ y = .str j ∧ i.length + j.length ≤ sizeLine ∧ Q (.str (i ++ j)) H) ∨ (rCatA K x y H Q ∨ rCat x y H Q))
theorem op_addA {X : Cx} : OpR X (binaryOp .Add) (rAddA X.K) := OpR.or op_add (OpR.or op_add_str (OpR.or op_catA op_cat))
theorem ops_add : OpS K (rAddA K.K) addD := by
  intro fr ρ σ H dx dy vx vy d Q S e q
  cases dx with
  | int i => cases dy with
    | int j =>
      cases e
      exact .inl ⟨i, j, S.drop.topF rfl, S.topF rfl, q _ H (S.drop.drop.pushF rfl)⟩
    | _ => cases e
  | str x => cases dy with
    | str y =>
      unfold addD at e
      by_cases hc : x.length + y.length ≤ sizeLine
      · simp only [hc, if_true] at e
        cases e
        exact .inr (.inl ⟨x, y, S.drop.topF rfl, S.topF rfl, hc, q _ H (S.drop.drop.pushF rfl)⟩)
      · simp only [hc, if_false] at e
        cases e
    | _ => cases e
  | tup xs => cases dy with
    | tup ys =>
      unfold addD at e
      by_cases hc : xs.length + ys.length ≤ sizeLine
      · simp only [hc, if_true] at e
        cases e
        have f1 := S.drop.tup_frz
        have f2 := S.tup_frz
        obtain ⟨p, us, p2, ws, rfl, rfl, h2, h4, h3, h5, _, _, S1⟩ := S.explode22 (ys := ys) (xs := xs) rfl rfl
        refine .inr (.inr (.inl ⟨p2, p, ws, us, rfl, rfl, h5, h3, by omega, fun e => ?_, fun _ e => ?_, fun _ _ l hl => ?_⟩))
        · have : xs = [] := List.length_eq_zero_iff.mp (by rw [← h4, e]; rfl)
          subst this
          exact q _ H (S.xch.drop)
        · have : ys = [] := List.length_eq_zero_iff.mp (by rw [← h2, e]; rfl)
          subst this
          rw [List.append_nil] at q
          exact q _ H S.drop
        · have S2 : Sim K fr ((xs ++ ys).map some ++ ρ) ((ws ++ us).map some ++ σ) H := by
            rw [List.map_append, List.map_append, List.append_assoc, List.append_assoc]
            exact S1
          have S3 := S2.newT (by simp [h2, h4]) hl
          rw [frzL_app, f1, f2] at S3
          exact q _ _ S3
      · simp only [hc, if_false] at e
        cases e
    | _ => cases e
  | lst o xs => cases dy with
    | lst o' ys =>
      unfold addD at e
      by_cases hc : xs.length + ys.length ≤ sizeLine
      · simp only [hc, if_true] at e
        cases e
        obtain ⟨p, us, p2, ws, rfl, rfl, h2, h4, _, _, h3, h5, S1⟩ := S.explode22 (ys := ys) (xs := xs) rfl rfl
        refine .inr (.inr (.inr ⟨p2, p, ws, us, rfl, rfl, h5 _ _ rfl, h3 _ _ rfl, by omega, fun l hl => ?_⟩))
        have S2 : Sim K fr ((xs ++ ys).map some ++ ρ) ((ws ++ us).map some ++ σ) H := by
          rw [List.map_append, List.map_append, List.append_assoc, List.append_assoc]
          exact S1
        exact q _ _ (S2.newL (by simp [h2, h4]) hl)
      · simp only [hc, if_false] at e
        cases e
    | _ => cases e
  | _ => cases e
theorem rAddA_K {X : Cx} (h : X.K = K.K) : OpR X (binaryOp .Add) (rAddA K.K) := by rw [← h]; exact op_addA
theorem ed_add (c : CF X K W k) (ha : ED X K W a fa) (hb : ED X K W b fb) : ED X K W (.BinOp a .Add b pos) (e2 addD fa fb) := ed_op (fun i => rAddA_K (c.kk i)) ops_add ha hb
end
end DL

set_option Elab.async false
set_option linter.all false
set_option maxRecDepth 100000
set_option maxHeartbeats 4000000
namespace DL
open PySem PySem.Spec L2
/-! ### displays -/
section
variable {ι : Type} {X : ι → Cx} {K : RC} {W : WX} {k : Nat} {e a b c' : Expr} {es : List Expr} {f fa fb fc : M D} {g : M (List D)} {pos : Pos}
def eTup (g : M (List D)) : M D := mbind g fun ds => if ds.length ≤ sizeLine then mret (.tup (frzL ds)) else mlift none
def eLst (g : M (List D)) : M D := mbind g fun ds => if ds.length ≤ sizeLine then mret (.lst true ds) else mlift none
theorem ed_tup {x1} (h : AM X K W es g []) : ED X K W (.Tuple es x1 pos) (eTup g) := by
  obtain ⟨t, p, s⟩ := h.ex
  refine ⟨tTup t, (fun i => pe_tup (p i)), fun fr ρ σ H Q S q => s fr ρ σ H _ S ((QR.bind q).mono fun ds ρ1 q1 vs H1 hl _ S1 => ?_)⟩
  by_cases hz : ds.length ≤ sizeLine
  · rw [if_pos hz] at q1
    exact ⟨by omega, fun p hp => q1 _ _ (S1.newT hl hp)⟩
  · rw [if_neg hz] at q1
    exact q1.elim
theorem ed_lst (h : AM X K W es g []) : ED X K W (.List es pos) (eLst g) := by
  obtain ⟨t, p, s⟩ := h.ex
  refine ⟨tLst t, (fun i => pe_lst (p i)), fun fr ρ σ H Q S q => s fr ρ σ H _ S ((QR.bind q).mono fun ds ρ1 q1 vs H1 hl _ S1 => ?_)⟩
  by_cases hz : ds.length ≤ sizeLine
  · rw [if_pos hz] at q1
    exact ⟨by omega, fun p hp => q1 _ _ (S1.newL hl hp)⟩
  · rw [if_neg hz] at q1
    exact q1.elim
/-! ### items -/
def ixD : D → D → Option D
  | .str x, .int i => if x.length ≤ sizeLine then (atI x.cps.toList i).map fun c => .str ⟨#[c]⟩ else none
  | d, .int i => (items d).bind fun ds => atI ds i
  | _, _ => none
theorem atI_get {α β : Type} {xs : List α} {ys : List β} {i : Int} {y : β} (hl : xs.length = ys.length) (h : atI ys i = some y) : ∃ j : Nat, ys[j]? = some y ∧ ∀ x, xs[j]? = some x → atI xs i = some x := by
  unfold atI at h ⊢
  rw [hl]
  cases e : ixN ys.length i with
  | none => rw [e] at h; cases h
  | some j => rw [e] at h; exact ⟨j, h, fun x hx => hx⟩
theorem ops_ix : OpS K (rIx K.K) ixD := by
  intro fr ρ σ H dx dy vx vy d Q S e q
  cases dy with
  | int i =>
    have hy := S.topF rfl
    subst hy
    have seq : ∀ ds, items dx = some ds → atI ds i = some d → rIx K.K vx (.int i) H Q := fun ds hi ha => by
      obtain ⟨p, xs, rfl, h2, h3, _, S1⟩ := S.drop.explode hi
      obtain ⟨j, hj, hx⟩ := atI_get h2 ha
      obtain ⟨v, hv, S2⟩ := S1.pick h2 hj
      have hL := hx v hv
      by_cases hk : isL dx = true
      · rw [if_pos hk] at h3
        exact .inl ⟨p, xs, i, v, rfl, rfl, h3, hL, q v H S2⟩
      · rw [if_neg hk] at h3
        exact .inr (.inl ⟨p, xs, i, v, rfl, rfl, h3, hL, q v H S2⟩)
    cases dx with
    | str x =>
      unfold ixD at e
      by_cases hz : x.length ≤ sizeLine
      · simp only [hz, if_true] at e
        cases hc : atI x.cps.toList i with
        | none => rw [hc] at e; cases e
        | some c =>
          rw [hc] at e
          cases e
          exact .inr (.inr ⟨x, i, c, S.drop.topF rfl, rfl, hz, hc, q _ H (S.drop.drop.pushF rfl)⟩)
      · simp only [hz, if_false] at e
        cases e
    | tup ds => exact seq ds rfl e
    | lst o ds => exact seq ds rfl e
    | scr ns => exact seq _ rfl e
    | _ => cases e
  | _ => cases dx <;> cases e
theorem ed_ix (c : CF X K W k) (ha : ED X K W a fa) (hb : ED X K W b fb) (hs : PlainIx b := by exact fun _ _ => rfl) : ED X K W (.Subscript a b pos) (e2 ixD fa fb) := by
  obtain ⟨ta, pa, sa⟩ := ha.ex
  obtain ⟨tb, pb, sb⟩ := hb.ex
  exact ⟨tOp (rIx K.K) ta tb, (fun i => pe_ix (by rw [← c.kk i]; exact ix_seq) (pa i) (pb i) hs), fun fr ρ σ H Q S q => sim_tOp ops_ix sa sb S q⟩
/-! ### comparisons -/
theorem ed_lt (c : CF X K W k) (ha : ED X K W a fa) (hb : ED X K W b fb) : ED X K W (.Compare a [.Lt] [b] pos) (e2 ltD fa fb) := ed_cmp (fun _ => op_lt) ops_lt ha hb (nomark _)
theorem ed_le (c : CF X K W k) (ha : ED X K W a fa) (hb : ED X K W b fb) : ED X K W (.Compare a [.LtE] [b] pos) (e2 lebD fa fb) := ed_cmp (fun _ => op_le) ops_le ha hb (nomark _)
theorem ed_gt (c : CF X K W k) (ha : ED X K W a fa) (hb : ED X K W b fb) : ED X K W (.Compare a [.Gt] [b] pos) (e2 gtD fa fb) := ed_cmp (fun _ => op_gt) ops_gt ha hb (nomark _)
theorem ed_ge (c : CF X K W k) (ha : ED X K W a fa) (hb : ED X K W b fb) : ED X K W (.Compare a [.GtE] [b] pos) (e2 geD fa fb) := ed_cmp (fun _ => op_ge) ops_ge ha hb (nomark _)
theorem td_lt (c : CF X K W k) (ha : ED X K W a fa) (hb : ED X K W b fb) : TD X K W (.Compare a [.Lt] [b] pos) (eB (e2 ltD fa fb)) := td_cmp (fun _ => op_lt) ops_lt ha hb (nomark _)
theorem td_le (c : CF X K W k) (ha : ED X K W a fa) (hb : ED X K W b fb) : TD X K W (.Compare a [.LtE] [b] pos) (eB (e2 lebD fa fb)) := td_cmp (fun _ => op_le) ops_le ha hb (nomark _)
theorem td_gt (c : CF X K W k) (ha : ED X K W a fa) (hb : ED X K W b fb) : TD X K W (.Compare a [.Gt] [b] pos) (eB (e2 gtD fa fb)) := td_cmp (fun _ => op_gt) ops_gt ha hb (nomark _)
theorem td_ge (c : CF X K W k) (ha : ED X K W a fa) (hb : ED X K W b fb) : TD X K W (.Compare a [.GtE] [b] pos) (eB (e2 geD fa fb)) := td_cmp (fun _ => op_ge) ops_ge ha hb (nomark _)
/-! == and != of data -/
mutual
def toPy : D → Option PyData
  | .non => some .none
  | .bl b => some (.bool b)
  | .int i => some (.int i)
  | .str x => some (.str x)
  | .scr ns => some (.list (ns.map PyData.int))
  | .tup ds => (toPyL ds).map PyData.tuple
  | .lst _ ds => (toPyL ds).map PyData.list
  | _ => none
def toPyL : List D → Option (List PyData)
  | [] => some []
  | d :: ds => (toPy d).bind fun p => (toPyL ds).map fun ps => p :: ps
end
theorem dp_ints {K : PySem.W.Frag} {H : Hp} : ∀ ns : List Int, DpAll K H (ns.map V.int) (ns.map PyData.int)
  | [] => .nil
  | n :: ns => .cons (.int n) (dp_ints ns)
mutual
theorem rep_dp {F H : Hp} (h : ∀ a o, F a = some o → H a = some o) : ∀ (d : D) (v : V) (A : List Addr) (p : PyData), Rep K F H d v A → toPy d = some p → Dp K.K H v p
  | .non, v, A, p, r, e => by obtain ⟨rfl, _⟩ := r; cases e; exact .non
  | .bl b, v, A, p, r, e => by obtain ⟨rfl, _⟩ := r; cases e; exact .bl b
  | .int i, v, A, p, r, e => by obtain ⟨rfl, _⟩ := r; cases e; exact .int i
  | .str x, v, A, p, r, e => by obtain ⟨rfl, _⟩ := r; cases e; exact .str x
  | .adr _, v, A, p, r, e => by cases e
  | .scr ns, v, A, p, r, e => by
    obtain ⟨_, a, rfl, s⟩ := r
    cases e
    exact .lst (SqL.mono h s) (dp_ints ns)
  | .tup ds, v, A, p, r, e => by
    obtain ⟨_, a, xs, rfl, s, r⟩ := r
    unfold toPy at e
    cases e1 : toPyL ds with
    | none => rw [e1] at e; cases e
    | some ps =>
      rw [e1] at e
      cases e
      exact .tup (SqT.mono h s) (rep_dpL h ds xs [] ps r e1)
  | .lst false ds, v, A, p, r, e => by
    obtain ⟨_, a, xs, rfl, s, r⟩ := r
    unfold toPy at e
    cases e1 : toPyL ds with
    | none => rw [e1] at e; cases e
    | some ps =>
      rw [e1] at e
      cases e
      exact .lst (SqL.of (h _ _ s)) (rep_dpL h ds xs [] ps r e1)
  | .lst true ds, v, A, p, r, e => by
    obtain ⟨a, xs, B, rfl, rfl, s, r⟩ := r
    unfold toPy at e
    cases e1 : toPyL ds with
    | none => rw [e1] at e; cases e
    | some ps =>
      rw [e1] at e
      cases e
      exact .lst (SqL.of s) (rep_dpL h ds xs B ps r e1)
  | .dk _ _ _, v, A, p, r, e => by cases e
  | .dt _ _ _, v, A, p, r, e => by cases e
  | .obj _ _ _ _, v, A, p, r, e => by cases e
theorem rep_dpL {F H : Hp} (h : ∀ a o, F a = some o → H a = some o) : ∀ (ds : List D) (vs : List V) (A : List Addr) (ps : List PyData), RepL K F H ds vs A → toPyL ds = some ps → DpAll K.K H vs ps
  | [], vs, A, ps, r, e => by obtain ⟨rfl, _⟩ := r; cases e; exact .nil
  | d :: ds, vs, A, ps, r, e => by
    obtain ⟨v, ws, B, C, rfl, rfl, r1, r2⟩ := r
    unfold toPyL at e
    cases e1 : toPy d with
    | none => rw [e1] at e; cases e
    | some p =>
      rw [e1] at e
      cases e2 : toPyL ds with
      | none => rw [e2] at e; cases e
      | some qs =>
        rw [e2] at e
        cases e
        exact .cons (rep_dp h d v B p r1 e1) (rep_dpL h ds ws C qs r2 e2)
end
/-- == of plain data -/
def eqB (x y : D) : Option Bool := (toPy x).bind fun p => (toPy y).bind fun q => if SeqAt.shaped p = true ∧ SeqAt.shaped q = true then some (PyData.eqv p q) else none
def eqD (x y : D) : Option D := (eqB x y).map D.bl
def neD (x y : D) : Option D := (eqB x y).map fun b => D.bl !b
theorem eqB_some {x y : D} {b : Bool} (h : eqB x y = some b) : ∃ p q, toPy x = some p ∧ toPy y = some q ∧ SeqAt.shaped p = true ∧ SeqAt.shaped q = true ∧ PyData.eqv p q = b := by
  unfold eqB at h
  cases e1 : toPy x with
  | none => rw [e1] at h; cases h
  | some p =>
    cases e2 : toPy y with
    | none => rw [e1, e2] at h; cases h
    | some q =>
      rw [e1, e2] at h
      by_cases hz : SeqAt.shaped p = true ∧ SeqAt.shaped q = true
      · simp only [Option.bind_some, hz, and_self, if_true] at h
        exact ⟨p, q, rfl, rfl, hz.1, hz.2, Option.some.inj h⟩
      · simp only [Option.bind_some, hz, if_false] at h
        cases h
theorem ops_eq : OpS K (rEqD K.K) eqD := by
  intro fr ρ σ H dx dy vx vy d Q S e q
  unfold eqD at e
  cases e1 : eqB dx dy with
  | none => rw [e1] at e; cases e
  | some b =>
    rw [e1] at e
    cases e
    obtain ⟨p, r, h1, h2, h3, h4, h5⟩ := eqB_some e1
    obtain ⟨F1, B1, r1, k1⟩ := S.drop.top
    obtain ⟨F2, B2, r2, k2⟩ := S.top
    refine ⟨p, r, rep_dp k1 _ _ _ _ r1 h1, rep_dp k2 _ _ _ _ r2 h2, h3, h4, ?_⟩
    rw [h5]
    exact q _ H (S.drop.drop.pushF rfl)
theorem ops_ne : OpS K (rNeD K.K) neD := by
  intro fr ρ σ H dx dy vx vy d Q S e q
  unfold neD at e
  cases e1 : eqB dx dy with
  | none => rw [e1] at e; cases e
  | some b =>
    rw [e1] at e
    cases e
    obtain ⟨p, r, h1, h2, h3, h4, h5⟩ := eqB_some e1
    obtain ⟨F1, B1, r1, k1⟩ := S.drop.top
    obtain ⟨F2, B2, r2, k2⟩ := S.top
    refine ⟨p, r, rep_dp k1 _ _ _ _ r1 h1, rep_dp k2 _ _ _ _ r2 h2, h3, h4, ?_⟩
    rw [h5]
    exact q _ H (S.drop.drop.pushF rfl)
theorem CF.eqD (c : CF X K W k) (i : ι) : OpR (X i) (compareOp .Eq) (rEqD K.K) := by rw [← c.kk i]; exact op_eqD (c.room i).units
theorem CF.neD (c : CF X K W k) (i : ι) : OpR (X i) (compareOp .NotEq) (rNeD K.K) := by rw [← c.kk i]; exact op_neD (c.room i).units
theorem ed_eq (c : CF X K W k) (ha : ED X K W a fa) (hb : ED X K W b fb) : ED X K W (.Compare a [.Eq] [b] pos) (e2 eqD fa fb) := ed_cmp (fun i => c.eqD i) ops_eq ha hb (nomark _)
theorem ed_ne (c : CF X K W k) (ha : ED X K W a fa) (hb : ED X K W b fb) : ED X K W (.Compare a [.NotEq] [b] pos) (e2 neD fa fb) := ed_cmp (fun i => c.neD i) ops_ne ha hb (nomark _)
theorem td_eq (c : CF X K W k) (ha : ED X K W a fa) (hb : ED X K W b fb) : TD X K W (.Compare a [.Eq] [b] pos) (eB (e2 eqD fa fb)) := td_cmp (fun i => c.eqD i) ops_eq ha hb (nomark _)
theorem td_ne (c : CF X K W k) (ha : ED X K W a fa) (hb : ED X K W b fb) : TD X K W (.Compare a [.NotEq] [b] pos) (eB (e2 neD fa fb)) := td_cmp (fun i => c.neD i) ops_ne ha hb (nomark _)
/-! is None -/
def isN : D → Bool
  | .non => true
  | _ => false
theorem Sim.isN {fr : Fr} {ρ : Env} {σ : L2.St} {H : Hp} {d : D} {v : V} (S : Sim K fr (some d :: ρ) (some v :: σ) H) : decide (v = .non) = DL.isN d := by
  obtain ⟨F, B, r, _⟩ := S.top
  cases d with
  | non => obtain ⟨rfl, _⟩ := r; rfl
  | bl b => obtain ⟨rfl, _⟩ := r; rfl
  | int b => obtain ⟨rfl, _⟩ := r; rfl
  | str b => obtain ⟨rfl, _⟩ := r; rfl
  | adr b => obtain ⟨rfl, _⟩ := r; rfl
  | scr ns => obtain ⟨_, a, rfl, _⟩ := r; rfl
  | tup ds => obtain ⟨_, a, xs, rfl, _⟩ := r; rfl
  | lst o ds => cases o with
    | false => obtain ⟨_, a, xs, rfl, _⟩ := r; rfl
    | true => obtain ⟨a, xs, B, rfl, _⟩ := r; rfl
  | dk o ks ds => cases o with
    | false => obtain ⟨_, a, xs, rfl, _⟩ := r; rfl
    | true => obtain ⟨a, xs, B, rfl, _⟩ := r; rfl
  | dt o ks ds => cases o with
    | false => obtain ⟨_, a, xs, rfl, _⟩ := r; rfl
    | true => obtain ⟨a, xs, B, rfl, _⟩ := r; rfl
  | obj o c ns ds => cases o with
    | false => obtain ⟨_, a, C, dx, fs, rfl, _⟩ := r; rfl
    | true => obtain ⟨a, C, dx, fs, B, rfl, _⟩ := r; rfl
def eIsN (f : M D) : M D := mbind f fun d => mret (.bl (isN d))
def eNotN (f : M D) : M D := mbind f fun d => mret (.bl !(isN d))
theorem sim_isN {t : TE} (s : ∀ fr ρ σ H Q, Sim K fr ρ σ H → QE K W fr σ (fa ρ) Q → t σ H Q) {fr : Fr} {ρ : Env} {σ : L2.St} {H : Hp} {Q : VK} (S : Sim K fr ρ σ H) (q : QE K W fr σ (eIsN fa ρ) Q) : tIsN t σ H Q := by
  refine s fr ρ σ H _ S ((QR.bind q).mono fun d ρ1 q1 v H1 S1 => ?_)
  show Q (.bl (decide (v = .non))) H1
  rw [S1.isN]
  exact q1 _ H1 (S1.drop.pushF rfl)
theorem sim_notN {t : TE} (s : ∀ fr ρ σ H Q, Sim K fr ρ σ H → QE K W fr σ (fa ρ) Q → t σ H Q) {fr : Fr} {ρ : Env} {σ : L2.St} {H : Hp} {Q : VK} (S : Sim K fr ρ σ H) (q : QE K W fr σ (eNotN fa ρ) Q) : tNotN t σ H Q := by
  refine s fr ρ σ H _ S ((QR.bind q).mono fun d ρ1 q1 v H1 S1 => ?_)
  show Q (.bl (!decide (v = .non))) H1
  rw [S1.isN]
  exact q1 _ H1 (S1.drop.pushF rfl)
theorem ed_isN {j pos'} (ha : ED X K W a fa) : ED X K W (.Compare a [.Is] [.Constant .none j pos'] pos) (eIsN fa) := by
  obtain ⟨t, p, s⟩ := ha.ex
  exact ⟨tIsN t, (fun i => pe_cmp (pc_isN (p i)) rfl), fun fr ρ σ H Q S q => sim_isN s S q⟩
theorem ed_notN {j pos'} (ha : ED X K W a fa) : ED X K W (.Compare a [.IsNot] [.Constant .none j pos'] pos) (eNotN fa) := by
  obtain ⟨t, p, s⟩ := ha.ex
  exact ⟨tNotN t, (fun i => pe_cmp (pc_notN (p i)) rfl), fun fr ρ σ H Q S q => sim_notN s S q⟩
theorem td_isN {j pos'} (ha : ED X K W a fa) : TD X K W (.Compare a [.Is] [.Constant .none j pos'] pos) (eB (eIsN fa)) := by
  obtain ⟨t, p, s⟩ := ha.ex
  exact ⟨tB (tIsN t), (fun i => pt_cmp (pc_isN (p i)) rfl), fun fr ρ σ H Q S q => sim_tTest (fun fr ρ σ H Q S q => sim_isN s S q) S q⟩
theorem td_notN {j pos'} (ha : ED X K W a fa) : TD X K W (.Compare a [.IsNot] [.Constant .none j pos'] pos) (eB (eNotN fa)) := by
  obtain ⟨t, p, s⟩ := ha.ex
  exact ⟨tB (tNotN t), (fun i => pt_cmp (pc_notN (p i)) rfl), fun fr ρ σ H Q S q => sim_tTest (fun fr ρ σ H Q S q => sim_notN s S q) S q⟩
/-! chains: the middle one is asked once; it is flat -/
def eChain (F G : D → D → Option D) (fa fb fc : M D) : M D := mbind fa fun x => mbind fb fun y => mbind (mlift (F x y)) fun r => mbind (mlift (isB r)) fun k => if k = true then (if (flat y).isSome = true then mbind fc fun z => mlift (G y z) else mlift none) else mret (.bl false)
theorem sim_chain {r r' : R2} {F G : D → D → Option D} (ho : OpS K r F) (ho' : OpS K r' G) {ta tb tc : TE} (sa : ∀ fr ρ σ H Q, Sim K fr ρ σ H → QE K W fr σ (fa ρ) Q → ta σ H Q) (sb : ∀ fr ρ σ H Q, Sim K fr ρ σ H → QE K W fr σ (fb ρ) Q → tb σ H Q) (sc : ∀ fr ρ σ H Q, Sim K fr ρ σ H → QE K W fr σ (fc ρ) Q → tc σ H Q)
    {fr : Fr} {ρ : Env} {σ : L2.St} {H : Hp} {Q : VK} (S : Sim K fr ρ σ H) (q : QE K W fr σ (eChain F G fa fb fc ρ) Q) : tChain r r' ta tb tc σ H Q := by
  refine sa fr ρ σ H _ S ((QR.bind q).mono fun dx ρ1 q1 vx H1 S1 => ?_)
  refine two S1 sb (QR.bind q1) fun dy ρ2 vy H2 q2 S2 => ?_
  obtain ⟨d, e, q3⟩ := QR.lift (QR.bind q2)
  obtain ⟨k, ek, q4⟩ := QR.lift (QR.bind q3)
  have := isB_eq ek
  subst this
  have hS2 := S2
  refine ho fr ρ2 σ H2 dx dy vx vy (.bl k) _ S2 e fun v H3 S3 => ?_
  have := S3.topF rfl
  subst this
  refine ⟨k, rfl, ?_⟩
  cases k with
  | false =>
    rw [if_neg Bool.false_ne_true] at q4 ⊢
    exact q4 _ H3 S3
  | true =>
    rw [if_pos rfl] at q4 ⊢
    by_cases hf : (flat dy).isSome = true
    · simp only [hf, if_true] at q4
      obtain ⟨u, hu⟩ := Option.isSome_iff_exists.mp hf
      have := hS2.topF hu
      subst this
      have S4 : Sim K fr (some dy :: ρ2) (some vy :: σ) H3 := S3.drop.pushF hu
      refine two S4 sc (QR.bind q4) fun dz ρ3 vz H4 q5 S5 => ?_
      obtain ⟨d', e', q6⟩ := QR.lift q5
      exact ho' fr ρ3 σ H4 dy dz vy vz d' Q S5 e' q6
    · simp only [hf] at q4
      exact q4.elim
theorem ed_chain {op op' : CmpOp} {r r' : R2} {F G : D → D → Option D} (h : ∀ i, OpR (X i) (compareOp op) r) (h' : ∀ i, OpR (X i) (compareOp op') r') (ho : OpS K r F) (ho' : OpS K r' G) (ha : ED X K W a fa) (hb : ED X K W b fb) (hc : ED X K W c' fc) (hm : lastMarks [op, op'] [b, c'] = false := by with_unfolding_all rfl) :
    ED X K W (.Compare a [op, op'] [b, c'] pos) (eChain F G fa fb fc) := by
  obtain ⟨ta, pa, sa⟩ := ha.ex
  obtain ⟨tb, pb, sb⟩ := hb.ex
  obtain ⟨tc, pc, sc⟩ := hc.ex
  exact ⟨tChain r r' ta tb tc, (fun i => pe_chain (h i) (h' i) (pa i) (pb i) (pc i) hm), fun fr ρ σ H Q S q => sim_chain ho ho' sa sb sc S q⟩
theorem td_chain {op op' : CmpOp} {r r' : R2} {F G : D → D → Option D} (h : ∀ i, OpR (X i) (compareOp op) r) (h' : ∀ i, OpR (X i) (compareOp op') r') (ho : OpS K r F) (ho' : OpS K r' G) (ha : ED X K W a fa) (hb : ED X K W b fb) (hc : ED X K W c' fc) (hm : lastMarks [op, op'] [b, c'] = false := by with_unfolding_all rfl) :
    TD X K W (.Compare a [op, op'] [b, c'] pos) (eB (eChain F G fa fb fc)) := by
  obtain ⟨ta, pa, sa⟩ := ha.ex
  obtain ⟨tb, pb, sb⟩ := hb.ex
  obtain ⟨tc, pc, sc⟩ := hc.ex
  exact ⟨tTest (tChain r r' ta tb tc), (fun i => pt_chain (h i) (h' i) (pa i) (pb i) (pc i) hm), fun fr ρ σ H Q S q => sim_tTest (fun fr ρ σ H Q S q => sim_chain ho ho' sa sb sc S q) S q⟩
end
end DL

set_option Elab.async false
set_option linter.all false
set_option maxRecDepth 100000
set_option maxHeartbeats 4000000
namespace DL
open PySem PySem.Spec L2
/-! ### isinstance of built-in types -/
inductive Ty where
  | int | bool | str | tuple | list | dict
def Ty.nm : Ty → String
  | .int => "int"
  | .bool => "bool"
  | .str => "str"
  | .tuple => "tuple"
  | .list => "list"
  | .dict => "dict"
def tyN : D → Option String
  | .non => some "NoneType"
  | .bl _ => some "bool"
  | .int _ => some "int"
  | .str _ => some "str"
  | .adr _ => none
  | .scr _ => some "list"
  | .tup _ => some "tuple"
  | .lst _ _ => some "list"
  | .dk _ _ _ => some "dict"
  | .dt _ _ _ => some "dict"
  | .obj _ _ _ _ => none
def instB : Ty → D → Option Bool
  | _, .adr _ => none
  | _, .obj _ _ _ _ => none
  | .int, .int _ => some true
  | .int, .bl _ => some true
  | .bool, .bl _ => some true
  | .str, .str _ => some true
  | .tuple, .tup _ => some true
  | .list, .lst _ _ => some true
  | .list, .scr _ => some true
  | .dict, .dk _ _ _ => some true
  | .dict, .dt _ _ _ => some true
  | _, _ => some false
theorem kitB_tab : ∀ t ∈ ["NoneType", "bool", "int", "str", "list", "tuple", "dict"], ∀ T ∈ ["int", "bool", "str", "tuple", "list", "dict"], kitB t T = some (t == T || (t == "bool" && T == "int")) := by decide +kernel
theorem instB_kit {T : Ty} {d : D} {b : Bool} (h : instB T d = some b) : ∃ t, tyN d = some t ∧ kitB t T.nm = some b := by
  have go : ∀ t, t ∈ ["NoneType", "bool", "int", "str", "list", "tuple", "dict"] → (t == T.nm || (t == "bool" && T.nm == "int")) = b → kitB t T.nm = some b := fun t ht e => by
    rw [← e]
    refine kitB_tab t ht T.nm ?_
    cases T <;> simp [Ty.nm]
  cases d with
  | adr a => cases T <;> cases h
  | obj o c ns ds => cases T <;> cases h
  | non => exact ⟨_, rfl, go _ (by simp) (by cases T <;> cases h <;> rfl)⟩
  | bl x => exact ⟨_, rfl, go _ (by simp) (by cases T <;> cases h <;> rfl)⟩
  | int x => exact ⟨_, rfl, go _ (by simp) (by cases T <;> cases h <;> rfl)⟩
  | str x => exact ⟨_, rfl, go _ (by simp) (by cases T <;> cases h <;> rfl)⟩
  | scr x => exact ⟨_, rfl, go _ (by simp) (by cases T <;> cases h <;> rfl)⟩
  | tup x => exact ⟨_, rfl, go _ (by simp) (by cases T <;> cases h <;> rfl)⟩
  | lst o x => exact ⟨_, rfl, go _ (by simp) (by cases T <;> cases h <;> rfl)⟩
  | dk o ks x => exact ⟨_, rfl, go _ (by simp) (by cases T <;> cases h <;> rfl)⟩
  | dt o ks x => exact ⟨_, rfl, go _ (by simp) (by cases T <;> cases h <;> rfl)⟩
theorem rd_ty {K : PySem.W.Frag} {H : Hp} {a : Addr} {xs : List V} (h : SqL K H a xs) : TyX K H (.ref a) (.type "list") := by
  rcases h with (h | ⟨o, h⟩) | ⟨o, its, n, h, c, _⟩
  · exact .base (.lst h)
  · exact .base (.frz h)
  · exact .kList h c
theorem rd_tyT {K : PySem.W.Frag} {H : Hp} {a : Addr} {xs : List V} (h : SqT K H a xs) : TyX K H (.ref a) (.type "tuple") := by
  rcases h with (h | ⟨o, h⟩) | ⟨o, its, n, h, c, _⟩
  · exact .base (.tup h)
  · exact .fTuple h
  · exact .kTuple h c
section
variable {K : RC} {fr : Fr} {ρ : Env} {σ : L2.St} {H : Hp} {d : D} {v : V}
theorem Sim.ty {t : String} (S : Sim K fr (some d :: ρ) (some v :: σ) H) (e : tyN d = some t) : TyX K.K H v (.type t) := by
  obtain ⟨F, B, r, k⟩ := S.top
  cases d with
  | non => cases e; obtain ⟨rfl, _⟩ := r; exact .base .non
  | bl b => cases e; obtain ⟨rfl, _⟩ := r; exact .base (.bl b)
  | int b => cases e; obtain ⟨rfl, _⟩ := r; exact .base (.int b)
  | str b => cases e; obtain ⟨rfl, _⟩ := r; exact .base (.str b)
  | adr b => cases e
  | scr ns => cases e; obtain ⟨_, a, rfl, s⟩ := r; exact rd_ty (SqL.mono k s)
  | tup ds => cases e; obtain ⟨_, a, xs, rfl, s, _⟩ := r; exact rd_tyT (SqT.mono k s)
  | lst o ds => cases e; cases o with
    | false => obtain ⟨_, a, xs, rfl, s, _⟩ := r; exact .base (.lst (k _ _ s))
    | true => obtain ⟨a, xs, B, rfl, _, s, _⟩ := r; exact .base (.lst s)
  | dk o ks ds => cases e; cases o with
    | false => obtain ⟨_, a, xs, rfl, s, _⟩ := r; exact .base (.dK (k _ _ s))
    | true => obtain ⟨a, xs, B, rfl, _, s, _⟩ := r; exact .base (.dK s)
  | dt o ks ds => cases e; cases o with
    | false => obtain ⟨_, a, xs, rfl, s, _⟩ := r; exact .base (.dT (k _ _ s))
    | true => obtain ⟨a, xs, B, rfl, _, s, _⟩ := r; exact .base (.dT s)
  | obj o c ns ds => cases e
end
def eInst (T : Ty) (f : M D) : M D := mbind f fun d => mbind (mlift (instB T d)) fun b => mret (.bl b)
section
variable {ι : Type} {X : ι → Cx} {K : RC} {W : WX} {k : Nat} {e a b : Expr} {es : List Expr} {f fa fb : M D} {g : M (List D)} {pos : Pos}
theorem boot_ty (T : Ty) : bootBuiltins (Str.ofString T.nm) = some (.type T.nm) := by cases T <;> decide +kernel
theorem ed_inst (T : Ty) {y : Str} {p p2 : Pos} (c : CF X K W k) (hg : ∀ i, Gl (X i) "isinstance") (hm : K.mg "isinstance" = none) (hg2 : ∀ i, Gl (X i) y) (hm2 : K.mg y = none) (hv : bootBuiltins y = some (.type T.nm)) (ha : ED X K W a fa)
    (hn : y ≠ "__name__" := by decide) (hdb : (y == ("__debug__" : Str)) = false := by decide) (he : ∀ i, starEach (a :: [.Name y p2]) (X i).env = (false, eval a (X i).env) :: starEach [.Name y p2] (X i).env := by intro _; rfl) (he2 : ∀ i, starEach [.Name y p2] (X i).env = (false, eval (.Name y p2) (X i).env) :: starEach [] (X i).env := by intro _; rfl)
    (hpl : ∀ i, (backTo pos (starEach [.Name y p2] (X i).env)).any (·.1) = false := by intro _; rfl) : ED X K W (.Call (.Name "isinstance" p) [a, .Name y p2] [] pos) (eInst T fa) := by
  obtain ⟨t, pa, s⟩ := ha.ex
  refine ⟨tCB (rIsi K.K) (tCons t (tCons (tC (.ty T.nm)) tNil)), (fun i => ?_), fun fr ρ σ H Q S q => s fr ρ σ H _ S ((QR.bind q).mono fun d ρ1 q1 v H1 S1 => ?_)⟩
  · have h := pe_callB (X := X i) (p := p) (pos := pos) call_isi (hg i) (by rw [c.mg i]; exact hm) (by decide +kernel) (pa_cons (pa i) (pa_cons (pe_bltn (pos := p2) (hg2 i) (by rw [c.mg i]; exact hm2) hv (show RelV (.ty T.nm) (.type T.nm) from rfl) hn hdb) pa_nil (he2 i)) (he i)) (by decide) (by decide) (he i) (hpl i)
    rw [c.kk i] at h
    exact h
  · obtain ⟨b, e1, q2⟩ := QR.lift (QR.bind q1)
    obtain ⟨t', e2, e3⟩ := instB_kit e1
    exact ⟨v, .ty T.nm, .type t', .type T.nm, b, rfl, .ty _, S1.ty e2, kit_ty e3, q2 _ H1 (S1.drop.pushF rfl)⟩
/-! ### len, int, bool, tuple, list, abs, max, min, all, any, sum -/
def lenD : List D → Option D
  | [.str x] => if x.length ≤ sizeLine then some (.int x.length) else none
  | [.dk _ ks _] => some (.int ks.length)
  | [d] => (items d).map fun ds => .int ds.length
  | _ => none
def rLenA (K : PySem.W.Frag) : List V → Hp → VK → Prop := fun xs H Q => (∃ p ys, xs = [.ref p] ∧ (SqL K H p ys ∨ SqT K H p ys) ∧ Q (.int ys.length) H) ∨ ((∃ z, xs = [.str z] ∧ z.length ≤ sizeLine ∧ Q (.int z.length) H) ∨ (∃ (p : Addr) (kvs : List (Key × V)), xs = [.ref p] ∧ H p = some (.dK kvs) ∧ Q (.int ((kvs.length : Nat) : Int)) H))
theorem CallR.or {X : Cx} {f : Value} {r r' : List V → Hp → VK → Prop} (h : CallR X f r) (h' : CallR X f r') : CallR X f (fun xs H Q => r xs H Q ∨ r' xs H Q) := by
  intro pins s σ H xs us Q I rx q
  rcases q with q | q
  · exact h pins s σ H xs us Q I rx q
  · exact h' pins s σ H xs us Q I rx q
theorem len_strR {X : Cx} : CallR X (.builtin "len") (fun xs H Q => ∃ z, xs = [.str z] ∧ z.length ≤ sizeLine ∧ Q (.int z.length) H) := by
  intro pins s σ H xs us Q I rx q
  obtain ⟨z, rfl, hz, q⟩ := q
  exact call_len pins s σ H _ us Q I rx ⟨.str z, z.length, rfl, ⟨hz, rfl⟩, q⟩
theorem call_lenA {X : Cx} : CallR X (.builtin "len") (rLenA X.K) := CallR.or call_len_seq (CallR.or len_strR (by
  intro pins s σ H xs us Q I rx q
  obtain ⟨p, kvs, rfl, h, q⟩ := q
  exact call_lenD pins s σ H _ us Q I rx ⟨p, kvs, rfl, h, q⟩))
theorem one_of {ds : List D} {vs : List V} {d : D} (hl : vs.length = ds.length) (e : ds = [d]) : ∃ v, vs = [v] := by
  subst e
  match vs, hl with
  | [v], _ => exact ⟨v, rfl⟩
theorem cas_len : CaS K (rLenA K.K) lenD := by
  intro fr ρ σ H ds vs d Q hl S e q
  have one : ∃ d0, ds = [d0] := by
    unfold lenD at e
    split at e
    · exact ⟨_, rfl⟩
    · exact ⟨_, rfl⟩
    · exact ⟨_, rfl⟩
    · cases e
  obtain ⟨d0, rfl⟩ := one
  · obtain ⟨v, rfl⟩ := one_of hl rfl
    have S : Sim K fr (some d0 :: ρ) (some v :: σ) H := S
    have seq : ∀ xs, items d0 = some xs → d = .int xs.length → rLenA K.K [v] H Q := fun xs hi hd => by
      obtain ⟨p, us, rfl, h2, h3, _, S1⟩ := S.explode hi
      subst hd
      refine .inl ⟨p, us, rfl, ?_, ?_⟩
      · by_cases hk : isL d0 = true
        · rw [if_pos hk] at h3; exact .inl h3
        · rw [if_neg hk] at h3; exact .inr h3
      · rw [h2]; exact q _ H (S.drop.pushF rfl)
    cases d0 with
    | str x =>
      unfold lenD at e
      by_cases hz : x.length ≤ sizeLine
      · simp only [hz, if_true] at e
        cases e
        exact .inr (.inl ⟨x, by rw [S.topF rfl], hz, q _ H (S.drop.pushF rfl)⟩)
      · simp only [hz, if_false] at e
        cases e
    | dk o ks xs =>
      cases e
      obtain ⟨F, B, r, kk⟩ := S.top
      cases o with
      | false =>
        obtain ⟨_, a, kvs, rfl, s, rfl, _⟩ := r
        refine .inr (.inr ⟨a, kvs, rfl, kk _ _ s, ?_⟩)
        have z := q _ H (S.drop.pushF rfl)
        rw [List.length_map] at z
        exact z
      | true =>
        obtain ⟨a, kvs, B, rfl, _, s, rfl, _⟩ := r
        refine .inr (.inr ⟨a, kvs, rfl, s, ?_⟩)
        have z := q _ H (S.drop.pushF rfl)
        rw [List.length_map] at z
        exact z
    | tup xs => exact seq xs rfl (by cases e; rfl)
    | lst o xs => exact seq xs rfl (by cases e; rfl)
    | scr ns => exact seq _ rfl (by cases e; rfl)
    | _ => cases e
theorem ed_len {p : Pos} (c : CF X K W k) (hg : ∀ i, Gl (X i) "len") (hm : K.mg "len" = none) (ha : AM X K W [a] g []) (he : ∀ i, starEach [a] (X i).env = (false, eval a (X i).env) :: starEach [] (X i).env := by intro _; rfl) (hpl : ∀ i, (backTo pos (starEach [] (X i).env)).any (·.1) = false := by intro _; rfl) :
    ED X K W (.Call (.Name "len" p) [a] [] pos) (eBi lenD g) := ed_bi (r := rLenA K.K) c (fun i => by rw [← c.kk i]; exact call_lenA) cas_len hg hm (by decide +kernel) ha (by decide) (by decide) he hpl
def intD : List D → Option D
  | [.int i] => some (.int i)
  | [.bl b] => some (.int (if b then 1 else 0))
  | _ => none
theorem cas_int : CaS K (fun xs H Q => (∃ i, xs = [.int i] ∧ Q (.int i) H) ∨ ∃ k, xs = [.bl k] ∧ Q (.int (if k then 1 else 0)) H) intD := by
  intro fr ρ σ H ds vs d Q hl S e q
  unfold intD at e
  split at e
  · rename_i i
    obtain ⟨v, rfl⟩ := one_of hl rfl
    have S : Sim K fr (some (.int i) :: ρ) (some v :: σ) H := S
    cases e
    exact .inl ⟨i, by rw [S.topF rfl], q _ H (S.drop.pushF rfl)⟩
  · rename_i b
    obtain ⟨v, rfl⟩ := one_of hl rfl
    have S : Sim K fr (some (.bl b) :: ρ) (some v :: σ) H := S
    cases e
    exact .inr ⟨b, by rw [S.topF rfl], q _ H (S.drop.pushF rfl)⟩
  · cases e
theorem ed_toint {p : Pos} (c : CF X K W k) (hg : ∀ i, Gl (X i) "int") (hm : K.mg "int" = none) (ha : AM X K W [a] g []) (he : ∀ i, starEach [a] (X i).env = (false, eval a (X i).env) :: starEach [] (X i).env := by intro _; rfl) (hpl : ∀ i, (backTo pos (starEach [] (X i).env)).any (·.1) = false := by intro _; rfl) :
    ED X K W (.Call (.Name "int" p) [a] [] pos) (eBi intD g) := ed_ty c (fun i => call_int1) cas_int hg hm (by decide +kernel) ha (by decide) (by decide) he hpl
/-! tuple(x), list(x) -/
def tupleD : List D → Option D
  | [.tup ds] => some (.tup ds)
  | [d] => (items d).map fun ds => .tup (frzL ds)
  | _ => none
theorem cas_tuple : CaS K (fun xs H Q => ∃ p ys, xs = [.ref p] ∧ ((SqL K.K H p ys ∧ ∀ l, H l = none → Q (.ref l) (upd H l (.tup ys))) ∨ (SqT K.K H p ys ∧ Q (.ref p) H))) tupleD := by
  intro fr ρ σ H ds vs d Q hl S e q
  have one : ∃ d0, ds = [d0] := by
    unfold tupleD at e
    split at e
    · exact ⟨_, rfl⟩
    · exact ⟨_, rfl⟩
    · cases e
  obtain ⟨d0, rfl⟩ := one
  · obtain ⟨v, rfl⟩ := one_of hl rfl
    have S : Sim K fr (some d0 :: ρ) (some v :: σ) H := S
    cases d0 with
    | tup xs =>
      cases e
      obtain ⟨p, us, rfl, h2, h3, _, S1⟩ := S.explode (ds := xs) rfl
      exact ⟨p, us, rfl, .inr ⟨h3, q _ H S⟩⟩
    | lst o xs =>
      cases e
      obtain ⟨p, us, rfl, h2, h3, _, S1⟩ := S.explode (ds := xs) rfl
      exact ⟨p, us, rfl, .inl ⟨h3, fun l hl => q _ _ (S1.newT h2 hl)⟩⟩
    | scr ns =>
      cases e
      obtain ⟨p, us, rfl, h2, h3, _, S1⟩ := S.explode (ds := ns.map D.int) rfl
      exact ⟨p, us, rfl, .inl ⟨h3, fun l hl => q _ _ (S1.newT h2 hl)⟩⟩
    | _ => cases e
theorem ed_tuple {p : Pos} (c : CF X K W k) (hg : ∀ i, Gl (X i) "tuple") (hm : K.mg "tuple" = none) (ha : AM X K W [a] g []) (he : ∀ i, starEach [a] (X i).env = (false, eval a (X i).env) :: starEach [] (X i).env := by intro _; rfl) (hpl : ∀ i, (backTo pos (starEach [] (X i).env)).any (·.1) = false := by intro _; rfl) :
    ED X K W (.Call (.Name "tuple" p) [a] [] pos) (eBi tupleD g) := ed_ty (r := fun xs H Q => ∃ p ys, xs = [.ref p] ∧ ((SqL K.K H p ys ∧ ∀ l, H l = none → Q (.ref l) (upd H l (.tup ys))) ∨ (SqT K.K H p ys ∧ Q (.ref p) H))) c (fun i => by rw [← c.kk i]; exact call_tuple_of) cas_tuple hg hm (by decide +kernel) ha (by decide) (by decide) he hpl
def listD : List D → Option D
  | [d] => (items d).map fun ds => .lst true ds
  | _ => none
theorem cas_list : CaS K (fun xs H Q => ∃ p ys, xs = [.ref p] ∧ (SqL K.K H p ys ∨ SqT K.K H p ys) ∧ ∀ l, H l = none → Q (.ref l) (upd H l (.lst ys))) listD := by
  intro fr ρ σ H ds vs d Q hl S e q
  have one : ∃ d0, ds = [d0] := by
    unfold listD at e
    split at e
    · exact ⟨_, rfl⟩
    · cases e
  obtain ⟨d0, rfl⟩ := one
  · obtain ⟨v, rfl⟩ := one_of hl rfl
    have S : Sim K fr (some d0 :: ρ) (some v :: σ) H := S
    have e : (items d0).map (fun ds => D.lst true ds) = some d := e
    cases hi : items d0 with
    | none => rw [hi] at e; cases e
    | some xs =>
      rw [hi] at e
      cases e
      obtain ⟨p, us, rfl, h2, h3, _, S1⟩ := S.explode hi
      refine ⟨p, us, rfl, ?_, fun l hl => q _ _ (S1.newL h2 hl)⟩
      by_cases hk : isL d0 = true
      · rw [if_pos hk] at h3; exact .inl h3
      · rw [if_neg hk] at h3; exact .inr h3
theorem ed_list {p : Pos} (c : CF X K W k) (hg : ∀ i, Gl (X i) "list") (hm : K.mg "list" = none) (ha : AM X K W [a] g []) (he : ∀ i, starEach [a] (X i).env = (false, eval a (X i).env) :: starEach [] (X i).env := by intro _; rfl) (hpl : ∀ i, (backTo pos (starEach [] (X i).env)).any (·.1) = false := by intro _; rfl) :
    ED X K W (.Call (.Name "list" p) [a] [] pos) (eBi listD g) := ed_ty (r := fun xs H Q => ∃ p ys, xs = [.ref p] ∧ (SqL K.K H p ys ∨ SqT K.K H p ys) ∧ ∀ l, H l = none → Q (.ref l) (upd H l (.lst ys))) c (fun i => by rw [← c.kk i]; exact call_list_of) cas_list hg hm (by decide +kernel) ha (by decide) (by decide) he hpl
/-! two intsL -/
def max2D : List D → Option D
  | [.int i, .int j] => some (.int (if j > i then j else i))
  | _ => none
def min2D : List D → Option D
  | [.int i, .int j] => some (.int (if j < i then j else i))
  | _ => none
def absD : List D → Option D
  | [.int i] => some (.int (if i < 0 then -i else i))
  | _ => none
theorem two_ints {fr : Fr} {ρ : Env} {σ : L2.St} {H : Hp} {i j : Int} {vs : List V} (hl : vs.length = [D.int i, D.int j].length) (S : Sim K fr ([D.int i, D.int j].map some ++ ρ) (vs.map some ++ σ) H) : vs = [.int i, .int j] ∧ Sim K fr ρ σ H := by
  match vs, hl with
  | [u, v], _ =>
    have S : Sim K fr (some (.int i) :: some (.int j) :: ρ) (some u :: some v :: σ) H := S
    rw [S.topF rfl, S.drop.topF rfl]
    exact ⟨rfl, S.drop.drop⟩
theorem cas_max2 : CaS K (fun xs H Q => ∃ i j, xs = [.int i, .int j] ∧ Q (.int (if j > i then j else i)) H) max2D := by
  intro fr ρ σ H ds vs d Q hl S e q
  unfold max2D at e
  split at e
  rotate_left
  · cases e
  · rename_i i j
    cases e
    obtain ⟨rfl, S'⟩ := two_ints hl S
    exact ⟨i, j, rfl, q _ H (S'.pushF rfl)⟩
theorem cas_min2 : CaS K (fun xs H Q => ∃ i j, xs = [.int i, .int j] ∧ Q (.int (if j < i then j else i)) H) min2D := by
  intro fr ρ σ H ds vs d Q hl S e q
  unfold min2D at e
  split at e
  rotate_left
  · cases e
  · rename_i i j
    cases e
    obtain ⟨rfl, S'⟩ := two_ints hl S
    exact ⟨i, j, rfl, q _ H (S'.pushF rfl)⟩
theorem cas_abs : CaS K (fun xs H Q => ∃ i, xs = [.int i] ∧ Q (.int (if i < 0 then -i else i)) H) absD := by
  intro fr ρ σ H ds vs d Q hl S e q
  unfold absD at e
  split at e
  rotate_left
  · cases e
  · rename_i i
    obtain ⟨v, rfl⟩ := one_of hl rfl
    have S : Sim K fr (some (.int i) :: ρ) (some v :: σ) H := S
    cases e
    exact ⟨i, by rw [S.topF rfl], q _ H (S.drop.pushF rfl)⟩
theorem ed_max2 {p : Pos} (c : CF X K W k) (hg : ∀ i, Gl (X i) "max") (hm : K.mg "max" = none) (ha : AM X K W [a, b] g []) (he : ∀ i, starEach [a, b] (X i).env = (false, eval a (X i).env) :: starEach [b] (X i).env := by intro _; rfl) (hpl : ∀ i, (backTo pos (starEach [b] (X i).env)).any (·.1) = false := by intro _; rfl) :
    ED X K W (.Call (.Name "max" p) [a, b] [] pos) (eBi max2D g) := ed_bi c (fun i => call_max2 (c.calm i)) cas_max2 hg hm (by decide +kernel) ha (by decide) (by decide) he hpl
theorem ed_min2 {p : Pos} (c : CF X K W k) (hg : ∀ i, Gl (X i) "min") (hm : K.mg "min" = none) (ha : AM X K W [a, b] g []) (he : ∀ i, starEach [a, b] (X i).env = (false, eval a (X i).env) :: starEach [b] (X i).env := by intro _; rfl) (hpl : ∀ i, (backTo pos (starEach [b] (X i).env)).any (·.1) = false := by intro _; rfl) :
    ED X K W (.Call (.Name "min" p) [a, b] [] pos) (eBi min2D g) := ed_bi c (fun i => call_min2 (c.calm i)) cas_min2 hg hm (by decide +kernel) ha (by decide) (by decide) he hpl
theorem ed_abs {p : Pos} (c : CF X K W k) (hg : ∀ i, Gl (X i) "abs") (hm : K.mg "abs" = none) (ha : AM X K W [a] g []) (he : ∀ i, starEach [a] (X i).env = (false, eval a (X i).env) :: starEach [] (X i).env := by intro _; rfl) (hpl : ∀ i, (backTo pos (starEach [] (X i).env)).any (·.1) = false := by intro _; rfl) :
    ED X K W (.Call (.Name "abs" p) [a] [] pos) (eBi absD g) := ed_bi c (fun i => call_abs) cas_abs hg hm (by decide +kernel) ha (by decide) (by decide) he hpl
/-! lists of boolsL, of intsL -/
def boolsL : List D → Option (List Bool)
  | [] => some []
  | .bl b :: ds => (boolsL ds).map fun bs => b :: bs
  | _ => none
def intsL : List D → Option (List Int)
  | [] => some []
  | .int i :: ds => (intsL ds).map fun is => i :: is
  | _ => none
theorem bools_rep {F H : Hp} : ∀ {ds : List D} {bs : List Bool} {vs : List V} {A : List Addr}, boolsL ds = some bs → RepL K F H ds vs A → vs = bs.map V.bl
  | [], bs, vs, A, e, r => by cases e; exact r.1
  | d :: ds, bs, vs, A, e, r => by
    obtain ⟨v, ws, B, C, rfl, rfl, r1, r2⟩ := r
    cases d with
    | bl b =>
      unfold boolsL at e
      cases e1 : boolsL ds with
      | none => rw [e1] at e; cases e
      | some bs' =>
        rw [e1] at e
        cases e
        rw [r1.1, bools_rep e1 r2]
        rfl
    | _ => cases e
theorem ints_rep {F H : Hp} : ∀ {ds : List D} {bs : List Int} {vs : List V} {A : List Addr}, intsL ds = some bs → RepL K F H ds vs A → vs = bs.map V.int
  | [], bs, vs, A, e, r => by cases e; exact r.1
  | d :: ds, bs, vs, A, e, r => by
    obtain ⟨v, ws, B, C, rfl, rfl, r1, r2⟩ := r
    cases d with
    | int b =>
      unfold intsL at e
      cases e1 : intsL ds with
      | none => rw [e1] at e; cases e
      | some bs' =>
        rw [e1] at e
        cases e
        rw [r1.1, ints_rep e1 r2]
        rfl
    | _ => cases e
/-- a list's reps -/
theorem Sim.lstRep {fr : Fr} {ρ : Env} {σ : L2.St} {H : Hp} {o : Bool} {ds : List D} {v : V} (S : Sim K fr (some (.lst o ds) :: ρ) (some v :: σ) H) : ∃ a xs F B, v = .ref a ∧ H a = some (.lst xs) ∧ RepL K F H ds xs B := by
  obtain ⟨F, B, r, kk⟩ := S.top
  cases o with
  | false => obtain ⟨_, a, xs, rfl, s, r⟩ := r; exact ⟨a, xs, F, [], rfl, kk _ _ s, r⟩
  | true => obtain ⟨a, xs, B, rfl, _, s, r⟩ := r; exact ⟨a, xs, F, B, rfl, s, r⟩
def allD : List D → Option D
  | [.lst _ ds] => (boolsL ds).map fun bs => .bl (bs.all id)
  | _ => none
def anyD : List D → Option D
  | [.lst _ ds] => (boolsL ds).map fun bs => .bl (bs.any id)
  | _ => none
def sumD : List D → Option D
  | [.lst _ ds] => (intsL ds).map fun is => .int is.sum
  | _ => none
theorem cas_all : CaS K (rAll K.K) allD := by
  intro fr ρ σ H ds vs d Q hl S e q
  unfold allD at e
  split at e
  rotate_left
  · cases e
  · rename_i o xs
    obtain ⟨v, rfl⟩ := one_of hl rfl
    have S : Sim K fr (some (.lst o xs) :: ρ) (some v :: σ) H := S
    cases hb : boolsL xs with
    | none => rw [hb] at e; cases e
    | some bs =>
      rw [hb] at e
      cases e
      obtain ⟨a, us, F, B, rfl, s, r⟩ := S.lstRep
      rw [bools_rep hb r] at s
      exact ⟨a, bs, rfl, SqL.of s, q _ H (S.drop.pushF rfl)⟩
theorem cas_any : CaS K (rAny K.K) anyD := by
  intro fr ρ σ H ds vs d Q hl S e q
  unfold anyD at e
  split at e
  rotate_left
  · cases e
  · rename_i o xs
    obtain ⟨v, rfl⟩ := one_of hl rfl
    have S : Sim K fr (some (.lst o xs) :: ρ) (some v :: σ) H := S
    cases hb : boolsL xs with
    | none => rw [hb] at e; cases e
    | some bs =>
      rw [hb] at e
      cases e
      obtain ⟨a, us, F, B, rfl, s, r⟩ := S.lstRep
      rw [bools_rep hb r] at s
      exact ⟨a, bs, rfl, SqL.of s, q _ H (S.drop.pushF rfl)⟩
theorem cas_sum : CaS K (rSum K.K) sumD := by
  intro fr ρ σ H ds vs d Q hl S e q
  unfold sumD at e
  split at e
  rotate_left
  · cases e
  · rename_i o xs
    obtain ⟨v, rfl⟩ := one_of hl rfl
    have S : Sim K fr (some (.lst o xs) :: ρ) (some v :: σ) H := S
    cases hb : intsL xs with
    | none => rw [hb] at e; cases e
    | some bs =>
      rw [hb] at e
      cases e
      obtain ⟨a, us, F, B, rfl, s, r⟩ := S.lstRep
      rw [ints_rep hb r] at s
      exact ⟨a, bs, rfl, SqL.of s, q _ H (S.drop.pushF rfl)⟩
theorem ed_all {p : Pos} (c : CF X K W k) (hg : ∀ i, Gl (X i) "all") (hm : K.mg "all" = none) (ha : AM X K W [a] g []) (he : ∀ i, starEach [a] (X i).env = (false, eval a (X i).env) :: starEach [] (X i).env := by intro _; rfl) (hpl : ∀ i, (backTo pos (starEach [] (X i).env)).any (·.1) = false := by intro _; rfl) :
    ED X K W (.Call (.Name "all" p) [a] [] pos) (eBi allD g) := ed_bi (r := rAll K.K) c (fun i => by rw [← c.kk i]; exact cr_all (c.calm i)) cas_all hg hm (by decide +kernel) ha (by decide) (by decide) he hpl
theorem ed_any {p : Pos} (c : CF X K W k) (hg : ∀ i, Gl (X i) "any") (hm : K.mg "any" = none) (ha : AM X K W [a] g []) (he : ∀ i, starEach [a] (X i).env = (false, eval a (X i).env) :: starEach [] (X i).env := by intro _; rfl) (hpl : ∀ i, (backTo pos (starEach [] (X i).env)).any (·.1) = false := by intro _; rfl) :
    ED X K W (.Call (.Name "any" p) [a] [] pos) (eBi anyD g) := ed_bi (r := rAny K.K) c (fun i => by rw [← c.kk i]; exact cr_any (c.calm i)) cas_any hg hm (by decide +kernel) ha (by decide) (by decide) he hpl
theorem ed_sum {p : Pos} (c : CF X K W k) (hg : ∀ i, Gl (X i) "sum") (hm : K.mg "sum" = none) (ha : AM X K W [a] g []) (he : ∀ i, starEach [a] (X i).env = (false, eval a (X i).env) :: starEach [] (X i).env := by intro _; rfl) (hpl : ∀ i, (backTo pos (starEach [] (X i).env)).any (·.1) = false := by intro _; rfl) :
    ED X K W (.Call (.Name "sum" p) [a] [] pos) (eBi sumD g) := ed_bi (r := rSum K.K) c (fun i => by rw [← c.kk i]; exact cr_sum (c.calm i)) cas_sum hg hm (by decide +kernel) ha (by decide) (by decide) he hpl
/-! tuple(range(..)), list(range(..)) -/
def rgD (a b : Int) : List D := (List.range (b - a).toNat).map fun i => .int (a + (i : Nat))
def rgOk (a b : Int) : Bool := decide (-(2 ^ 62) ≤ a ∧ a < 2 ^ 62 ∧ -(2 ^ 62) ≤ b ∧ b < 2 ^ 62 ∧ (b - a).toNat ≤ 2 ^ 24)
/-- a range's ends -/
structure RD {ι : Type} (X : ι → Cx) (K : RC) (W : WX) (e : Expr) (f : M (Int × Int)) : Prop where
  ex : ∃ t, (∀ i, PRg (X i) e t) ∧ ∀ fr ρ σ H (Q : Int → Int → Hp → Prop), Sim K fr ρ σ H → QR K W fr σ (f ρ) (fun p ρ' => ∀ H', Sim K fr ρ' σ H' → Q p.1 p.2 H') → t σ H Q
def rg1 (f : M D) : M (Int × Int) := mbind f fun d => mbind (mlift (isI d)) fun n => mret (0, n)
def rg2 (f g : M D) : M (Int × Int) := mbind f fun d => mbind g fun d' => mbind (mlift (isI d)) fun m => mbind (mlift (isI d')) fun n => mret (m, n)
theorem isI_eq {d : D} {i : Int} (h : isI d = some i) : d = .int i := by
  cases d <;> simp [isI] at h
  rw [h]
theorem rd_1 {p : Pos} (c : CF X K W k) (hg : ∀ i, Gl (X i) "range") (hm : K.mg "range" = none) (ha : ED X K W a fa) (na : ∀ i, starEach [a] (X i).env = (false, eval a (X i).env) :: starEach [] (X i).env := by intro _; rfl) : RD X K W (.Call (.Name "range" p) [a] [] pos) (rg1 fa) := by
  obtain ⟨t, pa, s⟩ := ha.ex
  refine ⟨tRg1 t, (fun i => prg_1 (hg i) (by rw [c.mg i]; exact hm) (pa i) (na i)), fun fr ρ σ H Q S q => s fr ρ σ H _ S ((QR.bind q).mono fun d ρ1 q1 v H1 S1 => ?_)⟩
  obtain ⟨n, e, q2⟩ := QR.lift (QR.bind q1)
  have := isI_eq e
  subst this
  exact ⟨n, S1.topF rfl, q2 H1 S1.drop⟩
theorem rd_2 {p : Pos} (c : CF X K W k) (hg : ∀ i, Gl (X i) "range") (hm : K.mg "range" = none) (ha : ED X K W a fa) (hb : ED X K W b fb) (na : ∀ i, starEach [a, b] (X i).env = (false, eval a (X i).env) :: starEach [b] (X i).env := by intro _; rfl)
    (nb : ∀ i, starEach [b] (X i).env = (false, eval b (X i).env) :: starEach [] (X i).env := by intro _; rfl) (hp : ∀ i, (backTo pos (starEach [b] (X i).env)).any (·.1) = false := by intro _; rfl) : RD X K W (.Call (.Name "range" p) [a, b] [] pos) (rg2 fa fb) := by
  obtain ⟨t, pa, s⟩ := ha.ex
  obtain ⟨u, pb, s2⟩ := hb.ex
  refine ⟨tRg2 t u, (fun i => prg_2 (hg i) (by rw [c.mg i]; exact hm) (pa i) (pb i) (na i) (nb i) (hp i)), fun fr ρ σ H Q S q => s fr ρ σ H _ S ((QR.bind q).mono fun d ρ1 q1 v H1 S1 => ?_)⟩
  refine two S1 s2 (QR.bind q1) fun dy ρ2 vy H2 q2 S2 => ?_
  obtain ⟨m, e, q3⟩ := QR.lift (QR.bind q2)
  obtain ⟨n, e2, q4⟩ := QR.lift (QR.bind q3)
  have := isI_eq e
  subst this
  have := isI_eq e2
  subst this
  exact ⟨m, n, S2.drop.topF rfl, S2.topF rfl, q4 H2 S2.drop.drop⟩
theorem rgD_rep {F H : Hp} (a b : Int) : RepL K F H (rgD a b) (rgV a b) [] := by
  have go : ∀ l : List Nat, RepL K F H (l.map fun i => D.int (a + (i : Nat))) (l.map fun i => V.int (a + (i : Nat))) [] := fun l => by
    induction l with
    | nil => exact ⟨rfl, rfl⟩
    | cons n l ih => exact ⟨_, _, [], [], rfl, rfl, ⟨rfl, rfl⟩, ih⟩
  exact go _
theorem rgD_len (a b : Int) : (rgD a b).length = (b - a).toNat := by unfold rgD; rw [List.length_map, List.length_range]
theorem Sim.rgs {fr : Fr} {ρ : Env} {σ : L2.St} {H : Hp} (S : Sim K fr ρ σ H) (a b : Int) : Sim K fr ((rgD a b).map some ++ ρ) ((rgV a b).map some ++ σ) H := by
  obtain ⟨A, S⟩ := S
  exact ⟨A, Sl.app (rgD_rep a b).sl S.sl, S.nd, S.off, S.keep, S.tr⟩
def eTupRg (f : M (Int × Int)) : M D := mbind f fun p => if rgOk p.1 p.2 = true then mret (.tup (rgD p.1 p.2)) else mlift none
def eLstRg (f : M (Int × Int)) : M D := mbind f fun p => if rgOk p.1 p.2 = true then mret (.lst true (rgD p.1 p.2)) else mlift none
theorem frz_rg (K : RC) (a b : Int) : frzL (rgD a b) = rgD a b := RepL.frz_id (K := K) (F := fun _ => none) (H := fun _ => none) _ _ (rgD_rep a b)
theorem ed_tupRg {p : Pos} {f : M (Int × Int)} (c : CF X K W k) (hg : ∀ i, Gl (X i) "tuple") (hm : K.mg "tuple" = none) (h : RD X K W e f) (na : ∀ i, starEach [e] (X i).env = (false, eval e (X i).env) :: starEach [] (X i).env := by intro _; rfl) : ED X K W (.Call (.Name "tuple" p) [e] [] pos) (eTupRg f) := by
  obtain ⟨t, pa, s⟩ := h.ex
  refine ⟨tTupRg t, (fun i => pe_tupRg (c.calm i) (hg i) (by rw [c.mg i]; exact hm) (pa i) (na i)), fun fr ρ σ H Q S q => s fr ρ σ H _ S ((QR.bind q).mono fun pr ρ1 q1 H1 S1 => ?_)⟩
  by_cases ho : rgOk pr.1 pr.2 = true
  · rw [if_pos ho] at q1
    refine ⟨of_decide_eq_true (p := -(2 ^ 62) ≤ pr.1 ∧ pr.1 < 2 ^ 62 ∧ -(2 ^ 62) ≤ pr.2 ∧ pr.2 < 2 ^ 62 ∧ (pr.2 - pr.1).toNat ≤ 2 ^ 24) ho, fun l hl => q1 _ _ ?_⟩
    have z := (S1.rgs pr.1 pr.2).newT (by rw [rgV_length, rgD_len]) hl
    rw [frz_rg K] at z
    exact z
  · rw [if_neg ho] at q1
    exact q1.elim
theorem ed_lstRg {p : Pos} {f : M (Int × Int)} (c : CF X K W k) (hg : ∀ i, Gl (X i) "list") (hm : K.mg "list" = none) (h : RD X K W e f) (na : ∀ i, starEach [e] (X i).env = (false, eval e (X i).env) :: starEach [] (X i).env := by intro _; rfl) : ED X K W (.Call (.Name "list" p) [e] [] pos) (eLstRg f) := by
  obtain ⟨t, pa, s⟩ := h.ex
  refine ⟨tLstRg t, (fun i => pe_listRg (c.calm i) (hg i) (by rw [c.mg i]; exact hm) (pa i) (na i)), fun fr ρ σ H Q S q => s fr ρ σ H _ S ((QR.bind q).mono fun pr ρ1 q1 H1 S1 => ?_)⟩
  by_cases ho : rgOk pr.1 pr.2 = true
  · rw [if_pos ho] at q1
    exact ⟨of_decide_eq_true (p := -(2 ^ 62) ≤ pr.1 ∧ pr.1 < 2 ^ 62 ∧ -(2 ^ 62) ≤ pr.2 ∧ pr.2 < 2 ^ 62 ∧ (pr.2 - pr.1).toNat ≤ 2 ^ 24) ho, fun l hl => q1 _ _ ((S1.rgs pr.1 pr.2).newL (by rw [rgV_length, rgD_len]) hl)⟩
  · rw [if_neg ho] at q1
    exact q1.elim
end
end DL

set_option Elab.async false
set_option linter.all false
set_option maxRecDepth 100000
set_option maxHeartbeats 4000000
namespace DL
open PySem PySem.Spec L2
/-! ### what is walked -/
theorem RepL.get {K : RC} {F H : Hp} : ∀ {ds : List D} {xs : List V} {i : Nat} {d : D}, RepL K F H ds xs [] → ds[i]? = some d → ∃ x, xs[i]? = some x ∧ Rep K F H d x []
  | [], _, _, _, _, e => by simp at e
  | d :: ds, xs, i, d', r, e => by
    obtain ⟨v, ws, B, C, rfl, eA, r1, r2⟩ := r
    have e1 := (List.append_eq_nil_iff.mp eA.symm).1
    have e2 := (List.append_eq_nil_iff.mp eA.symm).2
    subst e1 e2
    cases i with
    | zero =>
      have : d = d' := by simpa using e
      subst this
      exact ⟨v, rfl, r1⟩
    | succ i =>
      obtain ⟨x, h1, h2⟩ := RepL.get (i := i) r2 (by simpa using e)
      exact ⟨x, by simpa using h1, h2⟩
section
variable {K : RC} {fr : Fr} {ds : List D} {xs : List V} {H0 : Hp} {a : Addr}
theorem Inv2.inj : True := trivial
theorem yields_list (hs : SqL K.K (VF fr) a xs) (r : RepL K (VF fr) H0 ds xs []) : Yields K (Itl K.K a) fr ds where
  go := fun i H ρ σ S hi => by
    obtain ⟨x, hx, _⟩ := r.get (List.getElem?_eq_getElem hi)
    exact ⟨xs, x, SqL.mono S.vfH hs, hx⟩
  stop := fun i H ρ σ S hi => ⟨xs, SqL.mono S.vfH hs, by rw [r.len]; exact hi⟩
  yld := fun i H x H' ρ σ d S e hy => by
    obtain ⟨rfl, h⟩ := hy
    obtain ⟨x', hx, q⟩ := r.get e
    have := h xs (SqL.mono S.vfH hs)
    rw [hx] at this
    cases this
    exact S.pushG q
theorem yields_tup (hs : SqT K.K (VF fr) a xs) (r : RepL K (VF fr) H0 ds xs []) : Yields K (Itt K.K a) fr ds where
  go := fun i H ρ σ S hi => by
    obtain ⟨x, hx, _⟩ := r.get (List.getElem?_eq_getElem hi)
    exact ⟨xs, x, SqT.mono S.vfH hs, hx⟩
  stop := fun i H ρ σ S hi => ⟨xs, SqT.mono S.vfH hs, by rw [r.len]; exact hi⟩
  yld := fun i H x H' ρ σ d S e hy => by
    obtain ⟨rfl, h⟩ := hy
    obtain ⟨x', hx, q⟩ := r.get e
    have := h xs (SqT.mono S.vfH hs)
    rw [hx] at this
    cases this
    exact S.pushG q
theorem rgD_get {a b : Int} {i : Nat} {d : D} (h : (rgD a b)[i]? = some d) : d = .int (a + (i : Nat)) := by
  unfold rgD at h
  rw [List.getElem?_map] at h
  cases e : (List.range (b - a).toNat)[i]? with
  | none => rw [e] at h; cases h
  | some n =>
    rw [e] at h
    obtain ⟨_, e⟩ := List.getElem?_eq_some_iff.mp e
    rw [List.getElem_range] at e
    subst e
    cases h
    rfl
theorem yields_rg (lo hi : Int) : Yields K (Itr lo (hi - lo).toNat) fr (rgD lo hi) where
  go := fun i H ρ σ S h => by rw [rgD_len] at h; exact h
  stop := fun i H ρ σ S h => by rw [rgD_len] at h; exact h
  yld := fun i H x H' ρ σ d S e hy => by
    obtain ⟨rfl, rfl⟩ := hy
    rw [rgD_get e]
    exact S.pushF rfl
end
/-- a frozen list or tuple, walked -/
def seqOf (d : D) : Option (List D) := items (frz d)
section
open PyProof.Rows in
theorem pi_seqA {X : Cx} {tg l : Expr} {tl : TE} (hl : PE X l tl) : PI X tg l (fun σ H R => tl σ H fun x H1 => (∃ a, x = .ref a ∧ (∃ xs, SqL X.K H1 a xs) ∧ R (Itl X.K a) H1) ∨ (∃ a, x = .ref a ∧ (∃ xs, SqT X.K H1 a xs) ∧ R (Itt X.K a) H1)) := by
  refine ⟨fun pins s σ H R I h => ?_⟩
  refine thn (hl.run pins s σ H _ I h) fun v s1 ⟨x, H1, I1, r1, q1⟩ => ?_
  rcases q1 with ⟨a, e, ⟨xs, hq⟩, q⟩ | ⟨a, e, ⟨xs, hq⟩, q⟩
  · subst e
    cases r1
    obtain ⟨its, rv, p, hz⟩ := I1.list hq
    refine wpAny_pyIter_list p.isList ?_
    refine ⟨s1.heap.objs.size, [s1.heap.objs.size], _, _, H1, rfl, I1.kept (t' := s1.toks) fun b o e => Heap.get?_push_of_some _ e, turn_list a _, ⟨_, Heap.get?_push_size _ rfl, rfl, rfl⟩, fun b hb => ?_, q⟩
    have e : b = s1.heap.objs.size := by simpa using hb
    subst e
    exact I1.fpOk (Nat.le_refl _) (I1.hok.fresh (Nat.le_refl _))
  · subst e
    cases r1
    obtain ⟨its, rv, p, hz⟩ := I1.tuple hq
    refine wpAny_pyIter_tuple (show s1.heap.IsTuple a its.toArray from p) ?_
    refine ⟨s1.heap.objs.size, [s1.heap.objs.size], _, _, H1, rfl, I1.kept (t' := s1.toks) fun b o e => Heap.get?_push_of_some _ e, turn_tuple a _, ⟨_, Heap.get?_push_size _ rfl, rfl, rfl⟩, fun b hb => ?_, q⟩
    have e : b = s1.heap.objs.size := by simpa using hb
    subst e
    exact I1.fpOk (Nat.le_refl _) (I1.hok.fresh (Nat.le_refl _))
end
theorem frz_frz_items {d : D} {ds : List D} (h : items (frz d) = some ds) : ∃ d', frz d = d' ∧ items d' = some ds := ⟨_, rfl, h⟩
def iSeq (f : M D) : M (List D) := mbind f fun d => mlift (seqOf d)
def iRg1 (g : M (List D)) : M (List D) := mbind g fun ds => match ds with
  | [.int j] => if -(2 ^ 62) ≤ j ∧ j < 2 ^ 62 then mret (rgD 0 j) else mlift none
  | _ => mlift none
def iRg2 (g : M (List D)) : M (List D) := mbind g fun ds => match ds with
  | [.int i, .int j] => if -(2 ^ 62) ≤ i ∧ i < 2 ^ 62 ∧ -(2 ^ 62) ≤ j ∧ j < 2 ^ 62 then mret (rgD i j) else mlift none
  | _ => mlift none
section
variable {ι : Type} {X : ι → Cx} {K : RC} {W : WX} {k : Nat} {e a b tg : Expr} {es : List Expr} {f fa fb : M D} {g : M (List D)} {pos : Pos} {pr : List Nat}
theorem id_seq (c : CF X K W k) (h : ED X K W e f) : ID X K W tg e (iSeq f) := by
  obtain ⟨t, p, s⟩ := h.ex
  refine ⟨fun σ H R => t σ H fun x H1 => (∃ a, x = .ref a ∧ (∃ xs, SqL K.K H1 a xs) ∧ R (Itl K.K a) H1) ∨ (∃ a, x = .ref a ∧ (∃ xs, SqT K.K H1 a xs) ∧ R (Itt K.K a) H1), (fun i => by rw [← c.kk i]; exact pi_seqA (p i)), fun fr ρ σ H R S q => s fr ρ σ H _ S ((QR.bind q).mono fun d ρ1 q1 v H1 S1 => ?_)⟩
  obtain ⟨ds, e1, q2⟩ := QR.lift q1
  obtain ⟨fr', S2, r, back⟩ := S1.frz.holdF (fro_frz d)
  unfold seqOf at e1
  cases ed : frz d with
  | tup es =>
    rw [ed] at e1 r
    cases e1
    obtain ⟨_, a, xs, rfl, hs, r⟩ := r
    exact .inr ⟨a, rfl, ⟨xs, SqT.mono S2.vfH hs⟩, q2 _ H1 fr' S2 back (yields_tup hs r)⟩
  | lst o es =>
    rw [ed] at e1 r
    cases e1
    cases o with
    | true =>
      have := fro_frz d
      rw [ed] at this
      cases this
    | false =>
      obtain ⟨_, a, xs, rfl, hs, r⟩ := r
      exact .inl ⟨a, rfl, ⟨xs, SqL.mono S2.vfH (SqL.of hs)⟩, q2 _ H1 fr' S2 back (yields_list (SqL.of hs) r)⟩
  | scr ns =>
    rw [ed] at e1 r
    cases e1
    obtain ⟨_, a, rfl, hs⟩ := r
    exact .inl ⟨a, rfl, ⟨_, SqL.mono S2.vfH hs⟩, q2 _ H1 fr' S2 back (yields_list (H0 := H1) hs (rep_ints ns))⟩
  | _ => rw [ed] at e1; cases e1
theorem id_rg1 {p : Pos} (c : CF X K W k) (hg : ∀ i, Gl (X i) "range") (hm : K.mg "range" = none) (ha : AM X K W [a] g []) (hs : ∀ i, starEach [a] (X i).env = [(false, eval a (X i).env)] := by intro _; rfl) : ID X K W tg (.Call (.Name "range" p) [a] [] pos) (iRg1 g) := by
  obtain ⟨t, pa, s⟩ := ha.ex
  refine ⟨iRng1 t, (fun i => pi_range1 (hg i) (by rw [c.mg i]; exact hm) (pa i) (hs i)), fun fr ρ σ H R S q => s fr ρ σ H _ S ((QR.bind q).mono fun ds ρ1 q1 vs H1 hl _ S1 => ?_)⟩
  split at q1
  · rename_i j
    obtain ⟨v, rfl⟩ := one_of hl rfl
    have S1 : Sim K fr (some (.int j) :: ρ1) (some v :: σ) H1 := S1
    by_cases hz : -(2 ^ 62) ≤ j ∧ j < 2 ^ 62
    · rw [if_pos hz] at q1
      refine ⟨j, by rw [S1.topF rfl], hz.1, hz.2, ?_⟩
      have z := q1 (Itr 0 (j - 0).toNat) H1 fr S1.drop (fun _ _ _ h => h) (yields_rg 0 j)
      rw [Int.sub_zero] at z
      exact z
    · rw [if_neg hz] at q1
      exact q1.elim
  · exact q1.elim
theorem id_rg2 {p : Pos} (c : CF X K W k) (hg : ∀ i, Gl (X i) "range") (hm : K.mg "range" = none) (ha : AM X K W [a, b] g []) (hs : ∀ i, starEach [a, b] (X i).env = [(false, eval a (X i).env), (false, eval b (X i).env)] := by intro _; rfl) (hs2 : ∀ i, starEach [b] (X i).env = [(false, eval b (X i).env)] := by intro _; rfl) : ID X K W tg (.Call (.Name "range" p) [a, b] [] pos) (iRg2 g) := by
  obtain ⟨t, pa, s⟩ := ha.ex
  refine ⟨iRng2 t, (fun i => pi_range2 (hg i) (by rw [c.mg i]; exact hm) (pa i) (hs i) (hs2 i)), fun fr ρ σ H R S q => s fr ρ σ H _ S ((QR.bind q).mono fun ds ρ1 q1 vs H1 hl _ S1 => ?_)⟩
  split at q1
  · rename_i i j
    obtain ⟨rfl, S2⟩ := two_ints hl S1
    by_cases hz : -(2 ^ 62) ≤ i ∧ i < 2 ^ 62 ∧ -(2 ^ 62) ≤ j ∧ j < 2 ^ 62
    · rw [if_pos hz] at q1
      exact ⟨i, j, rfl, hz, q1 _ H1 fr S2 (fun _ _ _ h => h) (yields_rg i j)⟩
    · rw [if_neg hz] at q1
      exact q1.elim
  · exact q1.elim
/-! ### a list of one's own: append, a store -/
def eApp (i : Nat) (f : M D) : M D := fun ρ => match ρ[i]? with
  | some (some (.lst true _)) => mbind f (fun d ρ1 => match ρ1[i]? with
    | some (some (.lst true ds)) => if ds.length < sizeLine then .ok .non (ρ1.set i (some (.lst true (ds ++ [d])))) else .stuck
    | _ => .stuck) ρ
  | _ => .stuck
theorem own_get {ρ : Env} {i : Nat} {P : List D → Prop} (h : match ρ[i]? with | some (some (.lst true ds)) => P ds | _ => False) : ∃ ds, ρ[i]? = some (some (.lst true ds)) ∧ P ds := by
  split at h
  · rename_i ds e
    exact ⟨ds, e, h⟩
  · exact h.elim
theorem Sim.lst_at {fr : Fr} {ρ : Env} {σ : L2.St} {H : Hp} {i : Nat} {ds : List D} (S : Sim K fr ρ σ H) (e : ρ[i]? = some (some (.lst true ds))) : ∃ p xs, σ[i]? = some (some (.ref p)) ∧ H p = some (.lst xs) ∧ xs.length = ds.length := by
  obtain ⟨v, hv, S1⟩ := S.move e
  obtain ⟨F, B, r, _⟩ := S1.top
  obtain ⟨p, xs, B', rfl, _, hx, r⟩ := r
  exact ⟨p, xs, hv, hx, r.len⟩
theorem ed_app (i : Nat) {x : Str} {p0 apos cpos : Pos} (h : ∀ j, PE (X j) (.Name x p0) (tVar i)) (ha : ED X K W e f) (c : CF X K W k)
    (hs : ∀ i, starEach [e] (X i).env = (false, eval e (X i).env) :: starEach [] (X i).env := by intro _; rfl) (hline : (apos.endLine == cpos.line) = true := by rfl)
    (hfew : ∀ i, ((backTo cpos (starEach [e] (X i).env)).all (fun x => !x.1) && (backToKw cpos (keywordEach [] (X i).env)).all (fun x => x.1.isSome) && decide ([e].length + ([] : List Keyword).length + (if ([] : List Keyword).isEmpty then 0 else 1) < 30)) = true := by intro _; rfl) :
    ED X K W (.Call (.Attribute (.Name x p0) "append" apos) [e] [] cpos) (eApp i f) := by
  obtain ⟨t, pa, s⟩ := ha.ex
  refine ⟨tBM K.K "list" rAppend (tVar i) (tCons t tNil), (fun j => ?_), fun fr ρ σ H Q S q => ?_⟩
  · rw [← c.kk j]
    exact pe_bm PySem.F.plainAttrs_list PySem.F.slot_list_append PySem.F.type_list_append mt_append (h j) (pa_cons (pa j) pa_nil (hs j)) rfl (hfew j) hline (hs j) rfl
  · unfold eApp at q
    split at q
    · rename_i ds0 e0
      obtain ⟨p, xs, hv, hx, _⟩ := S.lst_at e0
      refine ⟨.ref p, hv, .inl ⟨rfl, xs, SqL.of hx⟩, ?_⟩
      refine s fr ρ σ H _ S ((QR.bind q).mono fun d ρ1 q1 v1 H1 S1 => ?_)
      split at q1
      · rename_i ds e1
        by_cases hz : ds.length < sizeLine
        · rw [if_pos hz] at q1
          obtain ⟨v, hv2, S2⟩ := S1.move (i := i + 1) (show (some d :: ρ1)[i + 1]? = _ from by simpa using e1)
          have hv3 : σ[i]? = some (some v) := by simpa using hv2
          rw [hv] at hv3
          cases hv3
          have S2 : Sim K fr (some (.lst true ds) :: some d :: ρ1.set i none) (some (.ref p) :: some v1 :: σ) H1 := S2
          obtain ⟨ys, hy, hl, S3⟩ := S2.append
          have S4 := S3.back hv
          rw [set_set_] at S4
          exact ⟨p, ys, v1, rfl, rfl, hy, by omega, q1 _ _ (S4.pushF rfl)⟩
        · rw [if_neg hz] at q1
          exact q1.elim
      · exact q1.elim
    · exact q.elim
/-- x[j] = .. of a list of one's own -/
def gItem (i : Nat) (fj : M D) : D → Env → Option Env := fun d ρ => match ρ[i]? with
  | some (some (.lst true _)) => match fj ρ with
    | .ok (.int j) ρ1 => match ρ1[i]? with
      | some (some (.lst true ds)) => if ρ1.length = ρ.length then (ixN ds.length j).map fun n => ρ1.set i (some (.lst true (ds.set n d))) else none
      | _ => none
    | _ => none
  | _ => none
theorem Sim.put {fr : Fr} {ρ : Env} {σ : L2.St} {H : Hp} {ds : List D} {d : D} {p : Addr} {v : V} {n : Nat} (S : Sim K fr (some (.lst true ds) :: some d :: ρ) (some (.ref p) :: some v :: σ) H) (hn : n < ds.length) :
    ∃ xs, H p = some (.lst xs) ∧ xs.length = ds.length ∧ Sim K fr (some (.lst true (ds.set n d)) :: ρ) (some (.ref p) :: σ) (upd H p (.lst (xs.set n v))) := by
  obtain ⟨A, S⟩ := S
  obtain ⟨s1, τ1, B1, C1, e1, rfl, ⟨v1, ev, r1⟩, r2⟩ := S.sl
  injection e1 with e1 e2
  subst e1 e2
  cases ev
  obtain ⟨s2, τ2, B2, C2, e3, rfl, ⟨v2, ev, r3⟩, r4⟩ := r2
  injection e3 with e3 e4
  subst e3 e4
  cases ev
  obtain ⟨a, xs, B, ea, rfl, hx, r1⟩ := r1
  cases ea
  obtain ⟨s0, A1, B0, A2, es, rfl, ⟨v0, _, r0⟩, put⟩ := r1.sl.at (i := n) (x := some ds[n]) (by rw [List.getElem?_map, List.getElem?_eq_getElem hn]; rfl)
  refine ⟨xs, hx, r1.len, p :: (A1 ++ (B2 ++ A2)) ++ C2, ?_⟩
  have sub : ∀ a ∈ p :: (A1 ++ (B2 ++ A2)) ++ C2, a ∈ p :: (A1 ++ (B0 ++ A2)) ++ (B2 ++ C2) ∨ H a = none := fun a z => .inl (by
    simp only [List.cons_append, List.append_assoc, List.mem_cons, List.mem_append] at z ⊢
    rcases z with z | z | z | z | z
    · exact .inl z
    · exact .inr (.inl z)
    · exact .inr (.inr (.inr (.inr (.inl z))))
    · exact .inr (.inr (.inr (.inl z)))
    · exact .inr (.inr (.inr (.inr (.inr z)))))
  have nd0 := S.nd
  have pn : p ∉ (A1 ++ (B0 ++ A2)) ++ (B2 ++ C2) := by
    rw [List.cons_append] at nd0
    exact (List.nodup_cons.mp nd0).1
  have nd : (p :: (A1 ++ (B2 ++ A2)) ++ C2).Nodup := by
    have h1 : ((A1 ++ (B0 ++ A2)) ++ (B2 ++ C2)).Nodup := by
      rw [List.cons_append] at nd0
      exact (List.nodup_cons.mp nd0).2
    rw [List.cons_append]
    refine List.nodup_cons.mpr ⟨fun z => pn ?_, ?_⟩
    · simp only [List.append_assoc, List.mem_append] at z ⊢
      rcases z with z | z | z | z
      · exact .inl z
      · exact .inr (.inr (.inr (.inl z)))
      · exact .inr (.inr (.inl z))
      · exact .inr (.inr (.inr (.inr z)))
    · have h2 : ((A1 ++ A2) ++ (B2 ++ C2)).Nodup := by
        refine List.Nodup.sublist ?_ h1
        refine List.Sublist.append ?_ (List.Sublist.refl _)
        exact (List.append_sublist_append_left A1).mpr (List.sublist_append_right B0 A2)
      have pm : ((A1 ++ A2) ++ (B2 ++ C2)).Perm ((A1 ++ (B2 ++ A2)) ++ C2) := by
        have q1 : (A2 ++ (B2 ++ C2)).Perm (B2 ++ (A2 ++ C2)) := List.perm_append_comm_assoc A2 B2 C2
        have q2 := List.Perm.append_left A1 q1
        simpa [List.append_assoc] using q2
      exact pm.nodup h2
  have kp : ∀ a o, a ≠ p → H a = some o → upd H p (.lst (xs.set n v)) a = some o := fun a o n e => by rw [upd_ne n]; exact e
  have kpA : ∀ a o, a ∉ p :: (A1 ++ (B0 ++ A2)) ++ (B2 ++ C2) → H a = some o → upd H p (.lst (xs.set n v)) a = some o := fun a o n e => kp a o (fun z => n (by simp [z])) e
  have f := S.fro sub (H' := upd H p (.lst (xs.set n v))) kpA
  have ne : ∀ a, a ∈ (A1 ++ (B0 ++ A2)) ++ (B2 ++ C2) → a ≠ p := fun a z e => pn (e ▸ z)
  have q := put (x' := some d) (s' := some v) (B' := B2) f (fun a z o e => kp a o (ne a (by
    rcases List.mem_append.mp z with z | z
    · simp [z]
    · simp [z])) e) ⟨v, rfl, Rep.mono f _ _ _ (fun a z o e => kp a o (ne a (by simp [z])) e) r3⟩
  have q' : RepL K (hid (p :: (A1 ++ (B2 ++ A2)) ++ C2 ++ fr.N) (upd H p (.lst (xs.set n v)))) (upd H p (.lst (xs.set n v))) (ds.set n d) (xs.set n v) (A1 ++ (B2 ++ A2)) := by
    refine Sl.repL ?_
    rw [← List.map_set, ← List.map_set] at q
    exact q
  exact S.next sub nd kpA ⟨some (.ref p), _, p :: (A1 ++ (B2 ++ A2)), C2, rfl, rfl, ⟨.ref p, rfl, p, xs.set n v, _, rfl, rfl, upd_same, q'⟩, r4.mono f fun a z o e => kp a o (ne a (by simp [z])) e⟩
theorem gd_item (i : Nat) {x : Str} {p0 : Pos} {je : Expr} {fj : M D} (c : CF X K W k) (h : ∀ j, PE (X j) (.Name x p0) (tVar i)) (hj : ED X K W0 je fj)
    (ha : ∀ i v, assign (.Subscript (.Name x p0) je pos) (X i).env v = (do
      let ov ← holding [v] (eval (.Name x p0) (X i).env)
      let iv ← holding [v, ov] (eval je (X i).env)
      standAt pos
      holding [v, ov, iv] (setItem ov iv v)
      release [v, ov, iv] []) := by intro _ _; rfl) : GD X K pr (.Subscript (.Name x p0) je pos) (gItem i fj) := by
  obtain ⟨t, pj, s⟩ := hj.ex
  refine ⟨⟨gSub (tVar i) t rSetL, (fun j => pg_sub (h j) (pj j) set_list (ha j)), fun fr ρ σ H d v ρ' Q S e q => ?_⟩, fun d ρ ρ' e => ?_⟩
  · unfold gItem at e
    split at e
    rotate_left
    · cases e
    rename_i ds0 e0
    split at e
    rotate_left
    · cases e
    rename_i j ρ1 e1
    split at e
    rotate_left
    · cases e
    rename_i ds e2
    by_cases hlen : ρ1.length = ρ.length
    · rw [if_pos hlen] at e
      cases hn : ixN ds.length j with
      | none => rw [hn] at e; cases e
      | some n =>
        rw [hn] at e
        cases e
        -- the value is held while the index is asked
        obtain ⟨fr', S1, back⟩ := S.hold
        have hn2 : n < ds.length := by
          unfold ixN at hn
          split at hn
          · split at hn
            · cases hn; omega
            · cases hn
          · split at hn
            · cases hn; omega
            · cases hn
        obtain ⟨p, _, hv0, _, _⟩ := S1.lst_at e0
        refine ⟨.ref p, hv0, ?_⟩
        refine s fr' ρ σ H _ S1 ?_
        rw [e1]
        intro v2 H2 S2
        have S3 := back _ _ _ S2.drop
        obtain ⟨u, hu, S4⟩ := S3.move (i := i + 1) (show (some d :: ρ1)[i + 1]? = _ from by simpa using e2)
        have hu : σ[i]? = some (some u) := by simpa using hu
        rw [hv0] at hu
        cases hu
        have S4 : Sim K fr (some (.lst true ds) :: some d :: ρ1.set i none) (some (.ref p) :: some v :: σ) H2 := S4
        obtain ⟨ys, hy, hl2, S5⟩ := S4.put hn2
        have S6 := S5.back hv0
        rw [set_set_] at S6
        exact ⟨p, ys, j, n, rfl, S2.topF rfl, hy, by rw [hl2]; exact hn, q σ _ .refl S6⟩
    · rw [if_neg hlen] at e
      cases e
  · unfold gItem at e
    split at e
    rotate_left
    · cases e
    split at e
    rotate_left
    · cases e
    split at e
    rotate_left
    · cases e
    rename_i ρ1 _ _ ds _
    split at e
    · rename_i hlen
      cases hn : ixN ds.length _ with
      | none => rw [hn] at e; cases e
      | some n =>
        rw [hn] at e
        cases e
        rw [List.length_set, hlen]
    · cases e
end
end DL

set_option Elab.async false
set_option linter.all false
set_option maxRecDepth 100000
set_option maxHeartbeats 4000000
namespace DL
open PySem PySem.Spec L2
/-! ### products -/
instance {i j : Int} : Decidable (CMulX i j) := by unfold CMulX; exact inferInstance
def repD (k : Int) (ds : List D) : List D := (List.replicate k.toNat ds).flatten
def mulD : D → D → Option D
  | .int i, .int j => if CMulX i j then some (.int (i * j)) else none
  | .lst _ ds, .int k => if -(2 ^ 63) ≤ k ∧ k < 2 ^ 63 ∧ ds.length * k.toNat ≤ sizeLine then some (.lst true (repD k (frzL ds))) else none
  | .tup ds, .int k => if ds ≠ [] ∧ 2 ≤ k ∧ k ≤ 1000 ∧ ds.length ≤ 1000 then some (.tup (repD k ds)) else none
  | _, _ => none
def rMulA (K : PySem.W.Frag) : R2 := fun x y H Q => rI CMulX (fun i j => .int (i * j)) x y H Q ∨ (rRep x y H Q ∨ rRepT K x y H Q)
theorem op_mulA {X : Cx} : OpR X (binaryOp .Mult) (rMulA X.K) := OpR.or op_mulX (OpR.or op_rep op_repT)
theorem repL_rep {K : RC} {F H : Hp} {ds : List D} {vs : List V} (r : RepL K F H ds vs []) : ∀ n : Nat, RepL K F H (List.replicate n ds).flatten (List.replicate n vs).flatten []
  | 0 => ⟨rfl, rfl⟩
  | n + 1 => by
    rw [List.replicate_succ, List.replicate_succ, List.flatten_cons, List.flatten_cons]
    exact RepL.app (A := []) (B := []) r (repL_rep r n)
theorem frzL_len : ∀ ds : List D, (frzL ds).length = ds.length
  | [] => rfl
  | d :: ds => by show (frz d :: frzL ds).length = _; rw [List.length_cons, frzL_len ds]; rfl
theorem frzL_rep (ds : List D) : ∀ n : Nat, frzL (List.replicate n ds).flatten = (List.replicate n (frzL ds)).flatten
  | 0 => rfl
  | n + 1 => by rw [List.replicate_succ, List.replicate_succ, List.flatten_cons, List.flatten_cons, frzL_app, frzL_rep ds n]
section
variable {K : RC} {fr : Fr} {ρ : Env} {σ : L2.St} {H : Hp}
/-- frozen items, several times -/
theorem Sim.times {d : D} {v : V} {ds : List D} (S : Sim K fr (some d :: ρ) (some v :: σ) H) (hf : fro d = true) (e : items d = some ds) : ∃ p xs, v = .ref p ∧ xs.length = ds.length ∧ (if isL d = true then SqL K.K H p xs else SqT K.K H p xs) ∧ (∀ o es, d = .lst o es → H p = some (.lst xs)) ∧
    ∀ n : Nat, Sim K fr ((List.replicate n ds).flatten.map some ++ ρ) ((List.replicate n xs).flatten.map some ++ σ) H := by
  obtain ⟨A, S⟩ := S
  obtain ⟨s', τ, B, C, e0, rfl, ⟨v', e1, r1⟩, r2⟩ := S.sl
  injection e0 with e2 e3
  subst e2 e3
  cases e1
  have := fro_rep hf r1
  subst this
  have hH : ∀ a o, hid ([] ++ C ++ fr.N) H a = some o → H a = some o := fun a o e => (hid_some.mp e).2
  have go : ∀ xs, RepL K (hid ([] ++ C ++ fr.N) H) H ds xs [] → ∀ n : Nat, Sim K fr ((List.replicate n ds).flatten.map some ++ ρ) ((List.replicate n xs).flatten.map some ++ σ) H := fun xs r n =>
    ⟨C, Sl.app (A1 := []) (repL_rep r n).sl r2, S.nd, S.off, S.keep, S.tr⟩
  cases d with
  | tup es =>
    cases e
    obtain ⟨_, a, xs, rfl, s, r⟩ := r1
    exact ⟨a, xs, rfl, r.len, SqT.mono hH s, (fun _ _ z => nomatch z), go xs r⟩
  | lst o es =>
    cases e
    cases o with
    | false =>
      obtain ⟨_, a, xs, rfl, s, r⟩ := r1
      exact ⟨a, xs, rfl, r.len, SqL.of (hH _ _ s), (fun _ _ _ => hH _ _ s), go xs r⟩
    | true => cases hf
  | scr ns =>
    cases e
    obtain ⟨_, a, rfl, s⟩ := r1
    exact ⟨a, _, rfl, by simp, SqL.mono hH s, (fun _ _ z => nomatch z), go _ (rep_ints ns)⟩
  | _ => cases e
theorem ops_mul : OpS K (rMulA K.K) mulD := by
  intro fr ρ σ H dx dy vx vy d Q S e q
  cases dx with
  | int i => cases dy with
    | int j =>
      unfold mulD at e
      by_cases hc : CMulX i j
      · simp only [hc, if_true] at e
        cases e
        exact .inl ⟨i, j, S.drop.topF rfl, S.topF rfl, hc, q _ H (S.drop.drop.pushF rfl)⟩
      · simp only [hc, if_false] at e
        cases e
    | _ => cases e
  | lst o ds => cases dy with
    | int k =>
      unfold mulD at e
      by_cases hc : -(2 ^ 63) ≤ k ∧ k < 2 ^ 63 ∧ ds.length * k.toNat ≤ sizeLine
      · simp only [hc, and_self, if_true] at e
        cases e
        have hk := S.topF rfl
        subst hk
        obtain ⟨p, xs, rfl, h2, _, h4, g⟩ := S.drop.frz.times (fro_frz _) (ds := frzL ds) rfl
        have hl2 := frzL_len ds
        refine .inr (.inl ⟨p, k, xs, rfl, rfl, h4 _ _ rfl, hc.1, hc.2.1, by rw [h2, hl2]; exact hc.2.2, fun l hl => q _ _ ?_⟩)
        exact (g k.toNat).newL (by simp [List.length_flatten, h2]) hl
      · simp only [hc, if_false] at e
        cases e
    | _ => cases e
  | tup ds => cases dy with
    | int k =>
      have e : (if ds ≠ [] ∧ 2 ≤ k ∧ k ≤ 1000 ∧ ds.length ≤ 1000 then some (D.tup (repD k ds)) else none) = some d := e
      by_cases hc : ds ≠ [] ∧ 2 ≤ k ∧ k ≤ 1000 ∧ ds.length ≤ 1000
      · rw [if_pos hc] at e
        cases e
        have hk := S.topF rfl
        subst hk
        have hz := S.drop.tup_frz
        obtain ⟨p, xs, rfl, h2, h3, _, g⟩ := S.drop.times (ds := ds) rfl rfl
        refine .inr (.inr ⟨p, k, xs, rfl, rfl, h3, fun e => hc.1 (List.length_eq_zero_iff.mp (by rw [← h2, e]; rfl)), hc.2.1, hc.2.2.1, by rw [h2]; exact hc.2.2.2, fun l hl => q _ _ ?_⟩)
        have z := (g k.toNat).newT (by simp [List.length_flatten, h2]) hl
        rw [frzL_rep, hz] at z
        exact z
      · rw [if_neg hc] at e
        cases e
    | _ => cases e
  | _ => cases e
end
section
variable {ι : Type} {X : ι → Cx} {K : RC} {W : WX} {k : Nat} {e a b : Expr} {f fa fb : M D} {pos : Pos} {pr : List Nat}
theorem rMulA_K {X : Cx} (h : X.K = K.K) : OpR X (binaryOp .Mult) (rMulA K.K) := by rw [← h]; exact op_mulA
theorem ed_mul (c : CF X K W k) (ha : ED X K W a fa) (hb : ED X K W b fb) : ED X K W (.BinOp a .Mult b pos) (e2 mulD fa fb) := ed_op (fun i => rMulA_K (c.kk i)) ops_mul ha hb
/-! ### raise -/
structure ExF (K : RC) (c : Str) : Prop where
  ex : ∃ C, K.mg c = some (.ref C) ∧ PySem.W.excIn K.K C He.veBase "ValueError.__new__" = true ∧ PySem.W.keepIn K.K (.ref C) = true ∧ PySem.W.subIn K.K (.ref C) (.type "BaseException") = some true ∧ PySem.W.typeIn K.K (.ref C) = some (.type "type")
def sRaise (c : Str) : SF := fun ρ => .exc c [] ρ
theorem sd_raise0 {x : Str} {p pos' : Pos} (c : CF X K W k) (h : ExF K x) (hg : ∀ i, Gl (X i) x) (hdb : (x == ("__debug__" : Str)) = false := by decide) : SD X K W pr (.Raise (some (.Call (.Name x p) [] [] pos)) none pos') (sRaise x) := by
  obtain ⟨C, hm, h1, h2, h3, h4⟩ := h.ex
  refine ⟨_, (fun i => ps_raise (c.calm i) (c.tk i) (pmk_own0 PySem.F.excBase_ValueError (by rw [c.kk i]; exact h1) (by rw [c.mg i]; exact hm) (by rw [c.kk i]; exact h2) (raises_own (by rw [c.kk i]; exact h3) (by rw [c.kk i]; exact h4)) (hg i) hdb)), fun fr ρ σ H Dn S q => ?_⟩
  exact q _ _ σ H .refl ⟨C, hm, rfl, .inl ⟨rfl, rfl⟩⟩ S
/-! ### try -/
abbrev TrI {ι : Type} (X : ι → Cx) (W' : WX) : Type := { j : ι × List (Addr × Obj) × (Value → Shared → Prop) // Takes ((X j.1).tr j.2.1 j.2.2) W' ∧ PassesOwn (model (X j.1).prog (X j.1).w) (X j.1).A (X j.1).env j.2.2 }
abbrev trF {ι : Type} (X : ι → Cx) (W' : WX) : TrI X W' → Cx := fun j => (X j.1.1).tr j.1.2.1 j.1.2.2
abbrev SuI {ι : Type} (X : ι → Cx) (C : Addr) (d : Option Addr) : Type := { j : ι × Obj × List (Addr × Obj) // Zc (.ref C) d j.2.1 ∧ ∃ vs, j.2.1.data = .fields vs }
abbrev suF {ι : Type} (X : ι → Cx) (a C : Addr) (d : Option Addr) : SuI X C d → Cx := fun j => (X j.1.1).suite a ((a, j.1.2.1) :: j.1.2.2)
theorem CF.tr (c : CF X K W k) (W' : WX) : CF (trF X W') K W' k where
  K := fun j => c.K j.1.1
  calm := fun j => c.calm j.1.1
  room := fun j => c.room j.1.1
  tk := fun j => j.2.1
  nd := fun j => c.nd j.1.1
/-- the class that an except clause names: whether it takes an exception of class c -/
def ExmF (K : RC) (x : Str) (m : Str → Option Bool) : Prop := ∀ c b, m c = some b → ∃ C Y, K.mg c = some (.ref C) ∧ K.mg x = some (.ref Y) ∧ PySem.W.exmOne K.K (.ref C) (.ref Y) = some b
def clr (i : Nat) : RS → RS
  | .nx ρ => .nx (ρ.set i none)
  | .ret d ρ => .ret d (ρ.set i none)
  | .brk ρ => .brk (ρ.set i none)
  | .cnt ρ => .cnt (ρ.set i none)
  | .exc _ _ _ => .stuck
  | .stuck => .stuck
open Classical in
noncomputable def suite (i : Nat) (G : Addr → SF) (ρ : Env) : RS := if h : ∃ r, ∀ a, clr i (G a (ρ.set i (some (.adr a)))) = r then h.choose else .stuck
theorem suite_eq {i : Nat} {G : Addr → SF} {ρ : Env} {r : RS} (h : ∀ a, clr i (G a (ρ.set i (some (.adr a)))) = r) : suite i G ρ = r := by
  have ex : ∃ r, ∀ a, clr i (G a (ρ.set i (some (.adr a)))) = r := ⟨r, h⟩
  unfold suite
  rw [dif_pos ex, ← ex.choose_spec 0, h 0]
noncomputable def sTryAs (F : SF) (m : Str → Option Bool) (i : Nat) (G : Str → List (Str × D) → Addr → SF) : SF := fun ρ => match F ρ with
  | .exc c fs ρ' => (match m c with
    | some true => if i < ρ'.length then suite i (G c fs) ρ' else .stuck
    | some false => .exc c fs ρ'
    | none => .stuck)
  | r => r
theorem Sim.slot {K : RC} {fr : Fr} {ρ : Env} {σ : L2.St} {H : Hp} {i : Nat} {d : D} {v : V} (S : Sim K fr ρ σ H) (hf : flat d = some v) (hi : i < ρ.length) : Sim K fr (ρ.set i (some d)) (σ.set i (some v)) H := (S.pushF hf).store hi
theorem Sim.clear0 {K : RC} {fr : Fr} {ρ : Env} {σ : L2.St} {H : Hp} {i : Nat} (S : Sim K fr ρ σ H) : Sim K fr (ρ.set i none) σ H := by
  cases e : σ[i]? with
  | none =>
    have z := S.clear (i := i) none
    rw [List.set_eq_of_length_le (l := σ) (by
      rw [List.getElem?_eq_none_iff] at e
      exact e)] at z
    exact z
  | some s =>
    have z := S.clear (i := i) s
    rw [set_self e] at z
    exact z
theorem pss_ex {X : Cx} {sts : List Stmt} {P : Type} {t : P → TS} (h : ∀ p, PSs X sts (t p)) : PSs X sts (fun D σ H => ∃ p, t p D σ H) := ⟨fun pins s σ H D I ⟨p, q⟩ => (h p).run pins s σ H D I q⟩
def ErrD (fs : List (Str × D)) (d : Option Addr) : Prop := (fs = [] ∧ d = none) ∨ (fs ≠ [] ∧ ∃ a, d = some a)
theorem sd_try_as {x n : Str} {i : Nat} {body suite : List Stmt} {b₀ : Stmt} {np pos' : Pos} {F : SF} {m : Str → Option Bool} {G : Str → List (Str × D) → Addr → SF} (c : CF X K W k) (hs : ∀ j, (X j).stack = (X j).env :: (X j).outer) (hfr : ∀ j, (X j).env.frame = some (X j).env.locals)
    (hi : ∀ j, (X j).N[i]? = some n) (hln : ∀ j, (X j).env.kindOf n = some .local) (hg : ∀ j, Gl (X j) x) (hm : ExmF K x m) {Y : Addr} (hY : K.mg x = some (.ref Y)) (hp : i ∉ pr)
    (hb : ∀ W', SDs (trF X W') K W' pr body F) (hsu : ∀ c fs a C d, K.mg c = some (.ref C) → ErrD fs d → SDs (suF X a C d) K W0 pr (b₀ :: suite) (G c fs a)) (hdb : (x == ("__debug__" : Str)) = false := by decide) :
    SD X K W pr (.Try body [.ExceptHandler (some (.Name x np)) (some n) (b₀ :: suite) pos'] [] [] pos) (sTryAs F m i G) := by
  let ts : Addr → Value → Option Addr → TS := fun a cls d Dn σ H => ∃ p : { p : Str × List (Str × D) × Addr // cls = .ref p.2.2 ∧ K.mg p.1 = some (.ref p.2.2) ∧ ErrD p.2.1 d }, (hsu p.1.1 p.1.2.1 a p.1.2.2 d p.2.2.1 p.2.2.2).ex.choose Dn σ H
  let tb : WX → TS := fun W' => (hb W').ex.choose
  refine ⟨fun D σ H => tb (wAs K.K (.ref Y) i ts W D) D σ H, (fun j => ?_), fun fr ρ σ H Dn S q => ?_⟩
  · rw [← c.kk j]
    refine ps_try_as (tb := tb) (ts := ts) (hs j) (hfr j) (c.nd j) (hi j) (hln j) ⟨hg j, hdb, .inl (by rw [c.mg j]; exact hY)⟩ (c.tk j) (fun W' pn xe tk po => ?_) (fun a oe cls d pn hz hf => ?_)
    · exact (hb W').ex.choose_spec.1 ⟨(j, pn, xe), tk, po⟩
    · refine pss_ex fun p => ?_
      obtain ⟨⟨c', fs, C⟩, h1, h2, h3⟩ := p
      dsimp only at h1 h2 h3 ⊢
      subst h1
      exact (hsu c' fs a C d h2 h3).ex.choose_spec.1 ⟨(j, oe, pn), hz, hf⟩
  · refine (hb _).ex.choose_spec.2 fr ρ σ H _ S ?_
    unfold sTryAs at q
    cases e : F ρ with
    | exc c' fs ρ' =>
      rw [e] at q
      intro cls dd σ' H' ks hx S'
      obtain ⟨C, h1, h2, h3⟩ := hx
      cases em : m c' with
      | none => simp only [em] at q; exact q.elim
      | some b =>
        obtain ⟨C', Y', h4, h5, h6⟩ := hm c' b em
        rw [h1] at h4
        cases h4
        rw [hY] at h5
        cases h5
        subst h2
        refine ⟨b, h6, fun hbt a ha => ?_, fun hbf => ?_⟩
        · subst hbt
          simp only [em] at q
          by_cases hil : i < ρ'.length
          · rw [if_pos hil] at q
            have hE : ErrD fs dd := by
              rcases h3 with h3 | ⟨hn, a, h3, _⟩
              · exact .inl h3
              · exact .inr ⟨hn, a, h3⟩
            refine ⟨⟨(c', fs, C), rfl, h1, hE⟩, ?_⟩
            refine (hsu c' fs a C dd h1 hE).ex.choose_spec.2 fr _ _ H' _ (S'.slot (d := .adr a) rfl hil) ?_
            by_cases hex : ∃ r, ∀ a, clr i (G c' fs a (ρ'.set i (some (.adr a)))) = r
            · obtain ⟨r, hr⟩ := hex
              rw [suite_eq hr] at q
              have hra := hr a
              have kk : KeepS pr σ (σ'.set i (some (.ref a))) := ks.trans (KeepS.set hp)
              cases eg : G c' fs a (ρ'.set i (some (.adr a))) with
              | nx ρ2 =>
                rw [eg] at hra
                subst hra
                exact fun σ2 H2 k2 S2 => q _ H2 ((kk.trans k2).trans (KeepS.set hp)) (S2.clear none)
              | brk ρ2 =>
                rw [eg] at hra
                subst hra
                exact fun σ2 H2 k2 S2 => q _ H2 ((kk.trans k2).trans (KeepS.set hp)) (S2.clear none)
              | cnt ρ2 =>
                rw [eg] at hra
                subst hra
                exact fun σ2 H2 k2 S2 => q _ H2 ((kk.trans k2).trans (KeepS.set hp)) (S2.clear none)
              | ret d ρ2 =>
                rw [eg] at hra
                subst hra
                exact fun v σ2 H2 k2 S2 => q v σ2 H2 (kk.trans k2) (S2.clear0 (i := i + 1))
              | exc _ _ _ =>
                rw [eg] at hra
                subst hra
                exact q.elim
              | stuck =>
                rw [eg] at hra
                subst hra
                exact q.elim
            · unfold DL.suite at q
              rw [dif_neg hex] at q
              exact q.elim
          · rw [if_neg hil] at q
            exact q.elim
        · subst hbf
          simp only [em] at q
          exact q _ _ σ' H' ks ⟨C, h1, rfl, h3⟩ S'
    | nx ρ' => rw [e] at q; exact q
    | ret d ρ' => rw [e] at q; exact q
    | brk ρ' => rw [e] at q; exact q
    | cnt ρ' => rw [e] at q; exact q
    | stuck => rw [e] at q; exact q.elim
/-! ### isinstance of the exception at hand -/
structure IsF (K : RC) (y : Str) (m : Str → Option Bool) : Prop where
  is_ : ∀ c b, m c = some b → ∃ C Y, K.mg c = some (.ref C) ∧ K.mg y = some (.ref Y) ∧ ExcC K.K C ∧ PySem.W.kitOne K.K (.ref C) (.ref Y) = some b
def eIsE (a : Addr) (o : Option Bool) (f : M D) : M D := match o with
  | some b => mbind f fun d => match d with
    | .adr a' => if a' = a then mret (.bl b) else mlift none
    | _ => mlift none
  | none => fun _ => .stuck
theorem ed_isE {y : Str} {m : Str → Option Bool} {p p2 : Pos} {a' C : Addr} {cn : Str} {fs : List (Str × D)} {d : Option Addr} (c : CF X K W k) (h : IsF K y m) (hC : K.mg cn = some (.ref C)) (hE : ErrD fs d) (hg : ∀ i, Gl (X i) "isinstance") (hm : K.mg "isinstance" = none) (hg2 : ∀ i, Gl (X i) y)
    (ha : ED (suF X a' C d) K W0 a fa) (hdb : (y == ("__debug__" : Str)) = false := by decide) (he : ∀ i : SuI X C d, starEach (a :: [.Name y p2]) (suF X a' C d i).env = (false, eval a (suF X a' C d i).env) :: starEach [.Name y p2] (suF X a' C d i).env := by intro _; rfl) (he2 : ∀ i : SuI X C d, starEach [.Name y p2] (suF X a' C d i).env = (false, eval (.Name y p2) (suF X a' C d i).env) :: starEach [] (suF X a' C d i).env := by intro _; rfl)
    (hpl : ∀ i : SuI X C d, (backTo pos (starEach [.Name y p2] (suF X a' C d i).env)).any (·.1) = false := by intro _; rfl) : ED (suF X a' C d) K W0 (.Call (.Name "isinstance" p) [a, .Name y p2] [] pos) (eIsE a' (if fs = [] then m cn else none) fa) := by
  obtain ⟨t, pa, s⟩ := ha.ex
  by_cases hf : fs = []
  · rw [if_pos hf]
    cases hb : m cn with
    | none => exact ⟨fun _ _ _ => False, (fun i => ⟨fun _ _ _ _ _ _ z => z.elim⟩), fun fr ρ σ H Q S q => q.elim⟩
    | some b =>
      have hd : d = none := by
        rcases hE with ⟨_, e⟩ | ⟨e, _⟩
        · exact e
        · exact absurd hf e
      obtain ⟨C', Y, h1, h2, h3, h4⟩ := h.is_ cn b hb
      rw [hC] at h1
      cases h1
      subst hd
      refine ⟨tCB (rIsE K.K C a') (tCons t (tCons (tC (.ref Y)) tNil)), (fun i => ?_), fun fr ρ σ H Q S q => s fr ρ σ H _ S ((QR.bind q).mono fun dv ρ1 q1 v H1 S1 => ?_)⟩
      · have h := pe_callB (X := suF X a' C none i) (p := p) (pos := pos) (call_isE (X := X i.1.1) (a := a') (pn := i.1.2.2) (C := by rw [c.kk]; exact h3) i.2.1 i.2.2) (hg i.1.1) (by rw [c.mg]; exact hm) (by decide +kernel) (pa_cons (pa i) (pa_cons (pe_glob (X := suF X a' C none i) (pos := p2) (hg2 i.1.1) (by rw [c.mg]; exact h2) (show RelV (.ref Y) (.ref Y) from rfl) hdb) pa_nil (he2 i)) (he i)) (by decide) (by decide) (he i) (hpl i)
        rw [c.kk] at h
        exact h
      · split at q1
        · rename_i a2
          by_cases ha2 : a2 = a'
          · rw [if_pos ha2] at q1
            subst ha2
            have := S1.topF rfl
            subst this
            exact ⟨.ref Y, .ref Y, b, rfl, (fun u r => r), h4, q1 _ H1 (S1.drop.pushF rfl)⟩
          · rw [if_neg ha2] at q1
            exact q1.elim
        · exact q1.elim
  · rw [if_neg hf]
    exact ⟨fun _ _ _ => False, (fun i => ⟨fun _ _ _ _ _ _ z => z.elim⟩), fun fr ρ σ H Q S q => q.elim⟩
end
end DL

set_option Elab.async false
set_option linter.all false
set_option maxRecDepth 100000
set_option maxHeartbeats 4000000
namespace DL
open PySem PySem.Spec L2
def ALen (g : M (List D)) (n : Nat) : Prop := ∀ ρ ds ρ', g ρ = .ok ds ρ' → ds.length = n
theorem al_nil : ALen aNil 0 := fun ρ ds ρ' e => by cases e; rfl
theorem al_cons {f : M D} {g : M (List D)} {n : Nat} (h : ALen g n) : ALen (aCons f g) (n + 1) := fun ρ ds ρ' e => by
  obtain ⟨d, ρ1, e1, e2⟩ := mbind_ok e
  obtain ⟨ds', ρ2, e3, e4⟩ := mbind_ok e2
  cases e4
  rw [List.length_cons, h _ _ _ e3]
section
variable {ι : Type} {X : ι → Cx} {K : RC} {W : WX} {k : Nat} {e a b : Expr} {es : List Expr} {f fa fb : M D} {g : M (List D)} {rs : List (Nat × Nat)} {pos : Pos} {pr : List Nat}
theorem ed_gint {x : Str} {i : Int} (c : CF X K W k) (h : ∃ t, K.mg x = some (.int i t)) (hg : ∀ j, Gl (X j) x) (hd : (x == ("__debug__" : Str)) = false := by decide) : ED X K W (.Name x pos) (eC (.int i)) := by
  obtain ⟨t, h⟩ := h
  exact ed_const rfl fun j => pe_glob (hg j) (by rw [c.mg j]; exact h) ⟨t, rfl⟩ hd
theorem ed_fn {j n m : Nat} {x : Str} {F : List D → Res D} {dfl : List D} {p : Pos} (c : CF X K W k) (h : ∀ i, FnX (X i) j x n dfl F) (hj : j ≤ k) (hg : ∀ i, Gl (X i) x) (ha : AM X K W (e :: es) g rs)
    (hl : ALen g m) (hn : m + dfl.length = n := by rfl) (hdb : (x == ("__debug__" : Str)) = false := by decide) (hd : ∀ d ∈ dfl, (flat d).isSome = true := by simp [flat])
    (he : ∀ i, starEach (e :: es) (X i).env = (false, eval e (X i).env) :: starEach es (X i).env := by intro _; rfl) (hpl : ∀ i, (backTo pos (starEach es (X i).env)).any (·.1) = false := by intro _; rfl) : ED X K W (.Call (.Name x p) (e :: es) [] pos) (eCall F g dfl rs) :=
  ed_call h c.K (fun i => (c.room i).mono hj) hg c.tk ha (fun ρ ds ρ' e => by rw [List.length_append, hl _ _ _ e]; exact hn) hdb hd he hpl
theorem ed_fn0 {j n : Nat} {x : Str} {F : List D → Res D} {dfl : List D} {p : Pos} (c : CF X K W k) (h : ∀ i, FnX (X i) j x n dfl F) (hj : j ≤ k) (hg : ∀ i, Gl (X i) x)
    (hn : dfl.length = n := by rfl) (hdb : (x == ("__debug__" : Str)) = false := by decide) (hd : ∀ d ∈ dfl, (flat d).isSome = true := by simp [flat]) : ED X K W (.Call (.Name x p) [] [] pos) (eCall F aNil dfl []) :=
  ed_call0 h c.K (fun i => (c.room i).mono hj) hg c.tk hn hdb hd
end
section
variable {P : Program} {w : World} {K : PySem.W.Frag} {mg : Str → Option Value} {base : Heap} {f : Addr} {fd : FuncData} {x y qual : Str} {params : Arguments} {body : List Stmt} {scope : Scope} {dvs : List V} {kws : List (Str × V)} {ps : List Str} {k : Nat} {Fn : List D → Res D}
theorem fnd_n (F : FunD K x qual params body scope dvs kws f fd) (hm : mg y = some (.ref f)) (b : Binds K fd ps []) (ok : FnOk P w K mg base (L2.CX P w) k f fd ps (spD ⟨K, mg⟩ ps.length Fn)) : FnD P w K mg base k y ps.length [] Fn :=
  ⟨f, fd, ps, [], hm, F.kp, b, .nil, (fun _ z => nomatch z), rfl, ok⟩
theorem fnd_d (F : FunD K x qual params body scope dvs kws f fd) (hm : mg y = some (.ref f)) (dfl : List D) {j : Nat} (b : ∃ ds, Vals (dvs.drop j) ds ∧ Binds K fd ps ds) (hd : dfl.map toV = dvs.drop j) (hf : ∀ d ∈ dfl, (flat d).isSome = true) (ok : FnOk P w K mg base (L2.CX P w) k f fd ps (spD ⟨K, mg⟩ ps.length Fn)) : FnD P w K mg base k y ps.length dfl Fn := by
  obtain ⟨ds, h1, h2⟩ := b
  exact ⟨f, fd, ps, ds, hm, F.kp, h2, by rw [hd]; exact h1, hf, rfl, ok⟩
/-- a def's context -/
theorem cf_of {N : List Str} {f : Addr} {cdv : Value} {A : Around} {outer : List PySem.Env} {s : Shared} {H : Hp} {E : XK} {ps : List Str} (S : FnScope N ps scope) (hr : Room k (A.deeper (PyProof.Rows.envOfC qual scope s.heap.objs.size f cdv))) :
    CF (fun _ : Unit => cxOf (L2.CX P w) P w K mg base N qual scope f cdv A outer s H E) ⟨K, mg⟩ (fun cls d _ H => E cls d H) k where
  K := fun _ => rfl
  calm := fun _ => rfl
  room := fun _ => hr
  tk := fun _ => takes_of rfl rfl rfl rfl
  nd := fun _ => S.nd
end
/-! ### facts of the text -/
theorem exf_of {K : PySem.W.Frag} {h : Heap} {mg : Str → Option Value} {x : Str} (X : K.In h) (G : h.Ns mainGlobals mg) (g : (He.Fa.glo x).ok K = true) (e : (He.Fa.exc x).ok K = true) : ExF ⟨K, mg⟩ x :=
  ⟨_, He.glo_ok X G g, He.exc_ok e⟩
def inL {α : Type} (P : α → Prop) : List α → Prop
  | [] => True
  | a :: l => P a ∧ inL P l
theorem inL_mem {α : Type} {P : α → Prop} {a : α} : ∀ {l : List α}, inL P l → a ∈ l → P a
  | b :: l, h, z => by
    rcases List.mem_cons.mp z with z | z
    · subst z; exact h.1
    · exact inL_mem h.2 z
theorem look_mem {l : List (Str × Bool)} {c : Str} {b : Bool} (h : l.lookup c = some b) : (c, b) ∈ l := by
  induction l with
  | nil => cases h
  | cons p l ih =>
    obtain ⟨x, y⟩ := p
    unfold List.lookup at h
    split at h
    · rename_i e
      cases h
      rw [beq_iff_eq.mp e]
      exact List.mem_cons_self
    · exact List.mem_cons_of_mem _ (ih h)
/-- the class y against the classes of l -/
def exmB (K : PySem.W.Frag) (y : Str) (l : List (Str × Bool)) : Bool := He.Fa.ok K (.glo y) && l.all fun p => He.Fa.ok K (.glo p.1) && He.Fa.ok K (.exm p.1 y p.2)
theorem exmF_of {K : PySem.W.Frag} {h : Heap} {mg : Str → Option Value} {y : Str} {l : List (Str × Bool)} (X : K.In h) (G : h.Ns mainGlobals mg) (e : exmB K y l = true) : ExmF ⟨K, mg⟩ y (fun c => l.lookup c) := fun c b hb => by
  obtain ⟨h1, h2⟩ := He.ba e
  have h3 := List.all_eq_true.mp h2 (c, b) (look_mem hb)
  obtain ⟨h4, h5⟩ := He.ba h3
  exact ⟨_, _, He.glo_ok X G h4, He.glo_ok X G h1, He.exm_ok h5⟩
def excC (K : PySem.W.Frag) (D : Addr) : Bool := decide (PySem.W.findIn K (.ref D) "__getattribute__" = some (some (.builtin "BaseException.__getattribute__"))) && (decide (PySem.W.findIn K (.ref D) "__getattr__" = some none) && (decide (PySem.W.subIn K (.ref D) (.type "BaseException") = some true) && (PySem.W.hasDictIn K D &&
  (decide (PySem.W.findIn K (.ref D) "__class__" = some (some (.builtin "object.__class__"))) && (decide (PySem.W.specialIn K (.builtin "object.__class__") "__get__" = some (some (.builtin "getset_descriptor.__get__"))) && (decide (PySem.W.takesIn K (.builtin "object.__class__") = some true) && decide (PySem.W.mroIn K D (.type "object") = some true)))))))
theorem excC_ok {K : PySem.W.Frag} {D : Addr} (h : excC K D = true) : ExcC K D := by
  obtain ⟨h1, h⟩ := He.ba h
  obtain ⟨h2, h⟩ := He.ba h
  obtain ⟨h3, h⟩ := He.ba h
  obtain ⟨h4, h⟩ := He.ba h
  obtain ⟨h5, h⟩ := He.ba h
  obtain ⟨h6, h⟩ := He.ba h
  obtain ⟨h7, h8⟩ := He.ba h
  exact ⟨of_decide_eq_true h1, of_decide_eq_true h2, of_decide_eq_true h3, h4, of_decide_eq_true h5, of_decide_eq_true h6, of_decide_eq_true h7, of_decide_eq_true h8⟩
def isB1 (K : PySem.W.Frag) (y : Str) (l : List (Str × Bool)) : Bool := He.Fa.ok K (.glo y) && l.all fun p => He.Fa.ok K (.glo p.1) && (excC K (He.ga K p.1) && decide (PySem.W.kitOne K (.ref (He.ga K p.1)) (.ref (He.ga K y)) = some p.2))
theorem isF_of {K : PySem.W.Frag} {h : Heap} {mg : Str → Option Value} {y : Str} {l : List (Str × Bool)} (X : K.In h) (G : h.Ns mainGlobals mg) (e : isB1 K y l = true) : IsF ⟨K, mg⟩ y (fun c => l.lookup c) := ⟨fun c b hb => by
  obtain ⟨h1, h2⟩ := He.ba e
  have h3 := List.all_eq_true.mp h2 (c, b) (look_mem hb)
  obtain ⟨h4, h5⟩ := He.ba h3
  obtain ⟨h6, h7⟩ := He.ba h5
  exact ⟨_, _, He.glo_ok X G h4, He.glo_ok X G h1, excC_ok h6, of_decide_eq_true h7⟩⟩
/-! ### the head with one more Bool -/
abbrev AlE : Type := He.AlD × Bool
def obsE (fa : List He.Fa) (fn : List He.DefD) (ex : PySem.W.Frag → Bool) (K : PySem.W.Frag) : AlE := (He.obsD fa fn K, ex K)
def SaysE (fa : List He.Fa) (fn : List He.DefD) (ex : PySem.W.Frag → Bool) (K : PySem.W.Frag) : Prop := obsE fa fn ex K = (He.valD fn, true)
def obsEG (n : Nat) (fa : List He.Fa) (fn : List He.DefD) (ex : PySem.W.Frag → Bool) (g : Addr → Option Obj) : AlE := obsE fa fn ex (He.frG g (He.asD g n))
def hookE (n : Nat) (fa : List He.Fa) (fn : List He.DefD) (ex : PySem.W.Frag → Bool) : PySem.W.Hook where
  α := AlE
  obs := fun s => obsEG n fa fn ex s.heap.get?
  val := fun _ => (He.valD fn, true)
  says := fun _ h => ∃ K : PySem.W.Frag, K.In h ∧ SaysE fa fn ex K
  of := fun _ _ e => ⟨_, He.frG_in, e⟩
  keeps := fun _ _ _ ⟨K, hK, c⟩ k => ⟨K, PySem.W.Frag.In.keeps hK k, c⟩
theorem obsEG_eq {n : Nat} {fa : List He.Fa} {fn : List He.DefD} {ex : PySem.W.Frag → Bool} {g : Addr → Option Obj} {s : Shared} (h : ∀ a, g a = s.heap.get? a) : obsEG n fa fn ex g = (hookE n fa fn ex).obs s := by
  have e : g = s.heap.get? := funext h
  rw [e] <;> rfl
section
variable {fa : List He.Fa} {fn : List He.DefD} {ex : PySem.W.Frag → Bool} {K : PySem.W.Frag}
theorem SaysE.d (c : SaysE fa fn ex K) : He.SaysD fa fn K := congrArg Prod.fst c
theorem SaysE.e (c : SaysE fa fn ex K) : ex K = true := congrArg Prod.snd c
end
/-! ### the end of a law -/
theorem spLaw_of {K : PySem.W.Frag} {mg : Str → Option Value} {F : List D → Res D} {n : Nat} (h : ∀ ns : List Int, ns.length ≤ n → ∃ os, F [.scr ns] = .ok (.bl true) os) (H : Hp) (a : Addr) (ns : List Int) (hl : ns.length ≤ n) (hS : SqL K H a (ns.map V.int)) :
    spD ⟨K, mg⟩ 1 F [.ref a] H (fun v _ => v = .bl true) fun _ _ _ => False := by
  obtain ⟨os, e⟩ := h ns hl
  refine ⟨⟨H, []⟩, [.scr ns], rfl, rfl, ⟨[], ⟨some (.ref a), [], [], [], rfl, rfl, ⟨.ref a, rfl, rfl, a, rfl, ?_⟩, rfl, rfl⟩, .nil, (fun _ z => nomatch z), (fun _ _ e => e), fun _ z => nomatch z⟩, ?_⟩
  · refine SqL.mono (fun b o e => ?_) hS
    exact hid_some.mpr ⟨(fun z => nomatch z), e⟩
  · rw [e]
    exact fun v H' S => S.topF rfl
end DL

set_option Elab.async false
set_option linter.all false
set_option maxRecDepth 100000
set_option maxHeartbeats 4000000
namespace DL
open PySem PySem.Spec L2
/-! ### an item of a variable that stays -/
theorem RepL.getA {K : RC} {F H : Hp} : ∀ {ds : List D} {xs : List V} {A : List Addr} {i : Nat} {d : D}, RepL K F H ds xs A → ds[i]? = some d → ∃ x B, xs[i]? = some x ∧ Rep K F H d x B
  | [], _, _, _, _, _, e => by simp at e
  | d :: ds, xs, A, i, d', r, e => by
    obtain ⟨v, ws, B, C, rfl, eA, r1, r2⟩ := r
    cases i with
    | zero =>
      have : d = d' := by simpa using e
      subst this
      exact ⟨v, B, rfl, r1⟩
    | succ i =>
      obtain ⟨x, B', h1, h2⟩ := RepL.getA (i := i) r2 (by simpa using e)
      exact ⟨x, B', by simpa using h1, h2⟩
section
variable {K : RC} {fr : Fr} {ρ : Env} {σ : L2.St} {H : Hp}
theorem Sim.pushB {i : Nat} {d : D} {x : V} (S : Sim K fr ρ σ H) {A : List Addr} (T : SimA K fr ρ σ H A) (r : Rep K (hid (A ++ fr.N) H) H d x []) : Sim K fr (some d :: ρ) (some x :: σ) H :=
  ⟨A, T.next (fun a z => .inl z) T.nd (fun a o _ e => e) ⟨some x, σ, [], A, rfl, rfl, ⟨x, rfl, r⟩, T.sl⟩⟩
theorem Sim.look {i j : Nat} {d e : D} {ds : List D} (S : Sim K fr ρ σ H) (h : ρ[i]? = some (some d)) (hi : items d = some ds) (hj : ds[j]? = some e) (hf : fro e = true) :
    ∃ p xs v, σ[i]? = some (some (.ref p)) ∧ (if isL d = true then SqL K.K H p xs else SqT K.K H p xs) ∧ xs.length = ds.length ∧ xs[j]? = some v ∧ Sim K fr (some e :: ρ) (some v :: σ) H := by
  obtain ⟨A, T⟩ := id S
  obtain ⟨s, A1, B, A2, e1, eA, ⟨v, rfl, r⟩, _⟩ := T.sl.at h
  have hH : ∀ a o, hid (A ++ fr.N) H a = some o → H a = some o := fun a o e => (hid_some.mp e).2
  have go : ∀ xs B', RepL K (hid (A ++ fr.N) H) H ds xs B' → ∃ v, xs[j]? = some v ∧ Sim K fr (some e :: ρ) (some v :: σ) H := fun xs B' r => by
    obtain ⟨x, B'', h1, h2⟩ := r.getA hj
    have := fro_rep hf h2
    subst this
    exact ⟨x, h1, S.pushB (i := i) T h2⟩
  cases d with
  | tup es =>
    cases hi
    obtain ⟨_, a, xs, rfl, s, r⟩ := r
    obtain ⟨x, h1, h2⟩ := go xs _ r
    exact ⟨a, xs, x, e1, SqT.mono hH s, r.len, h1, h2⟩
  | lst o es =>
    cases hi
    cases o with
    | false =>
      obtain ⟨_, a, xs, rfl, s, r⟩ := r
      obtain ⟨x, h1, h2⟩ := go xs _ r
      exact ⟨a, xs, x, e1, SqL.of (hH _ _ s), r.len, h1, h2⟩
    | true =>
      obtain ⟨a, xs, B1, rfl, _, s, r⟩ := r
      obtain ⟨x, h1, h2⟩ := go xs _ r
      exact ⟨a, xs, x, e1, SqL.of s, r.len, h1, h2⟩
  | scr ns =>
    cases hi
    obtain ⟨_, a, rfl, s⟩ := r
    obtain ⟨x, h1, h2⟩ := go _ _ (rep_ints ns)
    exact ⟨a, _, x, e1, SqL.mono hH s, by simp, h1, h2⟩
  | _ => cases hi
end
def eVix (i : Nat) (fj : M D) : M D := fun ρ => match ρ[i]? with
  | some (some _) => mbind fj (fun y ρ1 => match y with
    | .int j => (match ρ1[i]? with
      | some (some d) => (match (items d).bind fun ds => atI ds j with
        | some e => if fro e = true then .ok e ρ1 else .stuck
        | none => .stuck)
      | _ => .stuck)
    | _ => .stuck) ρ
  | _ => .stuck
section
variable {ι : Type} {X : ι → Cx} {K : RC} {W : WX} {k : Nat} {b : Expr} {fb : M D} {pos : Pos}
theorem Sim.slotV {fr : Fr} {ρ : Env} {σ : L2.St} {H : Hp} {i : Nat} {d : D} (S : Sim K fr ρ σ H) (h : ρ[i]? = some (some d)) : ∃ v, σ[i]? = some (some v) := by
  obtain ⟨v, e, _⟩ := S.move h
  exact ⟨v, e⟩
theorem ed_vix (i : Nat) {x : Str} {p0 : Pos} (c : CF X K W k) (h : ∀ j, PE (X j) (.Name x p0) (tVar i)) (hb : ED X K W b fb) (hs : PlainIx b := by exact fun _ _ => rfl) : ED X K W (.Subscript (.Name x p0) b pos) (eVix i fb) := by
  obtain ⟨tb, pb, sb⟩ := hb.ex
  refine ⟨tOp (rIx K.K) (tVar i) tb, (fun j => pe_ix (by rw [← c.kk j]; exact ix_seq) (h j) (pb j) hs), fun fr ρ σ H Q S q => ?_⟩
  unfold eVix at q
  split at q
  rotate_left
  · exact q.elim
  rename_i d0 e0
  obtain ⟨v0, hv0⟩ := S.slotV e0
  refine ⟨v0, hv0, ?_⟩
  refine sb fr ρ σ H _ S ((QR.bind q).mono fun y ρ1 q1 vy H1 S1 => ?_)
  split at q1
  rotate_left
  · exact q1.elim
  rename_i j
  split at q1
  rotate_left
  · exact q1.elim
  rename_i d e1
  have hy := S1.topF rfl
  subst hy
  cases hit : items d with
  | none => rw [hit] at q1; exact q1.elim
  | some ds =>
    rw [hit] at q1
    simp only [Option.bind_some] at q1
    cases ha : atI ds j with
    | none => rw [ha] at q1; exact q1.elim
    | some e =>
      rw [ha] at q1
      by_cases hf : fro e = true
      · simp only [hf, if_true] at q1
        have hj : ∃ n : Nat, ds[n]? = some e := by
          unfold atI at ha
          cases hn : ixN ds.length j with
          | none => rw [hn] at ha; cases ha
          | some n => rw [hn] at ha; exact ⟨n, ha⟩
        obtain ⟨n, hn, hx⟩ : ∃ n : Nat, ds[n]? = some e ∧ ∀ (α : Type) (xs : List α) (x : α), xs.length = ds.length → xs[n]? = some x → atI xs j = some x := by
          unfold atI at ha ⊢
          cases hn : ixN ds.length j with
          | none => rw [hn] at ha; cases ha
          | some n => rw [hn] at ha; exact ⟨n, ha, fun α xs x hl hx => by rw [hl, hn]; exact hx⟩
        obtain ⟨p, xs, v, h1, h2, h3, h4, S2⟩ := S1.drop.look e1 hit hn hf
        rw [hv0] at h1
        cases h1
        have hL := hx V xs v h3 h4
        by_cases hk : isL d = true
        · rw [if_pos hk] at h2
          exact .inl ⟨p, xs, j, v, rfl, rfl, h2, hL, q1 v H1 S2⟩
        · rw [if_neg hk] at h2
          exact .inr (.inl ⟨p, xs, j, v, rfl, rfl, h2, hL, q1 v H1 S2⟩)
      · simp only [hf] at q1
        exact q1.elim
end
end DL

set_option Elab.async false
set_option linter.all false
set_option maxRecDepth 100000
set_option maxHeartbeats 4000000
namespace DL
open PySem PySem.Spec L2
/-! ### dict displays, constant keys -/
theorem putK_new {k : Key} {v : V} {kvs : List (Key × V)} (h : k ∉ kvs.map Prod.fst) : putK kvs k v = kvs ++ [(k, v)] := by
  unfold putK
  rw [if_neg]
  intro h'
  obtain ⟨kv, h1, h2⟩ := List.any_eq_true.mp h'
  exact h (List.mem_map.mpr ⟨kv, h1, of_decide_eq_true h2⟩)
theorem mergeK_app : ∀ {more kvs : List (Key × V)}, (kvs.map Prod.fst ++ more.map Prod.fst).Nodup → mergeK kvs more = kvs ++ more
  | [], kvs, _ => by rw [List.append_nil]; rfl
  | (k, v) :: r, kvs, h => by
    show mergeK (putK kvs k v) r = _
    have hk : k ∉ kvs.map Prod.fst := fun z => (List.nodup_append.mp h).2.2 k z k List.mem_cons_self rfl
    rw [putK_new hk, mergeK_app (by
      rw [List.map_append, List.append_assoc]
      exact h), List.append_assoc]
    rfl
section
variable {K : RC} {fr : Fr} {ρ : Env} {σ : L2.St} {H : Hp} {ds : List D} {vs : List V} {ks : List Key} {p : Addr}
theorem Sim.newDk (S : Sim K fr ρ σ H) (hp : H p = none) : Sim K fr (some (.dk true [] []) :: ρ) (some (.ref p) :: σ) (upd H p (.dK [])) := by
  obtain ⟨A, S⟩ := S
  have tr := S.sl.tr
  have sub : ∀ a ∈ p :: A, a ∈ A ∨ H a = none := fun a z => by
    rcases List.mem_cons.mp z with z | z
    · subst z; exact .inr hp
    · exact .inl z
  have kp : ∀ a o, H a = some o → upd H p (.dK []) a = some o := fun a o e => by rw [upd_ne (ne_of_none e hp)]; exact e
  have f := S.fro sub (H' := upd H p (.dK [])) fun a o _ e => kp a o e
  exact ⟨p :: A, S.next sub (nodup_cons_fresh S.nd hp tr) (fun a o _ e => kp a o e) ⟨some (.ref p), σ, [p], A, rfl, rfl, ⟨.ref p, rfl, p, [], [], rfl, rfl, upd_same, rfl, rfl, rfl⟩, S.sl.mono f fun a _ o e => kp a o e⟩⟩
theorem zip_fst : ∀ {ks : List Key} {vs : List V}, ks.length = vs.length → (ks.zip vs).map Prod.fst = ks
  | [], [], _ => rfl
  | k :: ks, v :: vs, h => by
    show k :: ((ks.zip vs).map Prod.fst) = _
    rw [zip_fst (by simpa using h)]
theorem zip_snd : ∀ {ks : List Key} {vs : List V}, ks.length = vs.length → (ks.zip vs).map Prod.snd = vs
  | [], [], _ => rfl
  | k :: ks, v :: vs, h => by
    show v :: ((ks.zip vs).map Prod.snd) = _
    rw [zip_snd (by simpa using h)]
theorem Sim.fillD (S : Sim K fr (some (.dk true [] []) :: (ds.map some ++ ρ)) (some (.ref p) :: (vs.map some ++ σ)) H) (hl : vs.length = ds.length) (hk : ks.length = ds.length) : H p = some (.dK []) ∧ Sim K fr (some (.dk true ks ds) :: ρ) (some (.ref p) :: σ) (upd H p (.dK (ks.zip vs))) := by
  obtain ⟨A, S⟩ := S
  obtain ⟨s1, τ1, B1, C1, e1, rfl, ⟨v1, ev, r1⟩, r2⟩ := S.sl
  injection e1 with e1 e2
  subst e1 e2
  cases ev
  obtain ⟨a, kvs, B, ea, rfl, hx, hks, r1⟩ := r1
  cases ea
  have hkv : kvs = [] := by simpa using hks
  subst hkv
  have hB : B = [] := r1.2
  subst hB
  obtain ⟨A1, A2, rfl, q1, q2⟩ := Sl.cut (by simpa using hl) r2
  refine ⟨hx, p :: (A1 ++ A2), ?_⟩
  have sub : ∀ b ∈ p :: (A1 ++ A2), b ∈ p :: [] ++ (A1 ++ A2) ∨ H b = none := fun b z => .inl z
  have nd0 : (p :: (A1 ++ A2)).Nodup := S.nd
  have pn : p ∉ A1 ++ A2 := (List.nodup_cons.mp nd0).1
  have kp : ∀ b o, b ≠ p → H b = some o → upd H p (.dK (ks.zip vs)) b = some o := fun b o n e => by rw [upd_ne n]; exact e
  have kpA : ∀ b o, b ∉ p :: [] ++ (A1 ++ A2) → H b = some o → upd H p (.dK (ks.zip vs)) b = some o := fun b o n e => kp b o (fun z => n (by simp [z])) e
  have f := S.fro sub (H' := upd H p (.dK (ks.zip vs))) kpA
  have ne : ∀ b, b ∈ A1 ++ A2 → b ≠ p := fun b z e => pn (e ▸ z)
  have hlk : ks.length = vs.length := by rw [hk, hl]
  refine S.next sub nd0 kpA ⟨some (.ref p), _, p :: A1, A2, rfl, rfl, ⟨.ref p, rfl, p, ks.zip vs, A1, rfl, rfl, upd_same, zip_fst hlk, ?_⟩, q2.mono f fun b z o e => kp b o (ne b (by simp [z])) e⟩
  rw [zip_snd hlk]
  exact q1.repL.mono f _ _ _ fun b z o e => kp b o (ne b (by simp [z])) e
end
structure PD {ι : Type} (X : ι → Cx) (K : RC) (W : WX) (pos : Pos) (keys : List (Option Expr)) (values : List Expr) (ks : List Key) (f : M (List D)) : Prop where
  ex : ∃ trs, (∀ i, PPs (X i) pos keys values trs) ∧ ∀ fr ρ σ H Q, Sim K fr ρ σ H → QR K W fr σ (f ρ) (fun ds ρ' => ∀ vs H', vs.length = ds.length → ks.length = ds.length → Sim K fr (ds.map some ++ ρ') (vs.map some ++ σ) H' → Q ((ks.zip vs).map fun kv => (kV kv.1, kv.2)) H') → tPairs trs σ H Q
def eDict (ks : List Key) (f : M (List D)) : M D := mbind f fun ds => if ks.Nodup ∧ ks.length ≤ 15 then mret (.dk true ks ds) else mlift none
section
variable {ι : Type} {X : ι → Cx} {K : RC} {W : WX} {k : Nat} {e : Expr} {f : M D} {g : M (List D)} {pos : Pos} {ks : List Key} {keys : List (Option Expr)} {values : List Expr}
theorem pd_nil : PD X K W pos [] [] [] aNil := ⟨[], (fun _ => pps_nil), fun fr ρ σ H Q S q => q [] H rfl rfl S⟩
theorem pd_cons {ke : Expr} {y : Key} (hk : ∀ i, PE (X i) ke (tC (kV y))) (h : ED X K W e f) (hr : PD X K W pos keys values ks g) : PD X K W pos (some ke :: keys) (e :: values) (y :: ks) (aCons f g) := by
  obtain ⟨t, p, s⟩ := h.ex
  obtain ⟨u, p2, s2⟩ := hr.ex
  refine ⟨(tC (kV y), t) :: u, (fun i => pps_cons (hk i) (p i) (p2 i)), fun fr ρ σ H Q S q => ?_⟩
  refine s fr ρ σ H _ S ((QR.bind q).mono fun d ρ1 q1 v H1 S1 => ?_)
  obtain ⟨fr', S', back⟩ := S1.hold
  refine s2 fr' ρ1 σ H1 _ S' (((QR.bind q1).frame fun ρ H s => (back ρ σ H s).drop).mono fun ds ρ2 q2 vs H2 hl hk S2 => ?_)
  exact q2 (v :: vs) H2 (by simp [hl]) (by simp [hk]) (back _ _ H2 S2)
theorem ed_dict0 : ED X K W (.Dict [] [] pos) (eC (.dk true [] [])) := ⟨tDNewK, (fun _ => pe_dnewK), fun fr ρ σ H Q S q p hp => q _ _ (S.newDk hp)⟩
theorem ed_dict {y : Key} {ke : Option Expr} (h : PD X K W pos (ke :: keys) values (y :: ks) g) (hall : (ke :: keys).all (·.isSome) = true := by rfl) (hl : (ke :: keys).length = values.length := by rfl) (h15 : (ke :: keys).length ≤ 15 := by decide) : ED X K W (.Dict (ke :: keys) values pos) (eDict (y :: ks) g) := by
  obtain ⟨u, p, s⟩ := h.ex
  refine ⟨tDisp u, (fun i => pe_disp (p i) hall hl (by intro z; cases z) h15), fun fr ρ σ H Q S q a ha => ?_⟩
  have S1 := S.newDk ha
  obtain ⟨fr', S', back⟩ := S1.hold
  refine s fr' ρ σ _ _ S' (((QR.bind q).frame fun ρ H s => (back ρ σ H s).drop).mono fun ds ρ2 q2 vs H2 hlv hk S2 => ?_)
  by_cases hz : (y :: ks).Nodup ∧ (y :: ks).length ≤ 15
  · rw [if_pos hz] at q2
    obtain ⟨h1, h2⟩ := (back _ _ _ S2).fillD hlv hk
    have hlk : (y :: ks).length = vs.length := by rw [hk, hlv]
    refine ⟨h1, (y :: ks).zip vs, rfl, by rw [List.length_zip, hlk, Nat.min_self, ← hlk]; exact hz.2, ?_⟩
    rw [mergeK_app (kvs := []) (by
      rw [List.map_nil, List.nil_append, zip_fst hlk]
      exact hz.1)]
    exact q2 _ _ h2
  · rw [if_neg hz] at q2
    exact q2.elim
end
def tBor (f : M Bool) : M Bool := fun ρ => match f (ρ.map (Option.map frz)) with
  | .ok b _ => .ok b ρ
  | .exc c fs _ => .exc c fs ρ
  | .stuck => .stuck
def keepsW : True := trivial
theorem CF.w0 {ι : Type} {X : ι → Cx} {K : RC} {W : WX} {k : Nat} (c : CF X K W k) : CF X K W0 k := ⟨c.K, c.calm, c.room, (fun _ => takes0), c.nd⟩
end DL

set_option Elab.async false
set_option linter.all false
set_option maxRecDepth 100000
set_option maxHeartbeats 4000000
namespace DL
open PySem PySem.Spec L2
theorem walk_ofEW {l : PySem.W.OpenLaw} {n k : Nat} {q : Program} {loose : List Str} {XP : (Str → Option Value) → Heap → Prop} {YP : World → Heap → Prop} {d : DefRec} {CX : World → CXT} {x : Str}
    (hn : l.most = some n) (hn2 : n ≤ sizeLine) (hdf : d.params.defaults = []) (hr : Room k callerA)
    (F : ∀ (w : World) (mg : Str → Option Value) (fa : Addr) (h : Heap), YP w h → h.Ns mainGlobals mg → mg d.name = some (.ref fa) →
      ∃ (K : PySem.W.Frag) (fd : FuncData) (sp : Sp), K.In h ∧ (∀ (s : Shared) (u : Value), BindsTo s fd ⟨[u], []⟩ [(x, u)]) ∧
        (∀ (H : Hp) (a : Addr) (ns : List Int), ns.length ≤ n → Only H → SqL K H a (ns.map V.int) → sp [.ref a] H (fun v _ => v = .bl true) fun _ _ _ => False) ∧
        ∀ base : Heap, K.In base → base.Ns mainGlobals mg → FnOk l.prog w K mg base (CX w) k fa fd [x] sp)
    (hCX : ∀ (w : World) (H : Hp) (s : Shared) (e : Value) (s' : Shared), CX w [] H s (fun _ _ _ => False) e s' → False) :
    PySem.W.WalkO q loose XP YP l.row.toRowW d [] (fun f vs => PySem.call f vs) := by
  refine Att.attach_call hn hdf fun w s₀ s₁ mg mb fa o pm cd doc a vs ns G Y ho hd hcd hmg hobj hints hlen hg => ?_
  obtain ⟨K, fd, sp, KX, hb, hsp, hF⟩ := F w mg fa _ Y G.T.g hmg
  exact law_call KX G.T.g G.T.b G.T.builtins G.T.nolimit hg hobj hints (Nat.le_trans hlen hn2) hr hF hb (fun H hO hS => hsp H a ns hlen hO hS) fun H e s' => hCX w H s₁ e s'
theorem cx_no {P : Program} (w : World) (H : Hp) (s : Shared) (e : Value) (s' : Shared) (x : L2.CX P w [] H s (fun _ _ _ => False) e s') : False := by
  obtain ⟨a, B, H', cls, d, _, _, _, _, _, _, _, z⟩ := x
  exact z
end DL

set_option Elab.async false
set_option linter.all false
set_option maxRecDepth 100000
set_option maxHeartbeats 4000000
set_option exponentiation.threshold 9000
namespace DL
open PySem PySem.Spec L2
/-! ## plain evaluation of readings -/
theorem eqv_ii (i j : Int) : PyData.eqv (.int i) (.int j) = (i == j) := by rw [PyData.eqv]
theorem shaped_int (i : Int) : SeqAt.shaped (.int i) = true := by rfl
theorem eqB_int (i j : Int) : eqB (.int i) (.int j) = some (decide (i = j)) := by
  unfold eqB
  simp only [toPy, Option.bind_some, shaped_int, and_self, if_true, eqv_ii]
  by_cases h : i = j <;> simp [h]
theorem lt300 {n b : Nat} (hb : b ≤ 300) (h : n < 2 ^ b) : n < 2 ^ 300 := Nat.lt_of_lt_of_le h (Nat.pow_le_pow_right (by decide) hb)
theorem mulD_ok {i j : Int} (hi : i.natAbs < 2 ^ 300) (hj : j.natAbs < 2 ^ 300) : mulD (.int i) (.int j) = some (.int (i * j)) := by
  have := mulx_ok hi hj (by decide)
  simp [mulD, this]
theorem mulD_ok2 {i j : Int} (hi : -(2 ^ 80 : Int) < i ∧ i < 2 ^ 80) (hj : -(2 ^ 80 : Int) < j ∧ j < 2 ^ 80) : mulD (.int i) (.int j) = some (.int (i * j)) :=
  mulD_ok (lt300 (b := 80) (by decide) (by omega)) (lt300 (b := 80) (by decide) (by omega))
theorem fdivD_ok {i j : Int} (h1 : 0 < j) (h2 : j < 2 ^ 62) : fdivD (.int i) (.int j) = some (.int (i / j)) := by
  have : j.natAbs < 2 ^ 8000 := Nat.lt_trans (show j.natAbs < 2 ^ 62 by omega) (by decide)
  simp [fdivD, ii, h1, this]
theorem modD_ok {i j : Int} (h1 : 0 < j) : modD (.int i) (.int j) = some (.int (i % j)) := by simp [modD, ii, h1]
theorem powD_ok {i j : Int} (h1 : 0 ≤ j) (h2 : j ≤ 1000000) (h3 : i.natAbs < 2 ^ 64) : powD (.int i) (.int j) = some (.int (i ^ j.toNat)) := by simp [powD, ii, h1, h2, h3]
section
variable {α β : Type} {m : M α} {F G : SF} {ρ ρ1 ρ2 ρ3 : DL.Env} {f fa fb fc : M D} {g : M (List D)} {d x y z : D} {ds os : _} {c c2 : M Bool} {i j : Int}
theorem mbind_of {m : M α} {k : α → M β} {a : α} (h : m ρ = .ok a ρ1) : mbind m k ρ = k a ρ1 := by unfold mbind; rw [h]
theorem sE_of {m : M α} {k : α → SF} {a : α} (h : m ρ = .ok a ρ1) : sE m k ρ = k a ρ1 := by unfold sE; rw [h]
theorem e2_ok {op : D → D → Option D} (h1 : fa ρ = .ok x ρ1) (h2 : fb ρ1 = .ok y ρ2) (h3 : op x y = some d) : e2 op fa fb ρ = .ok d ρ2 := by
  unfold e2; rw [mbind_of h1, mbind_of h2, h3]; rfl
theorem e1_ok {op : D → Option D} (h1 : fa ρ = .ok x ρ1) (h3 : op x = some d) : e1 op fa ρ = .ok d ρ1 := by
  unfold e1; rw [mbind_of h1, h3]; rfl
theorem eBi_ok {op : List D → Option D} {ds : List D} (h1 : g ρ = .ok ds ρ1) (h3 : op ds = some d) : eBi op g ρ = .ok d ρ1 := by
  unfold eBi; rw [mbind_of h1, h3]; rfl
theorem aCons_ok {ds : List D} (h1 : f ρ = .ok d ρ1) (h2 : g ρ1 = .ok ds ρ2) : aCons f g ρ = .ok (d :: ds) ρ2 := by
  unfold aCons; rw [mbind_of h1, mbind_of h2]; rfl
theorem eFrz_ok (h1 : f ρ = .ok d ρ1) : eFrz f ρ = .ok (frz d) ρ1 := by
  unfold eFrz; rw [mbind_of h1]; rfl
theorem eFrz_int (h1 : f ρ = .ok (.int i) ρ1) : eFrz f ρ = .ok (.int i) ρ1 := eFrz_ok h1
theorem eBor_int (h1 : f (ρ.map (Option.map frz)) = .ok (.int i) ρ1) : eBor f ρ = .ok (.int i) ρ := by
  unfold eBor; rw [h1]; rfl
theorem eBor_bl {b : Bool} (h1 : f (ρ.map (Option.map frz)) = .ok (.bl b) ρ1) : eBor f ρ = .ok (.bl b) ρ := by
  unfold eBor; rw [h1]; rfl
theorem tBor_ok {b : Bool} (h1 : c (ρ.map (Option.map frz)) = .ok b ρ1) : tBor c ρ = .ok b ρ := by
  unfold tBor; rw [h1]
theorem sAsg_ok {k : D → DL.Env → Option DL.Env} (h1 : f ρ = .ok d ρ1) (h2 : k d ρ1 = some ρ2) : sAsg f k ρ = .nx ρ2 := by
  unfold sAsg; rw [sE_of h1]; simp only [h2]
theorem sRet_ok (h1 : f ρ = .ok d ρ1) : sRet f ρ = .ret d ρ1 := by
  unfold sRet; rw [sE_of h1]
theorem sDrop_ok (h1 : f ρ = .ok d ρ1) : sDrop f ρ = .nx ρ1 := by
  unfold sDrop; rw [sE_of h1]
theorem sIf_t (h1 : c ρ = .ok true ρ1) : sIf c F G ρ = F ρ1 := by
  unfold sIf; rw [sE_of h1]; rfl
theorem sIf_f (h1 : c ρ = .ok false ρ1) : sIf c F G ρ = G ρ1 := by
  unfold sIf; rw [sE_of h1]; rfl
theorem seq_nx (h : F ρ = .nx ρ1) : sSeq F G ρ = G ρ1 := by unfold sSeq; rw [h]
theorem seq_ret (h : F ρ = .ret d ρ1) : sSeq F G ρ = .ret d ρ1 := by unfold sSeq; rw [h]
theorem seq_exc {cn : Str} {fs : List (Str × D)} (h : F ρ = .exc cn fs ρ1) : sSeq F G ρ = .exc cn fs ρ1 := by unfold sSeq; rw [h]
theorem eCall_ok {Fn : List D → Res D} {dfl : List D} {rs : List (Nat × Nat)} {ds : List D} {os : DL.Env} (h1 : g ρ = .ok ds ρ1) (h2 : Fn (ds ++ dfl) = .ok d os) : eCall Fn g dfl rs ρ = .ok d (restore rs os ρ1) := by
  unfold eCall; rw [mbind_of h1, h2]
theorem eCall_exc {Fn : List D → Res D} {dfl : List D} {rs : List (Nat × Nat)} {ds : List D} {os : DL.Env} {cn : Str} {fs : List (Str × D)} (h1 : g ρ = .ok ds ρ1) (h2 : Fn (ds ++ dfl) = .exc cn fs os) : eCall Fn g dfl rs ρ = .exc cn fs (restore rs os ρ1) := by
  unfold eCall; rw [mbind_of h1, h2]
theorem eCall_of {Fn : List D → Res D} {dfl : List D} {rs : List (Nat × Nat)} {ds es : List D} {os : DL.Env} (h1 : g ρ = .ok ds ρ1) (hd : ds ++ dfl = es) (h2 : Fn es = .ok d os) (h3 : restore rs os ρ1 = ρ2) : eCall Fn g dfl rs ρ = .ok d ρ2 := by subst hd h3; exact eCall_ok h1 h2
theorem eCall_xof {Fn : List D → Res D} {dfl : List D} {rs : List (Nat × Nat)} {ds es : List D} {os : DL.Env} {cn : Str} {fs : List (Str × D)} (h1 : g ρ = .ok ds ρ1) (hd : ds ++ dfl = es) (h2 : Fn es = .exc cn fs os) (h3 : restore rs os ρ1 = ρ2) : eCall Fn g dfl rs ρ = .exc cn fs ρ2 := by subst hd h3; exact eCall_exc h1 h2
theorem run_ok {pr : List Nat} {n L : Nat} {b : SF} {ds : List D} {os ρ0 : DL.Env} (h : b ρ0 = .ret d ρ) (h0 : ds.map some ++ List.replicate (L - ds.length) none = ρ0) (hl : n ≤ ρ.length) (ho : outs pr n ρ = os) : runS pr n L b ds = .ok d os := by
  subst h0 ho
  unfold runS; rw [h]; exact if_pos hl
theorem run_nx {pr : List Nat} {n L : Nat} {b : SF} {ds : List D} {os ρ0 : DL.Env} (h : b ρ0 = .nx ρ) (h0 : ds.map some ++ List.replicate (L - ds.length) none = ρ0) (hl : n ≤ ρ.length) (ho : outs pr n ρ = os) : runS pr n L b ds = .ok .non os := by
  subst h0 ho
  unfold runS; rw [h]; exact if_pos hl
theorem run_exc {pr : List Nat} {n L : Nat} {b : SF} {ds : List D} {os ρ0 : DL.Env} {cn : Str} {fs : List (Str × D)} (h : b ρ0 = .exc cn fs ρ) (h0 : ds.map some ++ List.replicate (L - ds.length) none = ρ0) (hl : n ≤ ρ.length) (ho : outs pr n ρ = os) : runS pr n L b ds = .exc cn fs os := by
  subst h0 ho
  unfold runS; rw [h]; exact if_pos hl
theorem eFrz_exc {cn : Str} {fs : List (Str × D)} (h1 : f ρ = .exc cn fs ρ1) : eFrz f ρ = .exc cn fs ρ1 := by unfold eFrz mbind; rw [h1]
theorem sAsg_exc {k : D → DL.Env → Option DL.Env} {cn : Str} {fs : List (Str × D)} (h1 : f ρ = .exc cn fs ρ1) : sAsg f k ρ = .exc cn fs ρ1 := by unfold sAsg sE; rw [h1]
theorem sTry_exc {m : Str → Option Bool} {i : Nat} {G : Str → List (Str × D) → Addr → SF} {cn : Str} {fs : List (Str × D)} {r : RS} (h : F ρ = .exc cn fs ρ1) (hm : m cn = some true) (hi : i < ρ1.length) (hs : ∀ a, clr i (G cn fs a (ρ1.set i (some (.adr a)))) = r) : sTryAs F m i G ρ = r := by
  unfold sTryAs; rw [h]; simp only [hm, hi, if_true]; exact suite_eq hs
theorem sTry_nx {m : Str → Option Bool} {i : Nat} {G : Str → List (Str × D) → Addr → SF} (h : F ρ = .nx ρ1) : sTryAs F m i G ρ = .nx ρ1 := by
  unfold sTryAs; rw [h]
theorem sTry_ret {m : Str → Option Bool} {i : Nat} {G : Str → List (Str × D) → Addr → SF} (h : F ρ = .ret d ρ1) : sTryAs F m i G ρ = .ret d ρ1 := by
  unfold sTryAs; rw [h]
theorem eIsE_ok {a : Addr} {b : Bool} (h : f ρ = .ok (.adr a) ρ1) : eIsE a (some b) f ρ = .ok (.bl b) ρ1 := by
  unfold eIsE; simp only [mbind_of h, if_true]; rfl
theorem len_scr (ns : List Int) : lenD [.scr ns] = some (.int ns.length) := by simp [lenD, items]
theorem ix_scr {ns : List Int} {k : Int} (h0 : 0 ≤ k) (h1 : k < ns.length) : ∃ x, ixD (.scr ns) (.int k) = some (.int x) := by
  have hk : k.toNat < ns.length := by omega
  refine ⟨ns[k.toNat], ?_⟩
  simp [ixD, items, atI, ixN, h0, h1, hk]
theorem map_mem {α β : Type} {l : List α} {f g : α → β} (h : l.map f = l.map g) : ∀ a ∈ l, f a = g a := List.map_inj_left.mp h
theorem eB_ok {b : Bool} (h1 : f ρ = .ok (.bl b) ρ1) : eB f ρ = .ok b ρ1 := by
  unfold eB; rw [mbind_of h1]; rfl
theorem mAnd_t {b : Bool} (h1 : c ρ = .ok true ρ1) (h2 : c2 ρ1 = .ok b ρ2) : mAnd c c2 ρ = .ok b ρ2 := by
  unfold mAnd; rw [mbind_of h1, if_pos rfl, h2]
theorem mAnd_f (h1 : c ρ = .ok false ρ1) : mAnd c c2 ρ = .ok false ρ1 := by
  unfold mAnd; rw [mbind_of h1]; rfl
theorem mOr_f {b : Bool} (h1 : c ρ = .ok false ρ1) (h2 : c2 ρ1 = .ok b ρ2) : mOr c c2 ρ = .ok b ρ2 := by
  unfold mOr; rw [mbind_of h1, if_neg Bool.false_ne_true, h2]
theorem mOr_t (h1 : c ρ = .ok true ρ1) : mOr c c2 ρ = .ok true ρ1 := by
  unfold mOr; rw [mbind_of h1]; rfl
theorem mNot_ok {b : Bool} (h1 : c ρ = .ok b ρ1) : mNot c ρ = .ok (!b) ρ1 := by
  unfold mNot; rw [mbind_of h1]; rfl
theorem eAnd_t (h1 : fa ρ = .ok (.bl true) ρ1) (h2 : fb ρ1 = .ok d ρ2) : eAnd fa fb ρ = .ok d ρ2 := by
  unfold eAnd; rw [mbind_of h1]; exact h2
theorem eAnd_f (h1 : fa ρ = .ok (.bl false) ρ1) : eAnd fa fb ρ = .ok (.bl false) ρ1 := by
  unfold eAnd; rw [mbind_of h1]; rfl
theorem eOr_f (h1 : fa ρ = .ok (.bl false) ρ1) (h2 : fb ρ1 = .ok d ρ2) : eOr fa fb ρ = .ok d ρ2 := by
  unfold eOr; rw [mbind_of h1]; exact h2
theorem eOr_t (h1 : fa ρ = .ok (.bl true) ρ1) : eOr fa fb ρ = .ok (.bl true) ρ1 := by
  unfold eOr; rw [mbind_of h1]; rfl
theorem eNot_ok {b : Bool} (h1 : fa ρ = .ok (.bl b) ρ1) : eNot fa ρ = .ok (.bl !b) ρ1 := by
  unfold eNot; rw [mbind_of h1]; rfl
theorem eIf_t (h1 : c ρ = .ok true ρ1) (h2 : fa ρ1 = .ok d ρ2) : eIf c fa fb ρ = .ok d ρ2 := by
  unfold eIf; rw [mbind_of h1, if_pos rfl, h2]
theorem eIf_f (h1 : c ρ = .ok false ρ1) (h2 : fb ρ1 = .ok d ρ2) : eIf c fa fb ρ = .ok d ρ2 := by
  unfold eIf; rw [mbind_of h1, if_neg Bool.false_ne_true, h2]
theorem eTup_ok {ds : List D} (h1 : g ρ = .ok ds ρ1) (h : ds.length ≤ 1000) : eTup g ρ = .ok (.tup (frzL ds)) ρ1 := by
  unfold eTup; rw [mbind_of h1, if_pos (Nat.le_trans h (by rw [sizeLine_eq]; decide))]; rfl
theorem eLst_ok {ds : List D} (h1 : g ρ = .ok ds ρ1) (h : ds.length ≤ 1000) : eLst g ρ = .ok (.lst true ds) ρ1 := by
  unfold eLst; rw [mbind_of h1, if_pos (Nat.le_trans h (by rw [sizeLine_eq]; decide))]; rfl
theorem eInst_ok {T : Ty} {b : Bool} (h1 : f ρ = .ok d ρ1) (h : instB T d = some b) : eInst T f ρ = .ok (.bl b) ρ1 := by
  unfold eInst; rw [mbind_of h1, h]; rfl
theorem add_ok (h1 : fa ρ = .ok (.int i) ρ1) (h2 : fb ρ1 = .ok (.int j) ρ2) : e2 addD fa fb ρ = .ok (.int (i + j)) ρ2 := e2_ok h1 h2 rfl
theorem sub_ok (h1 : fa ρ = .ok (.int i) ρ1) (h2 : fb ρ1 = .ok (.int j) ρ2) : e2 subD fa fb ρ = .ok (.int (i - j)) ρ2 := e2_ok h1 h2 rfl
theorem mul_ok {k : Int} (h1 : fa ρ = .ok (.int i) ρ1) (h2 : fb ρ1 = .ok (.int j) ρ2) (h3 : mulD (.int i) (.int j) = some (.int k)) : e2 mulD fa fb ρ = .ok (.int k) ρ2 := e2_ok h1 h2 h3
theorem mod_ok {k : Int} (h1 : fa ρ = .ok (.int i) ρ1) (h2 : fb ρ1 = .ok (.int j) ρ2) (h3 : modD (.int i) (.int j) = some (.int k)) : e2 modD fa fb ρ = .ok (.int k) ρ2 := e2_ok h1 h2 h3
theorem fdiv_ok {k : Int} (h1 : fa ρ = .ok (.int i) ρ1) (h2 : fb ρ1 = .ok (.int j) ρ2) (h3 : fdivD (.int i) (.int j) = some (.int k)) : e2 fdivD fa fb ρ = .ok (.int k) ρ2 := e2_ok h1 h2 h3
theorem ix_int (h1 : fa ρ = .ok x ρ1) (h2 : fb ρ1 = .ok y ρ2) (h3 : ixD x y = some (.int i)) : e2 ixD fa fb ρ = .ok (.int i) ρ2 := e2_ok h1 h2 h3
theorem int_ok (h1 : g ρ = .ok [.int i] ρ1) : eBi intD g ρ = .ok (.int i) ρ1 := eBi_ok h1 rfl
/-! tests of ints -/
theorem lt_ok (h1 : fa ρ = .ok (.int i) ρ1) (h2 : fb ρ1 = .ok (.int j) ρ2) {b : Bool} (h : decide (i < j) = b) : e2 ltD fa fb ρ = .ok (.bl b) ρ2 := e2_ok h1 h2 (by rw [← h]; rfl)
theorem gt_ok (h1 : fa ρ = .ok (.int i) ρ1) (h2 : fb ρ1 = .ok (.int j) ρ2) {b : Bool} (h : decide (j < i) = b) : e2 gtD fa fb ρ = .ok (.bl b) ρ2 := e2_ok h1 h2 (by rw [← h]; rfl)
theorem le_ok (h1 : fa ρ = .ok (.int i) ρ1) (h2 : fb ρ1 = .ok (.int j) ρ2) {b : Bool} (h : decide (i ≤ j) = b) : e2 lebD fa fb ρ = .ok (.bl b) ρ2 := e2_ok h1 h2 (by rw [← h]; rfl)
theorem ge_ok (h1 : fa ρ = .ok (.int i) ρ1) (h2 : fb ρ1 = .ok (.int j) ρ2) {b : Bool} (h : decide (j ≤ i) = b) : e2 geD fa fb ρ = .ok (.bl b) ρ2 := e2_ok h1 h2 (by rw [← h]; rfl)
theorem eqi_ok (h1 : fa ρ = .ok (.int i) ρ1) (h2 : fb ρ1 = .ok (.int j) ρ2) {b : Bool} (h : decide (i = j) = b) : e2 eqD fa fb ρ = .ok (.bl b) ρ2 := e2_ok h1 h2 (by unfold eqD; rw [eqB_int, ← h]; rfl)
theorem nei_ok (h1 : fa ρ = .ok (.int i) ρ1) (h2 : fb ρ1 = .ok (.int j) ρ2) {b : Bool} (h : (!decide (i = j)) = b) : e2 neD fa fb ρ = .ok (.bl b) ρ2 := e2_ok h1 h2 (by unfold neD; rw [eqB_int, ← h]; rfl)
/-- a range of tests a <= x <= b -/
theorem chain_ok {k l : Int} (h1 : fa ρ = .ok (.int i) ρ1) (h2 : fb ρ1 = .ok (.int j) ρ2) (h3 : fc ρ2 = .ok (.int k) ρ3) (hp : ρ3 = ρ2) {b : Bool} (h : decide (i ≤ j ∧ j ≤ k) = b) : eChain lebD lebD fa fb fc ρ = .ok (.bl b) ρ2 := by
  subst hp
  unfold eChain
  rw [mbind_of h1, mbind_of h2]
  by_cases c1 : i ≤ j
  · have e : lebD (.int i) (.int j) = some (.bl true) := by simp [lebD, ii, c1]
    rw [e]
    show mbind fc (fun z => mlift (lebD (.int j) z)) _ = _
    rw [mbind_of h3, ← h]
    simp [lebD, ii, mlift, c1]
  · have e : lebD (.int i) (.int j) = some (.bl false) := by simp [lebD, ii, c1]
    rw [e, ← h]
    simp [mbind, mlift, isB, mret, c1]
theorem forGo_inv {k : D → DL.Env → Option DL.Env} {b : SF} (I : DL.Env → Prop) : ∀ (ds : List D) (ρ : DL.Env), (∀ d ∈ ds, ∀ ρ, I ρ → ∃ ρ1 ρ2, k d ρ = some ρ1 ∧ b ρ1 = .nx ρ2 ∧ I ρ2) → I ρ → ∃ ρ', forGo k b ds ρ = .nx ρ' ∧ I ρ'
  | [], ρ, _, hI => ⟨ρ, rfl, hI⟩
  | d :: ds, ρ, h, hI => by
    obtain ⟨ρ1, ρ2, e1, e2, hI2⟩ := h d List.mem_cons_self ρ hI
    obtain ⟨ρ', e3, hI3⟩ := forGo_inv I ds ρ2 (fun d hd => h d (List.mem_cons_of_mem _ hd)) hI2
    refine ⟨ρ', ?_, hI3⟩
    unfold forGo
    simp only [e1, e2, e3]
theorem sFor_inv {fi : M (List D)} {k : D → DL.Env → Option DL.Env} {b : SF} {ds : List D} (I : DL.Env → Prop) (h1 : fi ρ = .ok ds ρ1) (h0 : I ρ1) (h : ∀ d ∈ ds, ∀ ρ, I ρ → ∃ ρ1 ρ2, k d ρ = some ρ1 ∧ b ρ1 = .nx ρ2 ∧ I ρ2) : ∃ ρ', sFor fi k b ρ = .nx ρ' ∧ I ρ' := by
  unfold sFor
  rw [sE_of h1]
  exact forGo_inv I ds ρ1 h h0
theorem for_then {fi : M (List D)} {k : D → DL.Env → Option DL.Env} {b : SF} {ds : List D} (I : DL.Env → Prop) (h1 : fi ρ = .ok ds ρ1) (h0 : I ρ1) (h : ∀ d ∈ ds, ∀ ρ, I ρ → ∃ ρ1 ρ2, k d ρ = some ρ1 ∧ b ρ1 = .nx ρ2 ∧ I ρ2) (h2 : ∀ ρ', I ρ' → ∃ ρ2, G ρ' = .ret d ρ2 ∧ I ρ2) : ∃ ρ2, sSeq (sFor fi k b) G ρ = .ret d ρ2 ∧ I ρ2 := by
  obtain ⟨ρ', e, hI⟩ := sFor_inv I h1 h0 h
  obtain ⟨ρ2, e2, hI2⟩ := h2 ρ' hI
  exact ⟨ρ2, (seq_nx e).trans e2, hI2⟩
theorem rgD_mem {a b : Int} {d : D} (h : d ∈ rgD a b) : ∃ i : Int, d = .int i ∧ a ≤ i ∧ i < b := by
  unfold rgD at h
  obtain ⟨n, hn, rfl⟩ := List.mem_map.mp h
  have := List.mem_range.mp hn
  exact ⟨_, rfl, by omega, by omega⟩
end
end DL

set_option Elab.async false
set_option linter.all false
set_option maxRecDepth 100000
set_option maxHeartbeats 4000000
namespace DL
open PySem PySem.Spec L2
section
variable {K : RC} {fr : Fr} {ρ : DL.Env} {σ : L2.St} {H : Hp}
theorem Sim.frzN : ∀ {ds : List D} {vs : List V} {ρ : DL.Env} {fr : Fr}, vs.length = ds.length → Sim K fr (ds.map some ++ ρ) (vs.map some ++ σ) H → Sim K fr ((frzL ds).map some ++ ρ) (vs.map some ++ σ) H
  | [], [], ρ, fr, _, S => S
  | d :: ds, v :: vs, ρ, fr, hl, S => by
    have S1 : Sim K fr (some d :: (ds.map some ++ ρ)) (some v :: (vs.map some ++ σ)) H := S
    obtain ⟨fr', S2, back⟩ := S1.frz.hold
    exact back _ _ _ (Sim.frzN (by simpa using hl) S2)
theorem repL_frz {F H : Hp} : ∀ {ds : List D} {vs : List V} {A : List Addr}, RepL K F H (frzL ds) vs A → A = []
  | [], vs, A, r => r.2
  | d :: ds, vs, A, r => by
    obtain ⟨v, ws, B, C, rfl, rfl, r1, r2⟩ := r
    rw [fro_rep (fro_frz d) r1, repL_frz r2]
    rfl
theorem Sim.holdFL {ds : List D} {vs : List V} (hl : vs.length = ds.length) (S0 : Sim K fr (ds.map some ++ ρ) (vs.map some ++ σ) H) : ∃ fr', Sim K fr' ρ σ H ∧ RepL K (VF fr') H (frzL ds) vs [] ∧ ∀ ρ' σ' H', Sim K fr' ρ' σ' H' → Sim K fr ρ' σ' H' := by
  obtain ⟨A, S⟩ := S0.frzN hl
  obtain ⟨A1, C, rfl, q1, r2⟩ := Sl.cut (by simp [hl, frzL_len]) S.sl
  have r1 := q1.repL
  have := repL_frz r1
  subst this
  refine ⟨⟨hid C H, fr.N⟩, ⟨C, r2, S.nd, fun a z => ⟨(S.off a z).1, by show hid C H a = none; unfold hid; rw [if_pos z]⟩, fun a o e => (hid_some.mp e).2, fun a z => ?_⟩, ?_, ?_⟩
  · obtain ⟨o, e⟩ := S.tr a z
    exact ⟨o, hid_some.mpr ⟨fun w => (S.off a w).1 z, S.keep a o e⟩⟩
  · refine RepL.mono (fun a o e => ?_) _ _ [] (fun _ z => nomatch z) r1
    obtain ⟨n, e⟩ := hid_some.mp e
    exact hid_some.mpr ⟨fun z => n (List.mem_append_right _ z), hid_some.mpr ⟨fun z => n (List.mem_append_left _ z), e⟩⟩
  · rintro ρ' σ' H' ⟨A', U⟩
    refine ⟨A', U.sl, U.nd, fun a z => ⟨(U.off a z).1, ?_⟩, fun a o e => ?_, S.tr⟩
    · cases g : fr.G a with
      | none => rfl
      | some o =>
        have q : hid C H a = none := (U.off a z).2
        have nC : a ∉ C := fun w => by rw [(S.off a w).2] at g; cases g
        rw [show hid C H a = some o from hid_some.mpr ⟨nC, S.keep a o g⟩] at q
        cases q
    · have nC : a ∉ C := fun w => by rw [(S.off a w).2] at e; cases e
      exact U.keep a o (hid_some.mpr ⟨nC, S.keep a o e⟩)
/-! ### reversed -/
theorem yields_revL {ds : List D} {xs : List V} {H0 : Hp} {a : Addr} (hs : SqL K.K (VF fr) a xs) (r : RepL K (VF fr) H0 ds xs []) : Yields K (Itv K.K a xs.length) fr ds.reverse where
  go := fun i H ρ σ S hi => by
    have hl := r.len
    rw [List.length_reverse] at hi
    refine ⟨by omega, xs, xs[xs.length - 1 - i]'(by omega), SqL.mono S.vfH hs, List.getElem?_eq_getElem _⟩
  stop := fun i H ρ σ S hi => by
    have hl := r.len
    rw [List.length_reverse] at hi
    show xs.length ≤ i
    omega
  yld := fun i H x H' ρ σ d S e hy => by
    obtain ⟨rfl, h⟩ := hy
    have hl := r.len
    have hi : i < ds.reverse.length := (List.getElem?_eq_some_iff.mp e).1
    rw [List.length_reverse] at hi
    rw [List.getElem?_reverse hi, ← hl] at e
    obtain ⟨x', hx, q⟩ := r.get e
    have := h xs (SqL.mono S.vfH hs)
    rw [hx] at this
    cases this
    exact S.pushG q
theorem yields_revT {ds : List D} {xs : List V} {H0 : Hp} {a : Addr} (hs : SqT K.K (VF fr) a xs) (r : RepL K (VF fr) H0 ds xs []) : Yields K (RT.ItvT K.K a xs.length) fr ds.reverse where
  go := fun i H ρ σ S hi => by
    have hl := r.len
    rw [List.length_reverse] at hi
    refine ⟨by omega, xs, xs[xs.length - 1 - i]'(by omega), SqT.mono S.vfH hs, List.getElem?_eq_getElem _⟩
  stop := fun i H ρ σ S hi => by
    have hl := r.len
    rw [List.length_reverse] at hi
    show xs.length ≤ i
    omega
  yld := fun i H x H' ρ σ d S e hy => by
    obtain ⟨rfl, h⟩ := hy
    have hl := r.len
    have hi : i < ds.reverse.length := (List.getElem?_eq_some_iff.mp e).1
    rw [List.length_reverse] at hi
    rw [List.getElem?_reverse hi, ← hl] at e
    obtain ⟨x', hx, q⟩ := r.get e
    have := h xs (SqT.mono S.vfH hs)
    rw [hx] at this
    cases this
    exact S.pushG q
/-! ### zip of two lists, of two tuples -/
def zipD : List D → List D → List D
  | x :: xs, y :: ys => .tup [x, y] :: zipD xs ys
  | _, _ => []
theorem zipD_get : ∀ {xs ys : List D} {i : Nat} {d : D}, (zipD xs ys)[i]? = some d → ∃ x y, xs[i]? = some x ∧ ys[i]? = some y ∧ d = .tup [x, y]
  | [], ys, i, d, h => by simp [zipD] at h
  | x :: xs, [], i, d, h => by simp [zipD] at h
  | x :: xs, y :: ys, 0, d, h => by
    have : D.tup [x, y] = d := by simpa [zipD] using h
    exact ⟨x, y, rfl, rfl, this.symm⟩
  | x :: xs, y :: ys, i + 1, d, h => by
    obtain ⟨a, b, h1, h2, h3⟩ := zipD_get (xs := xs) (ys := ys) (i := i) (d := d) (by simpa [zipD] using h)
    exact ⟨a, b, by simpa using h1, by simpa using h2, h3⟩
theorem zipD_len : ∀ xs ys : List D, (zipD xs ys).length = min xs.length ys.length
  | [], ys => by simp [zipD]
  | x :: xs, [] => by simp [zipD]
  | x :: xs, y :: ys => by simp [zipD, zipD_len xs ys]
theorem zip_yld {d1 d2 : D} {x y : V} {T : Addr} {ρ : DL.Env} {σ : L2.St} {H H0 : Hp} (S : Sim K fr ρ σ H) (r1 : Rep K (VF fr) H0 d1 x []) (r2 : Rep K (VF fr) H0 d2 y []) (hT : H T = none) : Sim K fr (some (.tup [d1, d2]) :: ρ) (some (.ref T) :: σ) (upd H T (.tup [x, y])) := by
  have S1 : Sim K fr ([d1, d2].map some ++ ρ) ([x, y].map some ++ σ) H := (S.pushG r2).pushG r1
  have z := S1.newT rfl hT
  have e1 := Rep.frz_id d1 x r1
  have e2 := Rep.frz_id d2 y r2
  rw [show frzL [d1, d2] = [frz d1, frz d2] from rfl, e1, e2] at z
  exact z
theorem yields_zipL {ds es : List D} {xs ys : List V} {H0 : Hp} {a b : Addr} (hs : SqL K.K (VF fr) a xs) (r : RepL K (VF fr) H0 ds xs []) (hs2 : SqL K.K (VF fr) b ys) (r2 : RepL K (VF fr) H0 es ys []) : Yields K (Itz K.K a b) fr (zipD ds es) where
  go := fun i H ρ σ S hi => by
    obtain ⟨x, y, h1, h2, _⟩ := zipD_get (List.getElem?_eq_getElem hi)
    obtain ⟨u, hu, _⟩ := r.get h1
    obtain ⟨v, hv, _⟩ := r2.get h2
    exact ⟨xs, ys, u, v, SqL.mono S.vfH hs, SqL.mono S.vfH hs2, hu, hv⟩
  stop := fun i H ρ σ S hi => by
    rw [zipD_len, ← r.len, ← r2.len] at hi
    exact ⟨xs, ys, SqL.mono S.vfH hs, SqL.mono S.vfH hs2, by omega⟩
  yld := fun i H x H' ρ σ d S e hy => by
    obtain ⟨T, u, v, rfl, hT, rfl, h1, h2⟩ := hy
    obtain ⟨p, q, hp, hq, rfl⟩ := zipD_get e
    obtain ⟨u', hu, ru⟩ := r.get hp
    obtain ⟨v', hv, rv⟩ := r2.get hq
    have e1 := h1 xs (SqL.mono S.vfH hs)
    have e2 := h2 ys (SqL.mono S.vfH hs2)
    rw [hu] at e1
    rw [hv] at e2
    cases e1
    cases e2
    exact zip_yld S ru rv hT
theorem yields_zipT {ds es : List D} {xs ys : List V} {H0 : Hp} {a b : Addr} (hs : SqT K.K (VF fr) a xs) (r : RepL K (VF fr) H0 ds xs []) (hs2 : SqT K.K (VF fr) b ys) (r2 : RepL K (VF fr) H0 es ys []) : Yields K (RZ.ItzT K.K a b) fr (zipD ds es) where
  go := fun i H ρ σ S hi => by
    obtain ⟨x, y, h1, h2, _⟩ := zipD_get (List.getElem?_eq_getElem hi)
    obtain ⟨u, hu, _⟩ := r.get h1
    obtain ⟨v, hv, _⟩ := r2.get h2
    exact ⟨xs, ys, u, v, SqT.mono S.vfH hs, SqT.mono S.vfH hs2, hu, hv⟩
  stop := fun i H ρ σ S hi => by
    rw [zipD_len, ← r.len, ← r2.len] at hi
    exact ⟨xs, ys, SqT.mono S.vfH hs, SqT.mono S.vfH hs2, by omega⟩
  yld := fun i H x H' ρ σ d S e hy => by
    obtain ⟨T, u, v, rfl, hT, rfl, h1, h2⟩ := hy
    obtain ⟨p, q, hp, hq, rfl⟩ := zipD_get e
    obtain ⟨u', hu, ru⟩ := r.get hp
    obtain ⟨v', hv, rv⟩ := r2.get hq
    have e1 := h1 xs (SqT.mono S.vfH hs)
    have e2 := h2 ys (SqT.mono S.vfH hs2)
    rw [hu] at e1
    rw [hv] at e2
    cases e1
    cases e2
    exact zip_yld S ru rv hT
/-! ### enumerate of a list -/
def enumD : Nat → List D → List D
  | _, [] => []
  | n, x :: xs => .tup [.int (n : Nat), x] :: enumD (n + 1) xs
theorem enumD_get : ∀ {xs : List D} {n i : Nat} {d : D}, (enumD n xs)[i]? = some d → ∃ x, xs[i]? = some x ∧ d = .tup [.int ((n + i : Nat) : Int), x]
  | [], n, i, d, h => by simp [enumD] at h
  | x :: xs, n, 0, d, h => by
    have : D.tup [.int (n : Nat), x] = d := by simpa [enumD] using h
    exact ⟨x, rfl, this.symm⟩
  | x :: xs, n, i + 1, d, h => by
    obtain ⟨a, h1, h2⟩ := enumD_get (xs := xs) (n := n + 1) (i := i) (d := d) (by simpa [enumD] using h)
    refine ⟨a, by simpa using h1, ?_⟩
    rw [h2, show n + 1 + i = n + (i + 1) by omega]
theorem enumD_len : ∀ (n : Nat) (xs : List D), (enumD n xs).length = xs.length
  | _, [] => rfl
  | n, x :: xs => by simp [enumD, enumD_len (n + 1) xs]
theorem yields_enum {ds : List D} {xs : List V} {H0 : Hp} {a : Addr} (hs : SqL K.K (VF fr) a xs) (r : RepL K (VF fr) H0 ds xs []) : Yields K (Ite K.K a) fr (enumD 0 ds) where
  go := fun i H ρ σ S hi => by
    obtain ⟨x, h1, _⟩ := enumD_get (List.getElem?_eq_getElem hi)
    obtain ⟨u, hu, _⟩ := r.get h1
    exact ⟨xs, u, SqL.mono S.vfH hs, hu⟩
  stop := fun i H ρ σ S hi => by
    rw [enumD_len, ← r.len] at hi
    exact ⟨xs, SqL.mono S.vfH hs, hi⟩
  yld := fun i H x H' ρ σ d S e hy => by
    obtain ⟨T, u, rfl, hT, rfl, h1⟩ := hy
    obtain ⟨p, hp, rfl⟩ := enumD_get e
    obtain ⟨u', hu, ru⟩ := r.get hp
    have e1 := h1 xs (SqL.mono S.vfH hs)
    rw [hu] at e1
    cases e1
    rw [Nat.zero_add]
    exact zip_yld S (show Rep K (VF fr) H0 (.int ((i : Nat) : Int)) (.int ((i : Nat) : Int)) [] from ⟨rfl, rfl⟩) ru hT
end
/-! ### the walks -/
def iRevD (f : M D) : M (List D) := mbind f fun d => mlift ((seqOf d).map List.reverse)
def zipOf : D → D → Option (List D)
  | .tup xs, .tup ys => some (zipD xs ys)
  | .lst _ xs, .lst _ ys => some (zipD xs ys)
  | _, _ => none
def enumOf : D → Option (List D)
  | .lst _ xs => some (enumD 0 xs)
  | .scr ns => some (enumD 0 (ns.map D.int))
  | _ => none
def zip2 : List D → Option (List D)
  | [x, y] => zipOf (frz x) (frz y)
  | _ => none
def enum1 : List D → Option (List D)
  | [x] => enumOf (frz x)
  | _ => none
theorem zip2_two {ds l : List D} (h : zip2 ds = some l) : ∃ x y, ds = [x, y] ∧ zipOf (frz x) (frz y) = some l := by
  unfold zip2 at h
  split at h
  · exact ⟨_, _, rfl, h⟩
  · cases h
theorem enum1_one {ds l : List D} (h : enum1 ds = some l) : ∃ x, ds = [x] ∧ enumOf (frz x) = some l := by
  unfold enum1 at h
  split at h
  · exact ⟨_, rfl, h⟩
  · cases h
theorem zipOf_cases {x y : D} {l : List D} (h : zipOf x y = some l) : (∃ xs ys, x = .tup xs ∧ y = .tup ys ∧ l = zipD xs ys) ∨ (∃ o xs o2 ys, x = .lst o xs ∧ y = .lst o2 ys ∧ l = zipD xs ys) := by
  unfold zipOf at h
  split at h
  · cases h; exact .inl ⟨_, _, rfl, rfl, rfl⟩
  · cases h; exact .inr ⟨_, _, _, _, rfl, rfl, rfl⟩
  · cases h
theorem enumOf_cases {x : D} {l : List D} (h : enumOf x = some l) : (∃ o xs, x = .lst o xs ∧ l = enumD 0 xs) ∨ (∃ ns, x = .scr ns ∧ l = enumD 0 (ns.map D.int)) := by
  unfold enumOf at h
  split at h
  · cases h; exact .inl ⟨_, _, rfl, rfl⟩
  · cases h; exact .inr ⟨_, rfl, rfl⟩
  · cases h
def iZipD (g : M (List D)) : M (List D) := mbind g fun ds => mlift (zip2 ds)
def iEnumD (g : M (List D)) : M (List D) := mbind g fun ds => mlift (enum1 ds)
section
variable {ι : Type} {X : ι → Cx} {K : RC} {W : WX} {k : Nat} {e a b tg : Expr} {es : List Expr} {f fa fb : M D} {g : M (List D)} {pos : Pos} {pr : List Nat}
theorem id_rev {p : Pos} (c : CF X K W k) (hg : ∀ i, Gl (X i) "reversed") (hm : K.mg "reversed" = none) (h : ED X K W e f) (hs : ∀ i, starEach [e] (X i).env = (false, eval e (X i).env) :: starEach [] (X i).env := by intro _; rfl) : ID X K W tg (.Call (.Name "reversed" p) [e] [] pos) (iRevD f) := by
  obtain ⟨t, pp, s⟩ := h.ex
  refine ⟨RT.iRevA K.K t, (fun i => by rw [← c.kk i]; exact RT.pi_revA (hg i) (by rw [c.mg i]; exact hm) (pp i) (hs i)), fun fr ρ σ H R S q => s fr ρ σ H _ S ((QR.bind q).mono fun d ρ1 q1 v H1 S1 => ?_)⟩
  obtain ⟨ds, e1, q2⟩ := QR.lift q1
  obtain ⟨fr', S2, r, back⟩ := S1.frz.holdF (fro_frz d)
  unfold seqOf at e1
  cases ed : frz d with
  | tup es =>
    rw [ed] at e1 r
    cases e1
    obtain ⟨_, a, xs, rfl, hs, r⟩ := r
    exact ⟨a, xs, rfl, .inr ⟨SqT.mono S2.vfH hs, q2 _ H1 fr' S2 back (yields_revT hs r)⟩⟩
  | lst o es =>
    rw [ed] at e1 r
    cases e1
    cases o with
    | true =>
      have := fro_frz d
      rw [ed] at this
      cases this
    | false =>
      obtain ⟨_, a, xs, rfl, hs, r⟩ := r
      exact ⟨a, xs, rfl, .inl ⟨SqL.mono S2.vfH (SqL.of hs), q2 _ H1 fr' S2 back (yields_revL (SqL.of hs) r)⟩⟩
  | scr ns =>
    rw [ed] at e1 r
    cases e1
    obtain ⟨_, a, rfl, hs⟩ := r
    exact ⟨a, _, rfl, .inl ⟨SqL.mono S2.vfH hs, q2 _ H1 fr' S2 back (yields_revL (H0 := H1) hs (rep_ints ns))⟩⟩
  | _ => rw [ed] at e1; cases e1
theorem id_zip {p tpos : Pos} {elts : List Expr} {kk : Nat} (c : CF X K W k) (hg : ∀ i, Gl (X i) "zip") (hm : K.mg "zip" = none) (ha : AM X K W [a, b] g []) (hs : ∀ i, starEach [a, b] (X i).env = (false, eval a (X i).env) :: starEach [b] (X i).env := by intro _; rfl) (hpl : ∀ i, (backTo pos (starEach [b] (X i).env)).any (·.1) = false := by intro _; rfl) :
    ID X K W (.Tuple elts kk tpos) (.Call (.Name "zip" p) [a, b] [] pos) (iZipD g) := by
  obtain ⟨t, pa, s⟩ := ha.ex
  refine ⟨RZ.iZipA K.K t, (fun i => by rw [← c.kk i]; exact RZ.pi_zipA (hg i) (by rw [c.mg i]; exact hm) (pa i) (hs i) (hpl i)), fun fr ρ σ H R S q => s fr ρ σ H _ S ((QR.bind q).mono fun ds ρ1 q1 vs H1 hl _ S1 => ?_)⟩
  obtain ⟨l, el, q1⟩ := QR.lift q1
  obtain ⟨x, y, rfl, el⟩ := zip2_two el
  match vs, hl with
  | [vx, vy], _ =>
    obtain ⟨fr', S2, r, back⟩ := Sim.holdFL (ds := [x, y]) (vs := [vx, vy]) rfl S1
    obtain ⟨v1, w1, B, C, e1, e2, r1, v2, w2, B2, C2, e3, e4, r2, e5, e6⟩ := r
    cases e1
    cases e3
    have eB := (List.append_eq_nil_iff.mp e2.symm).1
    subst eB
    have eC := (List.append_eq_nil_iff.mp e2.symm).2
    subst eC
    have eB2 := (List.append_eq_nil_iff.mp e4.symm).1
    subst eB2
    rcases zipOf_cases el with ⟨xs, ys, h1, h2, rfl⟩ | ⟨o, xs, o2, ys, h1, h2, rfl⟩
    · rw [h1] at r1
      rw [h2] at r2
      obtain ⟨_, p, us, rfl, hs, rr⟩ := r1
      obtain ⟨_, p2, us2, rfl, hs2, rr2⟩ := r2
      exact ⟨p, p2, us, us2, rfl, .inr ⟨SqT.mono S2.vfH hs, SqT.mono S2.vfH hs2, q1 _ H1 fr' S2 back (yields_zipT hs rr hs2 rr2)⟩⟩
    · rw [h1] at r1
      rw [h2] at r2
      have f1 := fro_frz x
      have f2 := fro_frz y
      rw [h1] at f1
      rw [h2] at f2
      cases o with
      | true => cases f1
      | false =>
        cases o2 with
        | true => cases f2
        | false =>
          obtain ⟨_, p, us, rfl, hs, rr⟩ := r1
          obtain ⟨_, p2, us2, rfl, hs2, rr2⟩ := r2
          exact ⟨p, p2, us, us2, rfl, .inl ⟨SqL.mono S2.vfH (SqL.of hs), SqL.mono S2.vfH (SqL.of hs2), q1 _ H1 fr' S2 back (yields_zipL (SqL.of hs) rr (SqL.of hs2) rr2)⟩⟩
theorem id_enum {p tpos : Pos} {elts : List Expr} {kk : Nat} (c : CF X K W k) (hg : ∀ i, Gl (X i) "enumerate") (hm : K.mg "enumerate" = none) (ha : AM X K W [a] g []) (hs : ∀ i, starEach [a] (X i).env = [(false, eval a (X i).env)] := by intro _; rfl) :
    ID X K W (.Tuple elts kk tpos) (.Call (.Name "enumerate" p) [a] [] pos) (iEnumD g) := by
  obtain ⟨t, pa, s⟩ := ha.ex
  refine ⟨iEnum K.K t, (fun i => by rw [← c.kk i]; exact pi_enum (hg i) (by rw [c.mg i]; exact hm) (pa i) (hs i)), fun fr ρ σ H R S q => s fr ρ σ H _ S ((QR.bind q).mono fun ds ρ1 q1 vs H1 hl _ S1 => ?_)⟩
  obtain ⟨l, el, q1⟩ := QR.lift q1
  obtain ⟨x, rfl, el⟩ := enum1_one el
  obtain ⟨v, rfl⟩ := one_of hl rfl
  have S1 : Sim K fr (some x :: ρ1) (some v :: σ) H1 := S1
  obtain ⟨fr', S2, r, back⟩ := S1.frz.holdF (fro_frz x)
  rcases enumOf_cases el with ⟨o, xs, h1, rfl⟩ | ⟨ns, h1, rfl⟩
  · rw [h1] at r
    have f1 := fro_frz x
    rw [h1] at f1
    cases o with
    | true => cases f1
    | false =>
      obtain ⟨_, p, us, rfl, hs, rr⟩ := r
      exact ⟨p, us, rfl, SqL.mono S2.vfH (SqL.of hs), q1 _ H1 fr' S2 back (yields_enum (SqL.of hs) rr)⟩
  · rw [h1] at r
    obtain ⟨_, p, rfl, hs⟩ := r
    exact ⟨p, _, rfl, SqL.mono S2.vfH hs, q1 _ H1 fr' S2 back (yields_enum (H0 := H1) hs (rep_ints ns))⟩
/-! ### tuple(reversed(x)), x a list -/
def eTupRev (f : M D) : M D := mbind f fun d => match d with
  | .lst _ ds => mret (.tup (frzL ds).reverse)
  | _ => mlift none
theorem frzL_rev (ds : List D) : frzL ds.reverse = (frzL ds).reverse := by
  induction ds with
  | nil => rfl
  | cons d ds ih => rw [List.reverse_cons, frzL_app, ih]; show _ = (frz d :: frzL ds).reverse; rw [List.reverse_cons]; rfl
/-! ### x op= e of ints -/
theorem ip_mulX {X : Cx} : PIp X .Mult (fun x y H Q => ∃ i j, x = .int i ∧ y = .int j ∧ CMulX i j ∧ Q (.int (i * j)) H) := by
  intro pins s σ H x y v u Q I r1 r2 h
  obtain ⟨i, j, e1, e2, hc, q⟩ := h
  subst e1; subst e2
  obtain ⟨t, rfl⟩ := r1
  obtain ⟨t', rfl⟩ := r2
  exact PyProof.Rows.imul_int ⟨.int _, H, I.tok _, ⟨_, rfl⟩, q⟩ hc.ok
def sAug (i : Nat) (F : D → D → Option D) (f : M D) : SF := fun ρ => match ρ[i]? with
  | some (some (.int n)) => sE f (fun y ρ1 => match F (.int n) y with
    | some d => if i < ρ1.length then .nx (ρ1.set i (some d)) else .stuck
    | none => .stuck) ρ
  | _ => .stuck
theorem sd_aug {op : Operator} {ti : TIp} {F : D → D → Option D} {i : Nat} {x : Str} {pos' : Pos} (hN : ∀ j, (X j).N.Nodup) (hi : ∀ j, (X j).N[i]? = some x) (hx : ∀ j, Loc (X j).env.scope x) (hf : ∀ j, (X j).fn x = true ∨ (X j).env.scope.names.lookup x = some .local) (ho : ∀ j, PIp (X j) op ti) (hp : i ∉ pr)
    (hs : ∀ n m d Q H, F (.int n) (.int m) = some d → (∃ w, flat d = some w ∧ Q w H) → ti (.int n) (.int m) H Q) (hI : ∀ n y d, F (.int n) y = some d → ∃ m, y = .int m) (hF : ∀ n m d, F (.int n) (.int m) = some d → (flat d).isSome = true) (h : ED X K W e f) : SD X K W pr (.AugAssign (.Name x pos') op e pos) (sAug i F f) := by
  obtain ⟨t, p, s⟩ := h.ex
  refine ⟨tAug i t ti, (fun j => ps_aug (hN j) (hi j) (hx j) (p j) (ho j) (hf j)), fun fr ρ σ H Dn S q => ?_⟩
  unfold sAug at q
  split at q
  rotate_left
  · exact q.elim
  rename_i n e0
  obtain ⟨v, hv, S0⟩ := S.dup e0 rfl
  have := S0.topF rfl
  subst this
  refine ⟨_, hv, s fr ρ σ H _ S (q.ofE.mono fun y ρ1 q1 vy H1 S1 => ?_)⟩
  cases ey : F (.int n) y with
  | none => rw [ey] at q1; exact q1.elim
  | some d =>
    rw [ey] at q1
    obtain ⟨m, rfl⟩ := hI n y d ey
    have := S1.topF rfl
    subst this
    obtain ⟨w, hw⟩ := Option.isSome_iff_exists.mp (hF n m d ey)
    refine hs n m d _ H1 ey ⟨w, hw, ?_⟩
    by_cases hil : i < ρ1.length
    · simp only [hil, if_true] at q1
      exact q1 _ H1 (KeepS.set hp) ((S1.drop.pushF hw).store hil)
    · simp only [hil, if_false] at q1
      exact q1.elim
end
end DL

set_option Elab.async false
set_option linter.all false
set_option maxRecDepth 100000
set_option maxHeartbeats 4000000
namespace DL
open PySem PySem.Spec L2
theorem RepL.rev {K : RC} {F H : Hp} : ∀ {ds : List D} {vs : List V}, RepL K F H ds vs [] → RepL K F H ds.reverse vs.reverse []
  | [], vs, r => by
    obtain ⟨rfl, _⟩ := r
    exact ⟨rfl, rfl⟩
  | d :: ds, vs, r => by
    obtain ⟨v, ws, B, C, rfl, e, r1, r2⟩ := r
    have e1 := (List.append_eq_nil_iff.mp e.symm).1
    have e2 := (List.append_eq_nil_iff.mp e.symm).2
    subst e1 e2
    rw [List.reverse_cons, List.reverse_cons]
    exact RepL.app (A := []) (B := []) (RepL.rev r2) ⟨v, [], [], [], rfl, rfl, r1, rfl, rfl⟩
section
variable {ι : Type} {X : ι → Cx} {K : RC} {W : WX} {k : Nat} {e : Expr} {f : M D} {pos : Pos} {pr : List Nat}
theorem ed_tupRev {p p2 pos2 : Pos} (c : CF X K W k) (hg : ∀ i, Gl (X i) "tuple") (hm : K.mg "tuple" = none) (hg2 : ∀ i, Gl (X i) "reversed") (hm2 : K.mg "reversed" = none) (h : ED X K W e f) (hs : ∀ i, starEach [e] (X i).env = (false, eval e (X i).env) :: starEach [] (X i).env := by intro _; rfl)
    (hs2 : ∀ i, starEach [.Call (.Name "reversed" p2) [e] [] pos2] (X i).env = (false, eval (.Call (.Name "reversed" p2) [e] [] pos2) (X i).env) :: starEach [] (X i).env := by intro _; rfl) :
    ED X K W (.Call (.Name "tuple" p) [.Call (.Name "reversed" p2) [e] [] pos2] [] pos) (eTupRev f) := by
  obtain ⟨t, pp, s⟩ := h.ex
  refine ⟨RT.tTupRev K.K t, (fun i => by rw [← c.kk i]; exact RT.pe_tupRev (c.calm i) (hg i) (by rw [c.mg i]; exact hm) (hg2 i) (by rw [c.mg i]; exact hm2) (pp i) (hs i) (hs2 i)), fun fr ρ σ H Q S q => s fr ρ σ H _ S ((QR.bind q).mono fun d ρ1 q1 v H1 S1 => ?_)⟩
  cases d with
  | lst o ds =>
    have S2 := S1.frz
    obtain ⟨A, T⟩ := S2
    obtain ⟨s', τ, B, C, e0, rfl, ⟨v', e1, r1⟩, r2⟩ := T.sl
    injection e0 with e2 e3
    subst e2 e3
    cases e1
    obtain ⟨hB, a, xs, rfl, hx, r⟩ := r1
    subst hB
    have hH : H1 a = some (.lst xs) := (hid_some.mp hx).2
    refine ⟨a, xs, rfl, SqL.of hH, fun l hl => q1 _ _ ?_⟩
    have S3 : Sim K fr ((frzL ds).reverse.map some ++ ρ1) (xs.reverse.map some ++ σ) H1 := ⟨C, Sl.app (A1 := []) (r.rev).sl r2, T.nd, T.off, T.keep, T.tr⟩
    have z := S3.newT (by simp [r.len]) hl
    have ef : frzL (frzL ds).reverse = (frzL ds).reverse := by rw [frzL_rev, RepL.frz_id _ _ r]
    rw [ef] at z
    exact z
  | _ => exact q1.elim
theorem sd_augA {i : Nat} {x : Str} {pos' : Pos} (hN : ∀ j, (X j).N.Nodup) (hi : ∀ j, (X j).N[i]? = some x) (hx : ∀ j, Loc (X j).env.scope x) (hf : ∀ j, (X j).fn x = true ∨ (X j).env.scope.names.lookup x = some .local) (hp : i ∉ pr) (h : ED X K W e f) : SD X K W pr (.AugAssign (.Name x pos') .Add e pos) (sAug i (ii (fun _ _ => true) fun i j => .int (i + j)) f) :=
  sd_aug hN hi hx hf (fun _ => ip_add) hp (fun n m d Q H e ⟨w, hw, q⟩ => by cases e; cases hw; exact ⟨n, m, rfl, rfl, q⟩) (fun n y d e => by
    cases y with
    | int m => exact ⟨m, rfl⟩
    | _ => cases e) (fun n m d e => by cases e; rfl) h
theorem sd_augS {i : Nat} {x : Str} {pos' : Pos} (hN : ∀ j, (X j).N.Nodup) (hi : ∀ j, (X j).N[i]? = some x) (hx : ∀ j, Loc (X j).env.scope x) (hf : ∀ j, (X j).fn x = true ∨ (X j).env.scope.names.lookup x = some .local) (hp : i ∉ pr) (h : ED X K W e f) : SD X K W pr (.AugAssign (.Name x pos') .Sub e pos) (sAug i subD f) :=
  sd_aug hN hi hx hf (fun _ => ip_sub) hp (fun n m d Q H e ⟨w, hw, q⟩ => by cases e; cases hw; exact ⟨n, m, rfl, rfl, q⟩) (fun n y d e => by
    cases y with
    | int m => exact ⟨m, rfl⟩
    | _ => cases e) (fun n m d e => by cases e; rfl) h
def mulI : D → D → Option D := ii (fun i j => decide (CMulX i j)) fun i j => .int (i * j)
theorem sd_augM {i : Nat} {x : Str} {pos' : Pos} (hN : ∀ j, (X j).N.Nodup) (hi : ∀ j, (X j).N[i]? = some x) (hx : ∀ j, Loc (X j).env.scope x) (hf : ∀ j, (X j).fn x = true ∨ (X j).env.scope.names.lookup x = some .local) (hp : i ∉ pr) (h : ED X K W e f) : SD X K W pr (.AugAssign (.Name x pos') .Mult e pos) (sAug i mulI f) :=
  sd_aug hN hi hx hf (fun _ => ip_mulX) hp (fun n m d Q H e ⟨w, hw, q⟩ => by
    have e : (if decide (CMulX n m) = true then some (D.int (n * m)) else none) = some d := e
    by_cases hc : CMulX n m
    · rw [if_pos (decide_eq_true hc)] at e
      cases e
      cases hw
      exact ⟨n, m, rfl, rfl, hc, q⟩
    · rw [if_neg (by simp [hc])] at e
      cases e) (fun n y d e => by
    cases y with
    | int m => exact ⟨m, rfl⟩
    | _ => cases e) (fun n m d e => by
    have e : (if decide (CMulX n m) = true then some (D.int (n * m)) else none) = some d := e
    by_cases hc : CMulX n m
    · rw [if_pos (decide_eq_true hc)] at e
      cases e
      rfl
    · rw [if_neg (by simp [hc])] at e
      cases e) h
end
end DL

set_option Elab.async false
set_option linter.all false
set_option maxRecDepth 100000
set_option maxHeartbeats 4000000
namespace DL
open PySem PySem.Spec L2
/-! ### in, not in: a list or a tuple of data -/
def seqP : PyData → Option (List PyData)
  | .list qs => some qs
  | .tuple qs => some qs
  | _ => none
def rInA (K : PySem.W.Frag) (neg : Bool) : R2 := fun x y H Q => ∃ d e ds, Dp K H x d ∧ Dp K H y e ∧ seqP e = some ds ∧ SeqAt.shaped d = true ∧ SeqAt.shaped e = true ∧ Q (.bl (if neg then !(ds.any fun z => PyData.eqv z d) else ds.any fun z => PyData.eqv z d)) H
theorem room_inS {A : Around} {xs : List PyData} {d : PyData} (hd : SeqAt.shaped d = true) (hu : A.units + 65 < cLine) : A.units + 1 + min (PyData.depthAll xs) d.depth < cLine := by
  have h1 := SeqAt.depth_of_shaped hd
  have h2 : min (PyData.depthAll xs) d.depth ≤ d.depth := Nat.min_le_right _ _
  omega
theorem op_inA {X : Cx} (hu : X.A.units + 65 < cLine) : OpR X (compareOp .In) (rInA X.K false) := by
  intro pins s σ H x y v u Q I rx ry h
  obtain ⟨d, e, ds, hd, he, hs, sd, se, q⟩ := h
  obtain ⟨as, r1⟩ := Dp.reads I d x v hd rx
  obtain ⟨bs, r2⟩ := Dp.reads I e y u he ry
  cases e with
  | list qs => cases hs; exact SeqAt.in_list_reads r2 r1 (SeqAt.canLay_of_shaped se) (SeqAt.canLay_of_shaped sd) (room_inS sd hu) ⟨.bl _, H, I, rfl, q⟩
  | tuple qs => cases hs; exact SeqAt.in_tuple_reads r2 r1 (SeqAt.canLay_of_shaped se) (SeqAt.canLay_of_shaped sd) (room_inS sd hu) ⟨.bl _, H, I, rfl, q⟩
  | _ => cases hs
theorem op_ninA {X : Cx} (hu : X.A.units + 65 < cLine) : OpR X (compareOp .NotIn) (rInA X.K true) := by
  intro pins s σ H x y v u Q I rx ry h
  obtain ⟨d, e, ds, hd, he, hs, sd, se, q⟩ := h
  obtain ⟨as, r1⟩ := Dp.reads I d x v hd rx
  obtain ⟨bs, r2⟩ := Dp.reads I e y u he ry
  cases e with
  | list qs => cases hs; exact SeqAt.notIn_list_reads r2 r1 (SeqAt.canLay_of_shaped se) (SeqAt.canLay_of_shaped sd) (room_inS sd hu) ⟨.bl _, H, I, rfl, q⟩
  | tuple qs => cases hs; exact SeqAt.notIn_tuple_reads r2 r1 (SeqAt.canLay_of_shaped se) (SeqAt.canLay_of_shaped sd) (room_inS sd hu) ⟨.bl _, H, I, rfl, q⟩
  | _ => cases hs
def inB (x y : D) : Option Bool := (toPy x).bind fun p => (toPy y).bind fun q => (seqP q).bind fun qs => if SeqAt.shaped p = true ∧ SeqAt.shaped q = true then some (qs.any fun z => PyData.eqv z p) else none
def inD (x y : D) : Option D := (inB x y).map D.bl
def ninD (x y : D) : Option D := (inB x y).map fun b => D.bl !b
theorem inB_some {x y : D} {b : Bool} (h : inB x y = some b) : ∃ p q qs, toPy x = some p ∧ toPy y = some q ∧ seqP q = some qs ∧ SeqAt.shaped p = true ∧ SeqAt.shaped q = true ∧ (qs.any fun z => PyData.eqv z p) = b := by
  unfold inB at h
  cases e1 : toPy x with
  | none => rw [e1] at h; cases h
  | some p =>
    cases e2 : toPy y with
    | none => rw [e1, e2] at h; cases h
    | some q =>
      cases e3 : seqP q with
      | none => rw [e1, e2] at h; simp [e3] at h
      | some qs =>
        rw [e1, e2] at h
        simp only [Option.bind_some, e3] at h
        by_cases hz : SeqAt.shaped p = true ∧ SeqAt.shaped q = true
        · rw [if_pos hz] at h
          exact ⟨p, q, qs, rfl, rfl, e3, hz.1, hz.2, Option.some.inj h⟩
        · rw [if_neg hz] at h
          cases h
section
variable {ι : Type} {X : ι → Cx} {K : RC} {W : WX} {k : Nat} {a b : Expr} {fa fb : M D} {pos : Pos}
theorem ops_in : OpS K (rInA K.K false) inD := by
  intro fr ρ σ H dx dy vx vy d Q S e q
  unfold inD at e
  cases e1 : inB dx dy with
  | none => rw [e1] at e; cases e
  | some b =>
    rw [e1] at e
    cases e
    obtain ⟨p, r, rs, h1, h2, h6, h3, h4, h5⟩ := inB_some e1
    obtain ⟨F1, B1, r1, k1⟩ := S.drop.top
    obtain ⟨F2, B2, r2, k2⟩ := S.top
    refine ⟨p, r, rs, rep_dp k1 _ _ _ _ r1 h1, rep_dp k2 _ _ _ _ r2 h2, h6, h3, h4, ?_⟩
    rw [h5]
    exact q _ H (S.drop.drop.pushF rfl)
theorem ops_nin : OpS K (rInA K.K true) ninD := by
  intro fr ρ σ H dx dy vx vy d Q S e q
  unfold ninD at e
  cases e1 : inB dx dy with
  | none => rw [e1] at e; cases e
  | some b =>
    rw [e1] at e
    cases e
    obtain ⟨p, r, rs, h1, h2, h6, h3, h4, h5⟩ := inB_some e1
    obtain ⟨F1, B1, r1, k1⟩ := S.drop.top
    obtain ⟨F2, B2, r2, k2⟩ := S.top
    refine ⟨p, r, rs, rep_dp k1 _ _ _ _ r1 h1, rep_dp k2 _ _ _ _ r2 h2, h6, h3, h4, ?_⟩
    rw [h5]
    exact q _ H (S.drop.drop.pushF rfl)
theorem CF.inD (c : CF X K W k) (i : ι) : OpR (X i) (compareOp .In) (rInA K.K false) := by rw [← c.kk i]; exact op_inA (by have := (c.room i).un; omega)
theorem CF.ninD (c : CF X K W k) (i : ι) : OpR (X i) (compareOp .NotIn) (rInA K.K true) := by rw [← c.kk i]; exact op_ninA (by have := (c.room i).un; omega)
theorem ed_in (c : CF X K W k) (ha : ED X K W a fa) (hb : ED X K W b fb) (hm : behindInMarks .In b = false := by rfl) : ED X K W (.Compare a [.In] [b] pos) (e2 inD fa fb) := ed_cmp (fun i => c.inD i) ops_in ha hb hm
theorem ed_nin (c : CF X K W k) (ha : ED X K W a fa) (hb : ED X K W b fb) (hm : behindInMarks .NotIn b = false := by rfl) : ED X K W (.Compare a [.NotIn] [b] pos) (e2 ninD fa fb) := ed_cmp (fun i => c.ninD i) ops_nin ha hb hm
theorem td_in (c : CF X K W k) (ha : ED X K W a fa) (hb : ED X K W b fb) (hm : behindInMarks .In b = false := by rfl) : TD X K W (.Compare a [.In] [b] pos) (eB (e2 inD fa fb)) := td_cmp (fun i => c.inD i) ops_in ha hb hm
theorem td_nin (c : CF X K W k) (ha : ED X K W a fa) (hb : ED X K W b fb) (hm : behindInMarks .NotIn b = false := by rfl) : TD X K W (.Compare a [.NotIn] [b] pos) (eB (e2 ninD fa fb)) := td_cmp (fun i => c.ninD i) ops_nin ha hb hm
end
end DL

set_option Elab.async false
set_option linter.all false
set_option maxRecDepth 100000
set_option maxHeartbeats 4000000
namespace DL
open PySem PySem.Spec L2
/-! ### slices of lists and tuples -/
def cutD (ds : List D) (lo hi : Option Int) : List D := (ds.drop (HT.sIx ds.length 0 lo)).take (HT.sIx ds.length ds.length hi - HT.sIx ds.length 0 lo)
def slD (d : D) (lo hi : Option Int) : Option D := match d with
  | .tup ds => some (.tup (cutD ds lo hi))
  | .lst _ ds => some (.lst true (cutD ds lo hi))
  | .scr ns => some (.lst true (cutD (ns.map D.int) lo hi))
  | _ => none
section
variable {K : RC} {fr : Fr} {ρ : DL.Env} {σ : L2.St} {H : Hp} {ds : List D} {vs : List V}
theorem Sim.cutS (S : Sim K fr (ds.map some ++ ρ) (vs.map some ++ σ) H) (hl : vs.length = ds.length) (a b : Nat) : Sim K fr (((ds.drop a).take b).map some ++ ρ) (((vs.drop a).take b).map some ++ σ) H := by
  have S1 : Sim K fr ((ds.take a).map some ++ ((ds.drop a).map some ++ ρ)) ((vs.take a).map some ++ ((vs.drop a).map some ++ σ)) H := by
    rw [← List.append_assoc, ← List.append_assoc, ← List.map_append, ← List.map_append, List.take_append_drop, List.take_append_drop]
    exact S
  have S2 := S1.dropN (by simp [hl])
  have S3 : Sim K fr (((ds.drop a).take b).map some ++ (((ds.drop a).drop b).map some ++ ρ)) (((vs.drop a).take b).map some ++ (((vs.drop a).drop b).map some ++ σ)) H := by
    rw [← List.append_assoc, ← List.append_assoc, ← List.map_append, ← List.map_append, List.take_append_drop, List.take_append_drop]
    exact S2
  obtain ⟨fr', S4, back⟩ := S3.holdN (by simp [hl])
  exact back _ _ _ (S4.dropN (by simp [hl]))
end
structure POD {ι : Type} (X : ι → Cx) (K : RC) (W : WX) (o : Option Expr) (f : M (Option Int)) : Prop where
  ex : ∃ t, (∀ i, PO (X i) o t) ∧ ∀ fr ρ σ H (Q : Option Int → Hp → Prop), Sim K fr ρ σ H → QR K W fr σ (f ρ) (fun p ρ' => ∀ H', Sim K fr ρ' σ H' → Q p H') → t σ H Q
def pNone : M (Option Int) := mret none
def pSome (f : M D) : M (Option Int) := mbind f fun d => mbind (mlift (isI d)) fun i => mret (some i)
def eSl (fa : M D) (fl fu : M (Option Int)) : M D := mbind fa fun x => mbind fl fun l => mbind fu fun u => mlift (slD x l u)
theorem frzL_take (ds : List D) : ∀ n, frzL (ds.take n) = (frzL ds).take n := by
  induction ds with
  | nil => intro n; simp [frzL]
  | cons d ds ih =>
    intro n
    cases n with
    | zero => simp [frzL]
    | succ n => simp [frzL, ih]
theorem frzL_drop (ds : List D) : ∀ n, frzL (ds.drop n) = (frzL ds).drop n := by
  induction ds with
  | nil => intro n; simp [frzL]
  | cons d ds ih =>
    intro n
    cases n with
    | zero => simp
    | succ n => simp [frzL, ih]
section
variable {ι : Type} {X : ι → Cx} {K : RC} {W : WX} {k : Nat} {a b : Expr} {fa fb : M D} {pos p2 : Pos} {lo hi : Option Expr} {fl fu : M (Option Int)}
theorem pod_none : POD X K W none pNone := ⟨tNoPart, (fun _ => po_none), fun fr ρ σ H Q S q => q H S⟩
theorem pod_some (h : ED X K W a fa) : POD X K W (some a) (pSome fa) := by
  obtain ⟨t, p, s⟩ := h.ex
  refine ⟨tPart t, (fun i => po_some (p i)), fun fr ρ σ H Q S q => s fr ρ σ H _ S ((QR.bind q).mono fun d ρ1 q1 v H1 S1 => ?_)⟩
  obtain ⟨n, e, q2⟩ := QR.lift (QR.bind q1)
  have := isI_eq e
  subst this
  exact ⟨n, S1.topF rfl, q2 H1 S1.drop⟩
def rSlAll (K : PySem.W.Frag) : V → Option Int → Option Int → Hp → VK → Prop := fun x lo hi H Q => rSlA K x lo hi H Q ∨ rSlL K x lo hi H Q
theorem sl_all {X : Cx} : SlR X (rSlAll X.K) := SlR.or sl_tupA sl_list
theorem cut_len {xs : List V} {ds : List D} (h : xs.length = ds.length) (l u : Option Int) : cutV xs l u = (xs.drop (HT.sIx ds.length 0 l)).take (HT.sIx ds.length ds.length u - HT.sIx ds.length 0 l) := by
  unfold cutV; rw [h]
theorem sl_sem {fr : Fr} {ρ : DL.Env} {σ : L2.St} {H : Hp} {Q : VK} {x d : D} {v : V} {l u : Option Int} (S : Sim K fr (some x :: ρ) (some v :: σ) H) (e : slD x l u = some d) (q : ∀ v H', Sim K fr (some d :: ρ) (some v :: σ) H' → Q v H') : rSlAll K.K v l u H Q := by
  cases x with
  | tup ds =>
    cases e
    have hf := S.tup_frz
    obtain ⟨a, xs, rfl, h2, h3, _, S1⟩ := S.explode (ds := ds) rfl
    refine .inl ⟨a, xs, rfl, h3, fun hw => ?_, fun _ p hp => ?_⟩
    · have hc : cutD ds l u = ds := by
        unfold cutD
        rw [← h2, hw.1, hw.2, Nat.sub_zero, List.drop_zero, h2, List.take_length]
      rw [hc] at q
      exact q _ H S
    · rw [cut_len h2]
      have z := (S1.cutS h2 (HT.sIx ds.length 0 l) (HT.sIx ds.length ds.length u - HT.sIx ds.length 0 l)).newT (by simp [h2]) hp
      rw [frzL_take, frzL_drop, hf] at z
      exact q _ _ z
  | lst o ds =>
    cases e
    obtain ⟨a, xs, rfl, h2, h3, _, S1⟩ := S.explode (ds := ds) rfl
    refine .inr ⟨a, xs, rfl, h3, fun p hp => ?_⟩
    rw [cut_len h2]
    exact q _ _ ((S1.cutS h2 (HT.sIx ds.length 0 l) (HT.sIx ds.length ds.length u - HT.sIx ds.length 0 l)).newL (by simp [h2]) hp)
  | scr ns =>
    cases e
    obtain ⟨a, xs, rfl, h2, h3, _, S1⟩ := S.explode (ds := ns.map D.int) rfl
    refine .inr ⟨a, xs, rfl, h3, fun p hp => ?_⟩
    rw [cut_len h2]
    exact q _ _ ((S1.cutS h2 (HT.sIx (ns.map D.int).length 0 l) (HT.sIx (ns.map D.int).length (ns.map D.int).length u - HT.sIx (ns.map D.int).length 0 l)).newL (by simp [h2]) hp)
  | _ => cases e
theorem ed_sl (c : CF X K W k) (ha : ED X K W a fa) (hl : POD X K W lo fl) (hu : POD X K W hi fu) : ED X K W (.Subscript a (.Slice lo hi none p2) pos) (eSl fa fl fu) := by
  obtain ⟨ta, pa, sa⟩ := ha.ex
  obtain ⟨tl, pl, sl⟩ := hl.ex
  obtain ⟨tu, pu, su⟩ := hu.ex
  refine ⟨tSl (rSlAll K.K) ta tl tu, (fun i => pe_slice (by rw [← c.kk i]; exact sl_all) (pa i) (pl i) (pu i)), fun fr ρ σ H Q S q => sa fr ρ σ H _ S ((QR.bind q).mono fun x ρ1 q1 v H1 S1 => ?_)⟩
  obtain ⟨fr', S2, back⟩ := S1.hold
  refine sl fr' ρ1 σ H1 _ S2 (((QR.bind q1).frame fun ρ H s => (back ρ σ H s).drop).mono fun l ρ2 q2 H2 S3 => ?_)
  refine su fr' ρ2 σ H2 _ S3 (((QR.bind q2).frame fun ρ H s => (back ρ σ H s).drop).mono fun u ρ3 q3 H3 S4 => ?_)
  obtain ⟨d, e, q4⟩ := QR.lift q3
  exact sl_sem (back _ _ _ S4) e q4
end
end DL

set_option Elab.async false
set_option linter.all false
set_option maxRecDepth 100000
set_option maxHeartbeats 4000000
namespace DL
open PySem PySem.Spec L2
/-! ### a module's tuple of constants -/
theorem rep_flats {K : RC} {F H : Hp} : ∀ {ds : List D} {vs : List V}, ds.map flat = vs.map some → RepL K F H ds vs []
  | [], [], _ => ⟨rfl, rfl⟩
  | [], v :: vs, e => by cases e
  | d :: ds, [], e => by cases e
  | d :: ds, v :: vs, e => by
    have e : flat d :: ds.map flat = some v :: vs.map some := e
    injection e with e1 e2
    exact ⟨v, vs, [], [], rfl, rfl, flat_rep e1, rep_flats e2⟩
section
variable {ι : Type} {X : ι → Cx} {K : RC} {W : WX} {k : Nat} {pos : Pos}
theorem ed_gtup {x : Str} {a : Addr} {ds : List D} {vs : List V} (c : CF X K W k) (hm : K.mg x = some (.ref a)) (ht : ∀ F : Hp, SqT K.K F a vs) (hg : ∀ j, Gl (X j) x) (hv : ds.map flat = vs.map some := by rfl) (hd : (x == ("__debug__" : Str)) = false := by decide) : ED X K W (.Name x pos) (eC (.tup ds)) :=
  ⟨tC (.ref a), (fun j => pe_glob (hg j) (by rw [c.mg j]; exact hm) rfl hd), fun fr ρ σ H Q S q => q _ H (S.pushG (H0 := H) ⟨rfl, a, vs, rfl, ht _, rep_flats hv⟩)⟩
end
end DL

set_option Elab.async false
set_option linter.all false
set_option maxRecDepth 100000
set_option maxHeartbeats 4000000
namespace DL
open PySem PySem.Spec L2
/-! ### x.extend(list), x a list of one's own -/
theorem Sim.appendN {K : RC} {fr : Fr} {ρ : DL.Env} {σ : L2.St} {H : Hp} {ds es : List D} {p : Addr} {zs : List V} (S : Sim K fr (some (.lst true ds) :: (es.map some ++ ρ)) (some (.ref p) :: (zs.map some ++ σ)) H) (hz : zs.length = es.length) :
    ∃ xs, H p = some (.lst xs) ∧ xs.length = ds.length ∧ Sim K fr (some (.lst true (ds ++ es)) :: ρ) (some (.ref p) :: σ) (upd H p (.lst (xs ++ zs))) := by
  obtain ⟨A, S⟩ := S
  obtain ⟨s1, τ1, B1, C1, e1, rfl, ⟨v1, ev, r1⟩, r2⟩ := S.sl
  injection e1 with e1 e2
  subst e1 e2
  cases ev
  obtain ⟨B2, C2, rfl, q1, r4⟩ := Sl.cut (by simp [hz]) r2
  have r3 := q1.repL
  obtain ⟨a, xs, B, ea, rfl, hx, r1⟩ := r1
  cases ea
  refine ⟨xs, hx, r1.len, p :: (B ++ B2) ++ C2, ?_⟩
  have sub : ∀ a ∈ p :: (B ++ B2) ++ C2, a ∈ p :: B ++ (B2 ++ C2) ∨ H a = none := fun a z => .inl (by simpa [List.append_assoc] using z)
  have nd : (p :: (B ++ B2) ++ C2).Nodup := by
    have := S.nd
    simpa [List.append_assoc] using this
  have pn : p ∉ B ++ (B2 ++ C2) := by
    have := S.nd
    rw [List.cons_append] at this
    exact (List.nodup_cons.mp this).1
  have kp : ∀ a o, a ≠ p → H a = some o → upd H p (.lst (xs ++ zs)) a = some o := fun a o n e => by rw [upd_ne n]; exact e
  have kpA : ∀ a o, a ∉ p :: B ++ (B2 ++ C2) → H a = some o → upd H p (.lst (xs ++ zs)) a = some o := fun a o n e => kp a o (fun z => n (by simp [z])) e
  have f := S.fro sub (H' := upd H p (.lst (xs ++ zs))) kpA
  have ne : ∀ a, a ∈ B ++ (B2 ++ C2) → a ≠ p := fun a z e => pn (e ▸ z)
  refine S.next sub nd kpA ⟨some (.ref p), _, p :: (B ++ B2), C2, rfl, rfl, ⟨.ref p, rfl, p, xs ++ zs, B ++ B2, rfl, rfl, upd_same, ?_⟩, r4.mono f fun a z o e => kp a o (ne a (by simp [z])) e⟩
  exact RepL.app (RepL.mono f _ _ _ (fun a z o e => kp a o (ne a (by simp [z])) e) r1) (RepL.mono f _ _ _ (fun a z o e => kp a o (ne a (by simp [z])) e) r3)
def eExt (i : Nat) (f : M D) : M D := fun ρ => match ρ[i]? with
  | some (some (.lst true _)) => mbind f (fun d ρ1 => match d, ρ1[i]? with
    | .lst _ es, some (some (.lst true ds)) => if ds.length + es.length ≤ 1000000 then .ok .non (ρ1.set i (some (.lst true (ds ++ es)))) else .stuck
    | _, _ => .stuck) ρ
  | _ => .stuck
section
variable {ι : Type} {X : ι → Cx} {K : RC} {W : WX} {k : Nat} {e : Expr} {f : M D}
theorem ed_ext (i : Nat) {x : Str} {p0 apos cpos : Pos} (h : ∀ j, PE (X j) (.Name x p0) (tVar i)) (ha : ED X K W e f) (c : CF X K W k)
    (hs : ∀ i, starEach [e] (X i).env = (false, eval e (X i).env) :: starEach [] (X i).env := by intro _; rfl) (hline : (apos.endLine == cpos.line) = true := by rfl)
    (hfew : ∀ i, ((backTo cpos (starEach [e] (X i).env)).all (fun x => !x.1) && (backToKw cpos (keywordEach [] (X i).env)).all (fun x => x.1.isSome) && decide ([e].length + ([] : List Keyword).length + (if ([] : List Keyword).isEmpty then 0 else 1) < 30)) = true := by intro _; rfl) :
    ED X K W (.Call (.Attribute (.Name x p0) "extend" apos) [e] [] cpos) (eExt i f) := by
  obtain ⟨t, pa, s⟩ := ha.ex
  refine ⟨tBM K.K "list" rExtend (tVar i) (tCons t tNil), (fun j => ?_), fun fr ρ σ H Q S q => ?_⟩
  · rw [← c.kk j]
    exact pe_bm PySem.F.plainAttrs_list PySem.F.slot_list_extend PySem.F.type_list_extend mt_extend (h j) (pa_cons (pa j) pa_nil (hs j)) rfl (hfew j) hline (hs j) rfl
  · unfold eExt at q
    split at q
    · rename_i ds0 e0
      obtain ⟨p, xs, hv, hx, _⟩ := S.lst_at e0
      refine ⟨.ref p, hv, .inl ⟨rfl, xs, SqL.of hx⟩, ?_⟩
      refine s fr ρ σ H _ S ((QR.bind q).mono fun d ρ1 q1 v1 H1 S1 => ?_)
      split at q1
      · rename_i o es ds e1
        by_cases hz : ds.length + es.length ≤ 1000000
        · rw [if_pos hz] at q1
          obtain ⟨b, zs, rfl, hl, _, hb, S2⟩ := S1.explode (ds := es) rfl
          have hb := hb _ _ rfl
          obtain ⟨v, hv2, S3⟩ := S2.move (i := es.length + i) (d := .lst true ds) (by rw [List.getElem?_append_right (by simp)]; simpa using e1)
          have hv3 : σ[i]? = some (some v) := by
            rw [List.getElem?_append_right (by simp [hl]), List.length_map, hl, Nat.add_sub_cancel_left] at hv2
            exact hv2
          rw [hv] at hv3
          cases hv3
          rw [List.set_append_right _ _ (by simp), List.length_map, Nat.add_sub_cancel_left] at S3
          obtain ⟨ys, hy, hl2, S4⟩ := S3.appendN hl
          have S5 := S4.back hv
          rw [set_set_] at S5
          exact ⟨p, b, ys, zs, rfl, rfl, hy, hb, by rw [hl, hl2]; exact Nat.le_trans hz (by rw [sizeLine_eq]; decide), q1 _ _ (S5.pushF rfl)⟩
        · rw [if_neg hz] at q1
          exact q1.elim
      · exact q1.elim
    · exact q.elim
end
end DL

set_option Elab.async false
set_option linter.all false
set_option maxRecDepth 100000
set_option maxHeartbeats 4000000
namespace DL
open PySem PySem.Spec L2
/-! ### try: .. except X: .. except Y: .. (no names) -/
def noExc : RS → RS
  | .exc _ _ _ => .stuck
  | r => r
def sHandle : List ((Str → Option Bool) × SF) → Str → List (Str × D) → SF
  | [], c, fs => fun ρ => .exc c fs ρ
  | (m, G) :: r, c, fs => fun ρ => match m c with
    | some true => noExc (G ρ)
    | some false => sHandle r c fs ρ
    | none => .stuck
structure HD {ι : Type} (X : ι → Cx) (K : RC) (pr : List Nat) (hds : List ExceptHandler) (l : List ((Str → Option Bool) × SF)) : Prop where
  ex : ∃ ls, (∀ j, HdsOk (X j) hds ls) ∧ ∀ (W : WX) (c : Str) (fs : List (Str × D)) (cls : Value) (dd : Option Addr) (fr : Fr) (ρ : DL.Env) (σ0 σ : L2.St) (H : Hp) (Dn : Ends), KeepS pr σ0 σ → ExcR K.mg c fs cls dd H → Sim K fr ρ σ H → QS K W pr fr σ0 (sHandle l c fs ρ) Dn → wMany K.K W Dn ls cls dd σ H
section
variable {ι : Type} {X : ι → Cx} {K : RC} {W : WX} {k : Nat} {pr : List Nat} {hds : List ExceptHandler} {l : List ((Str → Option Bool) × SF)}
theorem hd_nil : HD X K pr [] [] := ⟨[], (fun _ => .nil), fun W c fs cls dd fr ρ σ0 σ H Dn ks hx S q => q cls dd σ H ks hx S⟩
theorem hd_cons {x : Str} {np pos' : Pos} {b₀ : Stmt} {suite : List Stmt} {m : Str → Option Bool} {G : SF} (c : CF X K W k) (hg : ∀ j, Gl (X j) x) (hm : ExmF K x m) {Y : Addr} (hY : K.mg x = some (.ref Y)) (hsu : ∀ a C d, SDs (suF X a C d) K W0 pr (b₀ :: suite) G) (hr : HD X K pr hds l) (hdb : (x == ("__debug__" : Str)) = false := by decide) :
    HD X K pr (.ExceptHandler (some (.Name x np)) none (b₀ :: suite) pos' :: hds) ((m, G) :: l) := by
  obtain ⟨ls, h1, h2⟩ := hr.ex
  let ts : Addr → Value → Option Addr → TS := fun a cls d Dn σ H => ∃ p : { C : Addr // cls = .ref C }, (hsu a p.1 d).ex.choose Dn σ H
  refine ⟨(.ref Y, ts) :: ls, (fun j => .cons ⟨hg j, hdb, .inl (by rw [c.mg j]; exact hY)⟩ (fun a oe cls d pn hz hf => ?_) (h1 j)), fun W' cn fs cls dd fr ρ σ0 σ H Dn ks hx S q => ?_⟩
  · refine pss_ex fun p => ?_
    obtain ⟨C, hc⟩ := p
    subst hc
    exact (hsu a C d).ex.choose_spec.1 ⟨(j, oe, pn), hz, hf⟩
  · unfold sHandle at q
    cases em : m cn with
    | none => simp only [em] at q; exact q.elim
    | some b =>
      obtain ⟨C, Y', h4, h5, h6⟩ := hm cn b em
      have hx0 := hx
      obtain ⟨C', h7, h8, _⟩ := hx
      rw [h4] at h7
      cases h7
      rw [hY] at h5
      cases h5
      subst h8
      refine ⟨b, h6, fun hb a ha => ?_, fun hb => ?_⟩
      · subst hb
        simp only [em] at q
        refine ⟨⟨C, rfl⟩, ?_⟩
        refine (hsu a C dd).ex.choose_spec.2 fr ρ σ H _ S ?_
        cases eg : G ρ with
        | nx ρ2 => rw [eg] at q; exact fun σ2 H2 k2 S2 => q σ2 H2 (ks.trans k2) S2
        | brk ρ2 => rw [eg] at q; exact fun σ2 H2 k2 S2 => q σ2 H2 (ks.trans k2) S2
        | cnt ρ2 => rw [eg] at q; exact fun σ2 H2 k2 S2 => q σ2 H2 (ks.trans k2) S2
        | ret d ρ2 => rw [eg] at q; exact fun v σ2 H2 k2 S2 => q v σ2 H2 (ks.trans k2) S2
        | exc _ _ _ => rw [eg] at q; exact q.elim
        | stuck => rw [eg] at q; exact q.elim
      · subst hb
        simp only [em] at q
        exact h2 W' cn fs _ dd fr ρ σ0 σ H Dn ks hx0 S q
def sTryN (F : SF) (l : List ((Str → Option Bool) × SF)) : SF := fun ρ => match F ρ with
  | .exc c fs ρ' => sHandle l c fs ρ'
  | r => r
theorem sd_try {body : List Stmt} {h₀ : ExceptHandler} {F : SF} {pos : Pos} (c : CF X K W k) (hs : ∀ j, (X j).stack = (X j).env :: (X j).outer) (hfr : ∀ j, (X j).env.frame = some (X j).env.locals) (hb : ∀ W', SDs (trF X W') K W' pr body F) (hh : HD X K pr (h₀ :: hds) l) :
    SD X K W pr (.Try body (h₀ :: hds) [] [] pos) (sTryN F l) := by
  obtain ⟨ls, h1, h2⟩ := hh.ex
  let tb : WX → TS := fun W' => (hb W').ex.choose
  refine ⟨fun D σ H => tb (wMany K.K W D ls) D σ H, (fun j => ?_), fun fr ρ σ H Dn S q => ?_⟩
  · rw [← c.kk j]
    exact ps_try_many (tb := tb) (hs j) (hfr j) (c.tk j) (fun W' pn xe tk po => (hb W').ex.choose_spec.1 ⟨(j, pn, xe), tk, po⟩) (h1 j)
  · refine (hb _).ex.choose_spec.2 fr ρ σ H _ S ?_
    unfold sTryN at q
    cases e : F ρ with
    | exc c' fs ρ' =>
      rw [e] at q
      exact fun cls dd σ' H' ks hx S' => h2 W c' fs cls dd fr ρ' σ σ' H' Dn ks hx S' q
    | nx ρ' => rw [e] at q; exact q
    | ret d ρ' => rw [e] at q; exact q
    | brk ρ' => rw [e] at q; exact q
    | cnt ρ' => rw [e] at q; exact q
    | stuck => rw [e] at q; exact q.elim
end
end DL

set_option Elab.async false
set_option linter.all false
set_option maxRecDepth 100000
set_option maxHeartbeats 4000000
namespace DL
open PySem PySem.Spec L2
/-! ## plain evaluation of loops and comprehensions -/
section
variable {ρ ρ1 ρ2 : DL.Env} {g : D → DL.Env → Option DL.Env} {b : SF} {fi : M (List D)} {tt : M Bool} {te : M D} {vs : List Nat} {ds ys : List D} {L : Nat}
/-- a loop as a fold over a state that the slots show -/
theorem forGo_fold {S : Type} (f : S → DL.Env) (step : S → D → S) (I : S → Prop) : ∀ (ds : List D) (st : S), I st → (∀ st d, I st → d ∈ ds → ∃ ρ1, g d (f st) = some ρ1 ∧ b ρ1 = .nx (f (step st d)) ∧ I (step st d)) → forGo g b ds (f st) = .nx (f (ds.foldl step st)) ∧ I (ds.foldl step st)
  | [], st, hI, _ => ⟨rfl, hI⟩
  | d :: ds, st, hI, h => by
    obtain ⟨ρ1, e1, e2, hI2⟩ := h st d hI List.mem_cons_self
    have ih := forGo_fold f step I ds (step st d) hI2 (fun st d' hI hd => h st d' hI (List.mem_cons_of_mem _ hd))
    refine ⟨?_, ih.2⟩
    unfold forGo
    simp only [e1, e2]
    exact ih.1
theorem sFor_fold {S : Type} (f : S → DL.Env) (step : S → D → S) (I : S → Prop) {st : S} (h1 : fi ρ = .ok ds (f st)) (hI : I st) (h : ∀ st d, I st → d ∈ ds → ∃ ρ1, g d (f st) = some ρ1 ∧ b ρ1 = .nx (f (step st d)) ∧ I (step st d)) : sFor fi g b ρ = .nx (f (ds.foldl step st)) ∧ I (ds.foldl step st) := by
  unfold sFor
  rw [sE_of h1]
  exact forGo_fold f step I ds st hI h
/-- a comprehension: each turn starts from the same slots -/
theorem lcGo_filter (ρ' : DL.Env) (e : D → DL.Env) (p : D → Bool) (y : D → D) : ∀ (ds : List D) (ρ : DL.Env), wipeE ρ vs = ρ' → (∀ d ∈ ds, g d ρ' = some (e d) ∧ tt (e d) = .ok (p d) (e d) ∧ (p d = true → te (e d) = .ok (y d) (e d)) ∧ wipeE (e d) vs = ρ') → lcGo g tt te vs ds ρ = .ok ((ds.filter p).map y) ρ'
  | [], ρ, hw, _ => by show Res.ok [] (wipeE ρ vs) = _; rw [hw]; rfl
  | d :: ds, ρ, hw, h => by
    obtain ⟨h1, h2, h3, h4⟩ := h d List.mem_cons_self
    have ih := lcGo_filter ρ' e p y ds (e d) h4 (fun d' hd => h d' (List.mem_cons_of_mem _ hd))
    unfold lcGo
    rw [hw, h1]
    simp only [mbind_of h2]
    cases hp : p d with
    | true =>
      rw [if_pos rfl, mbind_of (h3 hp), mbind_of ih, List.filter_cons_of_pos hp]
      rfl
    | false =>
      rw [if_neg Bool.false_ne_true, ih, List.filter_cons_of_neg (by rw [hp]; exact Bool.false_ne_true)]
theorem lcGo_map (ρ' : DL.Env) (e : D → DL.Env) (y : D → D) (ds : List D) (ρ : DL.Env) (hw : wipeE ρ vs = ρ') (h : ∀ d ∈ ds, g d ρ' = some (e d) ∧ te (e d) = .ok (y d) (e d) ∧ wipeE (e d) vs = ρ') : lcGo g mYes te vs ds ρ = .ok (ds.map y) ρ' := by
  have z := lcGo_filter (tt := mYes) ρ' e (fun _ => true) y ds ρ hw (fun d hd => ⟨(h d hd).1, rfl, fun _ => (h d hd).2.1, (h d hd).2.2⟩)
  rw [List.filter_eq_self.mpr (fun _ _ => rfl)] at z
  exact z
theorem eLcL_ok (h1 : fi ρ = .ok ds ρ1) (hl : ds.length ≤ 100000) (hL : ρ1.length = L) (h2 : lcGo g tt te vs ds ρ1 = .ok ys ρ2) : eLcL L fi g tt te vs ρ = .ok (.lst true ys) ρ2 := by
  unfold eLcL
  rw [mbind_of h1, if_pos ⟨Nat.lt_of_le_of_lt hl (by rw [sizeLine_eq]; decide), hL⟩, mbind_of h2]
  rfl
theorem iSeq_ok {f : M D} {d : D} (h1 : f ρ = .ok d ρ1) (h2 : items (frz d) = some ds) : iSeq f ρ = .ok ds ρ1 := by
  unfold iSeq seqOf; rw [mbind_of h1, h2]; rfl
theorem iRg1_ok {gg : M (List D)} {n : Int} (h1 : gg ρ = .ok [.int n] ρ1) (h2 : -1000000000 ≤ n ∧ n ≤ 1000000000) : iRg1 gg ρ = .ok (rgD 0 n) ρ1 := by
  unfold iRg1; rw [mbind_of h1]; dsimp only; rw [if_pos (by omega)]; rfl
theorem iRg2_ok {gg : M (List D)} {m n : Int} (h1 : gg ρ = .ok [.int m, .int n] ρ1) (h2 : -1000000000 ≤ m ∧ m ≤ 1000000000 ∧ -1000000000 ≤ n ∧ n ≤ 1000000000) : iRg2 gg ρ = .ok (rgD m n) ρ1 := by
  unfold iRg2; rw [mbind_of h1]; dsimp only; rw [if_pos (by omega)]; rfl
theorem frzL_ints : ∀ ns : List Int, frzL (ns.map D.int) = ns.map D.int
  | [] => rfl
  | n :: ns => by show frz (D.int n) :: frzL (ns.map D.int) = _; rw [frzL_ints ns]; rfl
theorem boolsL_map : ∀ bs : List Bool, boolsL (bs.map D.bl) = some bs
  | [] => rfl
  | b :: bs => by show (boolsL (bs.map D.bl)).map (fun z => b :: z) = _; rw [boolsL_map bs]; rfl
theorem intsL_map : ∀ bs : List Int, intsL (bs.map D.int) = some bs
  | [] => rfl
  | b :: bs => by show (intsL (bs.map D.int)).map (fun z => b :: z) = _; rw [intsL_map bs]; rfl
theorem all_ok {gg : M (List D)} {o : Bool} {bs : List Bool} (h1 : gg ρ = .ok [.lst o (bs.map D.bl)] ρ1) : eBi allD gg ρ = .ok (.bl (bs.all id)) ρ1 := eBi_ok h1 (by show (boolsL (bs.map D.bl)).map (fun bs : List Bool => D.bl (bs.all id)) = _; rw [boolsL_map]; rfl)
theorem any_ok {gg : M (List D)} {o : Bool} {bs : List Bool} (h1 : gg ρ = .ok [.lst o (bs.map D.bl)] ρ1) : eBi anyD gg ρ = .ok (.bl (bs.any id)) ρ1 := eBi_ok h1 (by show (boolsL (bs.map D.bl)).map (fun bs : List Bool => D.bl (bs.any id)) = _; rw [boolsL_map]; rfl)
theorem sum_ok {gg : M (List D)} {o : Bool} {bs : List Int} (h1 : gg ρ = .ok [.lst o (bs.map D.int)] ρ1) : eBi sumD gg ρ = .ok (.int bs.sum) ρ1 := eBi_ok h1 (by show (intsL (bs.map D.int)).map (fun bs : List Int => D.int bs.sum) = _; rw [intsL_map]; rfl)
end
end DL

set_option Elab.async false
set_option linter.all false
set_option maxRecDepth 100000
set_option maxHeartbeats 4000000
namespace DL
open PySem PySem.Spec L2
/-! ## more plain lemmas: == of whole data, comprehensions in one slot, tuples of ints -/
abbrev TI (l : List Int) : D := .tup (l.map .int)
theorem toPyL_ints : ∀ l : List Int, toPyL (l.map D.int) = some (l.map PyData.int)
  | [] => rfl
  | n :: ns => by
    show (toPy (D.int n)).bind (fun p => (toPyL (ns.map D.int)).map fun ps => p :: ps) = _
    rw [toPyL_ints ns]
    rfl
theorem toPy_TI (l : List Int) : toPy (TI l) = some (.tuple (l.map PyData.int)) := by
  show (toPyL (l.map D.int)).map PyData.tuple = _
  rw [toPyL_ints]; rfl
theorem toPyL_TIs : ∀ ls : List (List Int), toPyL (ls.map TI) = some (ls.map fun l => PyData.tuple (l.map PyData.int))
  | [] => rfl
  | l :: ls => by
    show (toPy (TI l)).bind (fun p => (toPyL (ls.map TI)).map fun ps => p :: ps) = _
    rw [toPyL_TIs ls, toPy_TI]
    rfl
theorem toPy_lstTI (o : Bool) (ls : List (List Int)) : toPy (.lst o (ls.map TI)) = some (.list (ls.map fun l => PyData.tuple (l.map PyData.int))) := by
  show (toPyL (ls.map TI)).map PyData.list = _
  rw [toPyL_TIs]; rfl
theorem lay_ints : ∀ l : List Int, PyData.canLayAll0 (l.map PyData.int) = true
  | [] => by simp only [List.map_nil, PyData.canLayAll0]
  | n :: ns => by simp only [List.map_cons, PyData.canLayAll0, PyData.canLay0, lay_ints ns, Bool.and_self]
theorem dep_ints : ∀ l : List Int, PyData.depthAll (l.map PyData.int) = 0
  | [] => by simp only [List.map_nil, PyData.depthAll]
  | n :: ns => by simp only [List.map_cons, PyData.depthAll, PyData.depth, dep_ints ns, Nat.max_self]
theorem lay_TIs : ∀ ls : List (List Int), PyData.canLayAll0 (ls.map fun l => PyData.tuple (l.map PyData.int)) = true
  | [] => by simp only [List.map_nil, PyData.canLayAll0]
  | l :: ls => by simp only [List.map_cons, PyData.canLayAll0, PyData.canLay0, lay_ints, lay_TIs ls, Bool.and_self]
theorem dep_TIs : ∀ ls : List (List Int), PyData.depthAll (ls.map fun l => PyData.tuple (l.map PyData.int)) ≤ 1
  | [] => by simp only [List.map_nil, PyData.depthAll]; omega
  | l :: ls => by
    have := dep_TIs ls
    simp only [List.map_cons, PyData.depthAll, PyData.depth, dep_ints]
    omega
theorem shaped_TI (l : List Int) : SeqAt.shaped (.tuple (l.map PyData.int)) = true := by
  unfold SeqAt.shaped
  simp only [PyData.canLay0, lay_ints, PyData.depth, dep_ints]
  rfl
theorem shaped_lstTI (ls : List (List Int)) : SeqAt.shaped (.list (ls.map fun l => PyData.tuple (l.map PyData.int))) = true := by
  unfold SeqAt.shaped
  have := dep_TIs ls
  simp only [PyData.canLay0, lay_TIs, PyData.depth, Bool.true_and]
  exact decide_eq_true (by omega)
theorem shaped_ints (l : List Int) : SeqAt.shaped (.list (l.map PyData.int)) = true := by
  unfold SeqAt.shaped
  simp only [PyData.canLay0, lay_ints, PyData.depth, dep_ints]
  rfl
theorem eqB_same {x y : D} {p : PyData} (hx : toPy x = some p) (hy : toPy y = some p) (hs : SeqAt.shaped p = true) : eqB x y = some true := by
  unfold eqB
  rw [hx, hy]
  simp only [Option.bind_some, hs, and_self, if_true]
  rw [SeqAt.eqv_refl p (SeqAt.canLay_of_shaped hs)]
theorem eqv_ints : ∀ l m : List Int, PyData.eqvAll (l.map PyData.int) (m.map PyData.int) = decide (l = m)
  | [], [] => by rw [List.map_nil, PyData.eqvAll]; rfl
  | [], b :: m => by rw [List.map_nil, List.map_cons, PyData.eqvAll]; rfl
  | a :: l, [] => by rw [List.map_nil, List.map_cons, PyData.eqvAll]; rfl
  | a :: l, b :: m => by
    rw [List.map_cons, List.map_cons, PyData.eqvAll, eqv_ints l m, PyData.eqv]
    simp
    rfl
theorem eqB_TI (l m : List Int) : eqB (TI l) (TI m) = some (decide (l = m)) := by
  unfold eqB
  rw [toPy_TI, toPy_TI]
  simp only [Option.bind_some, shaped_TI, and_self, if_true]
  rw [PyData.eqv, eqv_ints]
theorem eqB_lstTI (o o' : Bool) (ls : List (List Int)) : eqB (.lst o (ls.map TI)) (.lst o' (ls.map TI)) = some true := eqB_same (toPy_lstTI o ls) (toPy_lstTI o' ls) (shaped_lstTI ls)
theorem toPy_lstI (o : Bool) (l : List Int) : toPy (.lst o (l.map D.int)) = some (.list (l.map PyData.int)) := by
  show (toPyL (l.map D.int)).map PyData.list = _
  rw [toPyL_ints]; rfl
theorem eqB_lstI (o o' : Bool) (l m : List Int) : eqB (.lst o (l.map D.int)) (.lst o' (m.map D.int)) = some (decide (l = m)) := by
  unfold eqB
  rw [toPy_lstI, toPy_lstI]
  simp only [Option.bind_some, shaped_ints, and_self, if_true]
  rw [PyData.eqv, eqv_ints]
theorem frzL_TI : ∀ ls : List (List Int), frzL (ls.map TI) = ls.map TI
  | [] => rfl
  | n :: ns => by show frz (TI n) :: frzL (ns.map TI) = _; rw [frzL_TI ns]; rfl
section
variable {ρ ρ1 ρ2 : DL.Env} {fi g : M (List D)} {f fa fb te : M D} {tt : M Bool} {d x y : D} {ds ys : List D} {L i : Nat}
theorem eq_ok {b : Bool} (h1 : fa ρ = .ok x ρ1) (h2 : fb ρ1 = .ok y ρ2) (h : eqB x y = some b) : e2 eqD fa fb ρ = .ok (.bl b) ρ2 := e2_ok h1 h2 (by unfold eqD; rw [h]; rfl)
theorem ne_ok {b : Bool} (h1 : fa ρ = .ok x ρ1) (h2 : fb ρ1 = .ok y ρ2) (h : eqB x y = some b) : e2 neD fa fb ρ = .ok (.bl !b) ρ2 := e2_ok h1 h2 (by unfold neD; rw [h]; rfl)
theorem all_t {o : Bool} (h1 : g ρ = .ok [.lst o ys] ρ1) (h : ∀ y ∈ ys, y = .bl true) : eBi allD g ρ = .ok (.bl true) ρ1 := by
  have e : ys = (ys.map fun _ => true).map D.bl := by
    rw [List.map_map]
    exact (List.map_id ys).symm.trans (List.map_congr_left fun y hy => by rw [h y hy]; rfl)
  rw [e] at h1
  refine (all_ok h1).trans ?_
  have : (ys.map fun _ => true).all id = true := by simp
  rw [this]
theorem lc_map1 {yf : D → D} (h1 : fi ρ = .ok ds ρ1) (hl : ds.length ≤ 100000) (hL : ρ1.length = L) (hw : ρ1.set i none = ρ1) (hi : i < L) (h : ∀ d ∈ ds, te (ρ1.set i (some d)) = .ok (yf d) (ρ1.set i (some d))) : eLcL L fi (gSet i) mYes te [i] ρ = .ok (.lst true (ds.map yf)) ρ1 := by
  refine eLcL_ok h1 hl hL (lcGo_map ρ1 (fun d => ρ1.set i (some d)) yf ds ρ1 hw fun d hd => ⟨?_, h d hd, ?_⟩)
  · unfold gSet; exact if_pos (by omega)
  · show (ρ1.set i (some d)).set i none = ρ1
    rw [List.set_set, hw]
theorem lc_filter1 {yf : D → D} {p : D → Bool} (h1 : fi ρ = .ok ds ρ1) (hl : ds.length ≤ 100000) (hL : ρ1.length = L) (hw : ρ1.set i none = ρ1) (hi : i < L) (ht : ∀ d ∈ ds, tt (ρ1.set i (some d)) = .ok (p d) (ρ1.set i (some d))) (h : ∀ d ∈ ds, p d = true → te (ρ1.set i (some d)) = .ok (yf d) (ρ1.set i (some d))) : eLcL L fi (gSet i) tt te [i] ρ = .ok (.lst true ((ds.filter p).map yf)) ρ1 := by
  refine eLcL_ok h1 hl hL (lcGo_filter ρ1 (fun d => ρ1.set i (some d)) p yf ds ρ1 hw fun d hd => ⟨?_, ht d hd, h d hd, ?_⟩)
  · unfold gSet; exact if_pos (by omega)
  · show (ρ1.set i (some d)).set i none = ρ1
    rw [List.set_set, hw]
theorem len_lst (o : Bool) (ds : List D) : lenD [.lst o ds] = some (.int ds.length) := rfl
theorem len_tup (ds : List D) : lenD [.tup ds] = some (.int ds.length) := rfl
theorem len_TI (l : List Int) : lenD [TI l] = some (.int l.length) := by rw [len_tup, List.length_map]
theorem atI_nat {ds : List D} {n : Nat} (h : ds[n]? = some d) : atI ds (n : Int) = some d := by
  have hn : n < ds.length := (List.getElem?_eq_some_iff.mp h).1
  have h2 := (List.getElem?_eq_some_iff.mp h).2
  simp [atI, ixN, hn, h2]
theorem ix_l {o : Bool} {n : Nat} (h : ds[n]? = some d) : ixD (.lst o ds) (.int (n : Int)) = some d := by
  show atI ds (n : Int) = _
  exact atI_nat h
theorem ix_t {n : Nat} (h : ds[n]? = some d) : ixD (.tup ds) (.int (n : Int)) = some d := by
  show atI ds (n : Int) = _
  exact atI_nat h
theorem ix_TI {l : List Int} {n : Nat} (h : n < l.length) : ixD (TI l) (.int (n : Int)) = some (.int (l.getD n 0)) := ix_t (by
  rw [List.getElem?_map, List.getElem?_eq_getElem h, List.getD_eq_getElem?_getD, List.getElem?_eq_getElem h]; rfl)
theorem rgD_0 (n : Nat) : rgD 0 (n : Int) = (List.range n).map fun i : Nat => D.int (i : Int) := by
  unfold rgD
  rw [show ((n : Int) - 0).toNat = n by omega]
  exact List.map_congr_left fun i _ => by rw [Int.zero_add]
/-- append -/
theorem app_ok {ρ : DL.Env} (h0 : ∃ es, ρ[i]? = some (some (.lst true es))) (h1 : f ρ = .ok d ρ1) (h2 : ρ1[i]? = some (some (.lst true ds))) (hl : ds.length ≤ 100000) : eApp i f ρ = .ok .non (ρ1.set i (some (.lst true (ds ++ [d])))) := by
  obtain ⟨es, e⟩ := h0
  unfold eApp
  rw [e]
  show mbind f _ ρ = _
  rw [mbind_of h1]
  simp only [h2]
  rw [if_pos (Nat.lt_of_le_of_lt hl (by rw [sizeLine_eq]; decide))]
theorem put_ok {fj : M D} {j : Int} {n : Nat} {es : List D} (h0 : ρ[i]? = some (some (.lst true es))) (h1 : fj ρ = .ok (.int j) ρ1) (h2 : ρ1[i]? = some (some (.lst true ds))) (hl : ρ1.length = ρ.length) (hn : ixN ds.length j = some n) : gItem i fj d ρ = some (ρ1.set i (some (.lst true (ds.set n d)))) := by
  unfold gItem
  simp only [h0, h1, h2, hl, if_true, hn]
  rfl
theorem forGo_cons {gg : D → DL.Env → Option DL.Env} {b : SF} (h1 : gg d ρ = some ρ1) (h2 : b ρ1 = .nx ρ2) : forGo gg b (d :: ds) ρ = forGo gg b ds ρ2 := by
  conv => lhs; unfold forGo
  simp only [h1, h2]
theorem sFor_of {gg : D → DL.Env → Option DL.Env} {b : SF} (h1 : fi ρ = .ok ds ρ1) : sFor fi gg b ρ = forGo gg b ds ρ1 := by
  unfold sFor; exact sE_of h1
end
end DL

set_option Elab.async false
set_option linter.all false
set_option maxRecDepth 100000
set_option maxHeartbeats 4000000
namespace DL
open PySem PySem.Spec L2 PyProof.Rows
/-! ## << and len(set(t)), t a tuple of ints -/
def shlD : D → D → Option D := ii (fun i j => decide (0 ≤ j ∧ j ≤ 1000000 ∧ i.natAbs < 2 ^ 64)) fun i j => .int (i * 2 ^ j.toNat)
section
variable {ι : Type} {X : ι → Cx} {K : RC} {W : WX} {k : Nat} {a b e : Expr} {f fa fb : M D} {pos : Pos}
theorem ed_shl (c : CF X K W k) (ha : ED X K W a fa) (hb : ED X K W b fb) : ED X K W (.BinOp a .LShift b pos) (e2 shlD fa fb) :=
  ed_op (fun _ => op_shl) (ops_ii (P := CPow) (fun i j h => show CPow i j from of_decide_eq_true (p := 0 ≤ j ∧ j ≤ 1000000 ∧ i.natAbs < 2 ^ 64) h) fun _ _ => rfl) ha hb
end
/-- each int once -/
def once : List Int → List Int
  | [] => []
  | x :: r => if x ∈ r then once r else x :: once r
theorem once_mem : ∀ {l : List Int} {x : Int}, x ∈ once l ↔ x ∈ l
  | [], x => Iff.rfl
  | y :: r, x => by
    unfold once
    by_cases h : y ∈ r
    · rw [if_pos h, once_mem]
      exact ⟨fun z => List.mem_cons_of_mem _ z, fun z => by rcases List.mem_cons.mp z with rfl | z <;> assumption⟩
    · rw [if_neg h, List.mem_cons, List.mem_cons, once_mem]
theorem once_nodup : ∀ l : List Int, (once l).Nodup
  | [] => List.nodup_nil
  | y :: r => by
    unfold once
    by_cases h : y ∈ r
    · rw [if_pos h]; exact once_nodup r
    · rw [if_neg h]; exact List.nodup_cons.mpr ⟨fun z => h (once_mem.mp z), once_nodup r⟩
theorem once_len {l m : List Int} (hm : m.Nodup) (h : ∀ x, x ∈ m ↔ x ∈ l) : m.length = (once l).length :=
  ((List.perm_ext_iff_of_nodup hm (once_nodup l)).mpr fun x => (h x).trans once_mem.symm).length_eq
def tLenSetT (K : PySem.W.Frag) (ta : TE) : TE := fun σ H Q => ta σ H fun x H1 => ∃ (l : Addr) (ns : List Int), x = V.ref l ∧ SqT K H1 l (ns.map V.int) ∧ ns.length < 1000 ∧ Q (.int (once ns).length) H1
theorem pe_lenSetT {X : Cx} {a : Expr} {ta : TE} {p p2 q pos : Pos} (hc : X.calm = true) (hg : Gl X "len") (hm : X.mg "len" = none) (hg2 : Gl X "set") (hm2 : X.mg "set" = none) (ha : PE X a ta)
    (na : starEach [a] X.env = (false, eval a X.env) :: starEach [] X.env := by rfl) : PE X (.Call (.Name "len" p) [.Call (.Name "set" p2) [a] [] q] [] pos) (tLenSetT X.K ta) := by
  refine ⟨fun pins s σ H Q I h => ?_⟩
  refine Call_ (ld_blt I hg hm PySem.boot_len ?_)
  refine PyProof.Rows.callWith_builtin1 (PyProof.Rows.args_cons ?_ rfl) rfl rfl
  refine Call_ (ld_blt I hg2 hm2 PyProof.Rows.boot_set ?_)
  refine PyProof.Rows.callWith_type1 (PyProof.Rows.args_cons (thn (ha.run pins s σ H _ I h) fun v s1 ⟨x, H1, I1, r1, q1⟩ => PyProof.Rows.args_nil ?_) na) na rfl
  obtain ⟨l, ns, rfl, hq, h1, q1⟩ := q1
  cases r1
  obtain ⟨its, r, pl, hz⟩ := I1.tuple hq
  refine call_set_tupI ns (I1.ok.hd hc) pl (by simpa using r.ints) (by unfold scanBound; omega) fun h' tk c hS hcl hk => ?_
  refine PyProof.Rows.args_nil ?_
  obtain ⟨o, es, ep, t, ho, hex, hd, hg, hnd, hmem, hf, hfit, hn, _⟩ := hS
  have I2 : Inv X pins σ H1 { s1 with heap := h', toks := tk } := I1.kept fun b o e => hk b o e
  have hl : c = (once ns).length := by
    have z := once_len (l := ns) hnd fun x => by rw [← hmem x]; exact decide_eq_true_iff
    rw [List.length_map, Array.length_toList, hn] at z
    exact z
  refine call_len_set ho hex hd hfit (by unfold scanBound at hf; omega) ⟨.int (once ns).length, H1, I2.tok _, ⟨_, by rw [hn, hl]⟩, q1⟩
def lenSetD : D → Option D
  | .tup ds => (intsL ds).bind fun ns => if ns.length < 1000 then some (.int (once ns).length) else none
  | _ => none
section
variable {ι : Type} {X : ι → Cx} {K : RC} {W : WX} {k : Nat} {e : Expr} {f : M D} {pos p p2 q : Pos}
theorem ed_lenSet (c : CF X K W k) (hg : ∀ i, Gl (X i) "len") (hm : K.mg "len" = none) (hg2 : ∀ i, Gl (X i) "set") (hm2 : K.mg "set" = none) (h : ED X K W e f) (hs : ∀ i, starEach [e] (X i).env = (false, eval e (X i).env) :: starEach [] (X i).env := by intro _; rfl) :
    ED X K W (.Call (.Name "len" p) [.Call (.Name "set" p2) [e] [] q] [] pos) (e1 lenSetD f) := by
  obtain ⟨t, pp, s⟩ := h.ex
  refine ⟨tLenSetT K.K t, (fun i => by rw [← c.kk i]; exact pe_lenSetT (c.calm i) (hg i) (by rw [c.mg i]; exact hm) (hg2 i) (by rw [c.mg i]; exact hm2) (pp i) (hs i)), fun fr ρ σ H Q S q => s fr ρ σ H _ S ((QR.bind q).mono fun d ρ1 q1 v H1 S1 => ?_)⟩
  obtain ⟨d', e0, q2⟩ := QR.lift q1
  cases d with
  | tup ds =>
    have e0 : (intsL ds).bind (fun ns => if ns.length < 1000 then some (D.int (once ns).length) else none) = some d' := e0
    cases e1 : intsL ds with
    | none => rw [e1] at e0; cases e0
    | some ns =>
      rw [e1] at e0
      simp only [Option.bind_some] at e0
      by_cases hz : ns.length < 1000
      · rw [if_pos hz] at e0
        cases e0
        obtain ⟨F, B, r, kk⟩ := S1.top
        obtain ⟨_, a, xs, rfl, hx, r⟩ := r
        have ex := ints_rep e1 r
        refine ⟨a, ns, rfl, ?_, hz, q2 _ H1 (S1.drop.pushF rfl)⟩
        rw [← ex]
        exact SqT.mono kk hx
      · rw [if_neg hz] at e0; cases e0
  | _ => cases e0
end
end DL

set_option Elab.async false
set_option linter.all false
set_option maxRecDepth 100000
set_option maxHeartbeats 4000000
/-! ## enumerate of a tuple -/
namespace ET
open PySem PySem.Spec PyProof.Rows L2
theorem enum_new_tuple (l : Addr) (items : Array Value) (n : Nat) (dct : Option Addr) (sl : Array (Option Value)) :
    Meets (Builtin.«enumerate.__new__» ⟨[.type "enumerate", .ref l], []⟩) (fun _ R s => s.heap.get? l = some { cls := .type "tuple", dict := dct, data := .seq items n, slots := sl } ∧
      R (.ok (.ret (.ref (s.heap.push { cls := .type "tuple_iterator", data := .fields #[.ref l, .int 0 0] }).objs.size)))
        { s with heap := (s.heap.push { cls := .type "tuple_iterator", data := .fields #[.ref l, .int 0 0] }).push { cls := .type "enumerate", data := .fields #[.none, .bool false, .ref s.heap.objs.size, rawInt 0, .none, .none] } }) :=
  .of_wp fun prog w A R s h => by
    obtain ⟨hp, g, d, tk, os⟩ := s
    obtain ⟨hl, h⟩ := h
    have hsub := sub_enumerate
    have hT : Heap.IsTuple (Shared.heap ⟨hp, g, d, tk, os⟩) l items := ⟨_, hl, rfl, n, rfl⟩
    wp_walk using AutoSeq1.wpAny_loadPart' hl
    refine wpAny_stack_any fun st => wpAny_pure ?_
    split
    · rename_i c _ _ _ _ _
      cases (c == Value.type "enumerate")
      · wp_walk using AutoSeq1.wpAny_loadPart' hl, wpAny_pyIter_tuple hT
        exact ⟨_, rfl, h⟩
      · wp_walk using AutoSeq1.wpAny_loadPart' hl, wpAny_pyIter_tuple hT
        exact ⟨_, rfl, h⟩
    · wp_walk using AutoSeq1.wpAny_loadPart' hl, wpAny_pyIter_tuple hT
      exact ⟨_, rfl, h⟩
section
variable {prog : Program} {w : World} {A : Around} {E : Value → Shared → Prop} {s : Shared}
theorem enum_call_tuple {l : Addr} {items : Array Value} {Q : Value → Shared → Prop} (hL : s.heap.IsTuple l items)
    (h : ∀ h', IsEnum h' (s.heap.objs.size + 1) s.heap.objs.size 0 .none → h'.IsTupleIter s.heap.objs.size l 0 → h'.objs.size = s.heap.objs.size + 2 →
      (∀ b o, s.heap.get? b = some o → h'.get? b = some o) → Q (.ref (s.heap.objs.size + 1)) { s with heap := h' }) :
    wpAny (model prog w) A (call (.type "enumerate") [.ref l]) Q E s := by
  obtain ⟨⟨c, dct, dt, sl⟩, hl, hc, n, hd⟩ := hL
  replace hc : c = .type "tuple" := hc
  replace hd : dt = .seq items n := hd
  subst hc hd
  refine callType_new F.called_enumerate (by decide) (F.typeCall_enumerate_1 _) (F.newCall_enumerate_1 _) (fun obj => F.args_object_init_2 obj _) F.entry_enumerate_new
    (enum_new_tuple l items n dct sl) ⟨hl, ?_⟩
  have hz : (s.heap.push { cls := .type "tuple_iterator", data := .fields #[.ref l, .int 0 0] }).objs.size = s.heap.objs.size + 1 := Heap.size_push ..
  show _ ∧ _
  rw [hz]
  have he : IsEnum ((s.heap.push { cls := .type "tuple_iterator", data := .fields #[.ref l, .int 0 0] }).push
      { cls := .type "enumerate", data := .fields #[.none, .bool false, .ref s.heap.objs.size, rawInt 0, .none, .none] }) (s.heap.objs.size + 1) s.heap.objs.size 0 .none := by
    have := Heap.get?_push_size (s.heap.push { cls := .type "tuple_iterator", data := .fields #[.ref l, .int 0 0] })
      (o := { cls := .type "enumerate", data := .fields #[.none, .bool false, .ref s.heap.objs.size, rawInt 0, .none, .none] }) rfl
    rw [hz] at this; exact this
  refine ⟨⟨_, he, rfl⟩, h _ he ⟨_, Heap.get?_push_of_some _ (Heap.get?_push_size _ rfl), rfl, rfl⟩ (by rw [Heap.size_push, hz]) fun b o x => Heap.get?_push_of_some _ (Heap.get?_push_of_some _ x)⟩
theorem draws_tuple (hh : A.handled = none) {it t : Addr} {items : Array Value} (hne : it ≠ t) : Draws prog w A it [it, t] items.size (fun i x => items[i]? = some x) (fun i h => h.IsTupleIter it t i ∧ h.IsTuple t items) where
  live := fun i h st => by obtain ⟨⟨o, ho, _⟩, _⟩ := st; exact ⟨o, ho⟩
  frame := fun i h h' st k => by
    obtain ⟨⟨o, ho, r⟩, ⟨o2, ho2, r2⟩⟩ := st
    exact ⟨⟨o, k it (by simp) o ho, r⟩, ⟨o2, k t (by simp) o2 ho2, r2⟩⟩
  item := fun i s Q E hi st hQ => by
    obtain ⟨h1, h2⟩ := st
    refine RZ.nextOf_tuple_item h1 h2 (x := items[i]) (by simp [hi]) fun h' k sb => ?_
    obtain ⟨o2, ho2, r2⟩ := h2
    exact hQ _ h' s.toks (by simp [hi]) ⟨k, o2, (sb.2 t (Ne.symm hne)).trans ho2, r2⟩ sb
  done := fun s Q E st hE => RZ.nextOf_tuple_end hh st.1 st.2 (by simp) hE
end
theorem draws_end {prog : Program} {w : World} {A : Around} (hh : A.handled = none) {it t : Addr} {items : Array Value} {i : Nat} (hi : items[i]? = none) : Draws prog w A it [it, t] i (fun _ _ => False) (fun j h => j = i ∧ h.IsTupleIter it t j ∧ h.IsTuple t items) where
  live := fun j h st => by obtain ⟨_, ⟨o, ho, _⟩, _⟩ := st; exact ⟨o, ho⟩
  frame := fun j h h' st k => by
    obtain ⟨e, ⟨o, ho, r⟩, ⟨o2, ho2, r2⟩⟩ := st
    exact ⟨e, ⟨o, k it (by simp) o ho, r⟩, ⟨o2, k t (by simp) o2 ho2, r2⟩⟩
  item := fun j s Q E hj st hQ => absurd st.1 (Nat.ne_of_lt hj)
  done := fun s Q E st hE => RZ.nextOf_tuple_end hh st.2.1 st.2.2 hi hE
/-- the tuple at a as it stands at each turn, each item in a new pair -/
def IteT (K : PySem.W.Frag) (a : Addr) : It :=
  ⟨fun i H => ∃ (xs : List V) (x : V), SqT K H a xs ∧ xs[i]? = some x, fun i H v H' => ∃ T x, v = .ref T ∧ H T = none ∧ H' = upd H T (.tup [.int (i : Nat), x]) ∧ ∀ xs, SqT K H a xs → xs[i]? = some x, fun i H => ∃ xs : List V, SqT K H a xs ∧ xs.length ≤ i⟩
theorem turn_enumT {P : Program} {w : World} {K : PySem.W.Frag} {elts : List Expr} {kk : Nat} {tpos : Pos} (a e it : Addr) (hea : e ≠ a) (hia : it ≠ a) :
    Turn P w K (.Tuple elts kk tpos) (IteT K a) [e, it] e (fun i h => (∃ old, IsEnum h e it ((i : Nat) : Int) old) ∧ h.IsTupleIter it a i ∧ e ≠ it) where
  mem := by simp
  obj := fun i h st b hb => by
    obtain ⟨⟨old, he⟩, ⟨o, ho, hc, hd⟩, _⟩ := st
    have e' : b = e ∨ b = it := by simpa using hb
    rcases e' with z | z
    · rw [z]; exact ⟨_, he, fun v q => nomatch q⟩
    · rw [z]; exact ⟨o, ho, fun v q => by rw [hd] at q; cases q⟩
  keep := fun i h h' st k => let ⟨⟨old, he⟩, hi, hne⟩ := st; ⟨⟨old, k e (by simp) _ he⟩, hi.at fun o q => k it (by simp) o q, hne⟩
  item := by
    intro X hP hw hK hc i pins s σ H E I hf st hg
    subst hP hw hK
    obtain ⟨⟨old, he⟩, hit, hne⟩ := st
    obtain ⟨xs, x, hq, hx⟩ := hg
    obtain ⟨its, rv, p, hz⟩ := I.tuple hq
    obtain ⟨u, hu, ru⟩ := rv.get hx
    have hel : e < s.heap.objs.size := Heap.lt_size he
    have hil : it < s.heap.objs.size := by obtain ⟨_, q, _⟩ := hit; exact Heap.lt_size q
    have hlt : i < its.toArray.size := by
      have := (List.getElem?_eq_some_iff.mp hu).1
      simpa using this
    refine wpAny_pyNext_enum_itemD (draws_tuple (A := X.A.in1) (prog := X.prog) (w := X.w) (items := its.toArray) (show X.A.in1.handled = none from I.ok.hd hc) hia) he ⟨hit, p⟩ hlt hne (by simp [hea, hne]) fun x' h' tk hx' ho hst hT hsz hk => ?_
    have ex : x' = u := by
      have hu2 : its.toArray[i]? = some u := by simpa using hu
      rw [hu2] at hx'
      exact (Option.some.inj hx').symm
    subst ex
    obtain ⟨hit', _⟩ := hst
    refine ⟨_, rfl, wpAny_letOwnedTupleGo_enum (s := { s with heap := h', toks := tk + 1 }) ho fun h'' he' sb => ?_⟩
    have hT2 : h''.get? s.heap.objs.size = some { cls := .type "tuple", data := .seq #[.int i tk, x'] } := (sb.2 _ (Nat.ne_of_gt hel)).trans hT
    have new : ObjOk X.prog X.w (upd H s.heap.objs.size (.tup [.int (i : Nat), x])) h'' s.heap.objs.size (.tup [.int (i : Nat), x]) :=
      ⟨by show 2 ≤ sizeLine; decide, [.int i tk, x'], .cons ⟨_, rfl⟩ (.cons ru .nil), ⟨_, hT2, rfl, _, rfl⟩⟩
    have I1 : Inv X pins σ (upd H s.heap.objs.size (.tup [.int (i : Nat), x])) { s with heap := h'', toks := tk + 1 } :=
      I.turnedNew (ch := [e, it]) (fun b ob hb q => (sb.2 b (fun z => hb (by simp [z]))).trans (hk b ob (fun z => hb (by simp [z])) (fun z => hb (by simp [z])) q)) hf (Nat.le_refl _) new
    refine ⟨.ref s.heap.objs.size, _, I1, rfl, ⟨_, x, rfl, I.hok.fresh (Nat.le_refl _), rfl, fun ys hy => by rw [I.tuple_inj hy hq]; exact hx⟩, ⟨⟨x', ?_⟩, hit'.at fun o q => (sb.2 it (Ne.symm hne)).trans q, hne⟩, fun b hb => ?_⟩
    · have e1 : ((i + 1 : Nat) : Int) = (i : Int) + 1 := by omega
      rw [e1]; exact he'
    · have hb' : b < s.heap.objs.size := by
        have e' : b = e ∨ b = it := by simpa using hb
        rcases e' with z | z
        · rw [z]; exact hel
        · rw [z]; exact hil
      rw [upd_ne (Nat.ne_of_lt hb')]
      exact (hf b hb).1
  done := by
    intro X hP hw hK hc i pins s σ H E I hf st hg
    subst hP hw hK
    obtain ⟨⟨old, he⟩, hit, hne⟩ := st
    obtain ⟨xs, hq, hx⟩ := hg
    obtain ⟨its, rv, p, hz⟩ := I.tuple hq
    obtain ⟨f0, f1, f2, f3, f4, f5⟩ := hf it (by simp)
    have hl := rv.length
    have hi : its.toArray[i]? = none := by simp; omega
    exact wpAny_pyNext_enum_endD (draws_end (A := X.A.in1) (prog := X.prog) (w := X.w) (items := its.toArray) (show X.A.in1.handled = none from I.ok.hd hc) hi) he ⟨rfl, hit, p⟩ fun h' eb => ⟨rfl, I.turned (t' := s.toks) (fun b o hb q => eb b o hb q) f0 f1 f3 f4 f5⟩
  self := fun A i s Q E st h => let ⟨⟨_, he⟩, _⟩ := st; wpAny_pyIter_enum he h
def iEnuT (K : PySem.W.Frag) (ta : TA) : TI := fun σ H R => ta σ H fun vs H1 => ∃ a xs, vs = [.ref a] ∧ ((SqL K H1 a xs ∧ R (Ite K a) H1) ∨ (SqT K H1 a xs ∧ R (IteT K a) H1))
theorem pi_enuT {X : Cx} {e : Expr} {ta : TA} {p pos tpos : Pos} {elts : List Expr} {kk : Nat} (hg : Gl X "enumerate") (hm : X.mg "enumerate" = none) (ha : PA X [e] ta) (hs : starEach [e] X.env = [(false, eval e X.env)] := by rfl) :
    PI X (.Tuple elts kk tpos) (.Call (.Name "enumerate" p) [e] [] pos) (iEnuT X.K ta) := by
  refine ⟨fun pins s σ H R I h => ?_⟩
  refine Call_ (ld_blt I hg hm boot_enumerate (PyProof.Rows.callWith_type1 (thn (ha.run pos pins s σ H _ I h) fun us s1 ⟨vs, H1, I1, r1, q1⟩ => ?_) hs rfl))
  obtain ⟨a, xs, ex, hq⟩ := q1
  subst ex
  cases r1 with
  | cons r rr =>
    cases rr
    cases r
    rcases hq with ⟨hq, q⟩ | ⟨hq, q⟩
    · obtain ⟨its, rv, p', hz⟩ := I1.list hq
      refine call_enumerate_list p'.isList fun h' he hit hsz hk => wpAny_pyIter_enum he ?_
      have I2 : Inv X pins σ H1 { s1 with heap := h' } := I1.kept (t' := s1.toks) hk
      refine ⟨s1.heap.objs.size + 1, [s1.heap.objs.size + 1, s1.heap.objs.size], _, _, H1, rfl, I2, turn_enum a (s1.heap.objs.size + 1) s1.heap.objs.size, ⟨⟨.none, he⟩, hit, Nat.succ_ne_self _⟩, fun b hb => ?_, q⟩
      have e' : b = s1.heap.objs.size + 1 ∨ b = s1.heap.objs.size := by simpa using hb
      have hle : s1.heap.objs.size ≤ b := by
        rcases e' with z | z
        · rw [z]; exact Nat.le_add_right _ _
        · rw [z]; exact Nat.le_refl _
      exact I1.fpOk hle (I1.hok.fresh hle)
    · obtain ⟨its, rv, p', hz⟩ := I1.tuple hq
      have hal : a < s1.heap.objs.size := by obtain ⟨o, ho, _⟩ := p'; exact Heap.lt_size ho
      refine enum_call_tuple p' fun h' he hit hsz hk => wpAny_pyIter_enum he ?_
      have I2 : Inv X pins σ H1 { s1 with heap := h' } := I1.kept (t' := s1.toks) hk
      refine ⟨s1.heap.objs.size + 1, [s1.heap.objs.size + 1, s1.heap.objs.size], _, _, H1, rfl, I2, turn_enumT a (s1.heap.objs.size + 1) s1.heap.objs.size (Nat.ne_of_gt (Nat.lt_succ_of_lt hal)) (Nat.ne_of_gt hal), ⟨⟨.none, he⟩, hit, Nat.succ_ne_self _⟩, fun b hb => ?_, q⟩
      have e' : b = s1.heap.objs.size + 1 ∨ b = s1.heap.objs.size := by simpa using hb
      have hle : s1.heap.objs.size ≤ b := by
        rcases e' with z | z
        · rw [z]; exact Nat.le_add_right _ _
        · rw [z]; exact Nat.le_refl _
      exact I1.fpOk hle (I1.hok.fresh hle)
end ET
namespace DL
open PySem PySem.Spec L2
section
variable {K : RC} {fr : Fr}
theorem yields_enumT {ds : List D} {xs : List V} {H0 : Hp} {a : Addr} (hs : SqT K.K (VF fr) a xs) (r : RepL K (VF fr) H0 ds xs []) : Yields K (ET.IteT K.K a) fr (enumD 0 ds) where
  go := fun i H ρ σ S hi => by
    obtain ⟨x, h1, _⟩ := enumD_get (List.getElem?_eq_getElem hi)
    obtain ⟨u, hu, _⟩ := r.get h1
    exact ⟨xs, u, SqT.mono S.vfH hs, hu⟩
  stop := fun i H ρ σ S hi => by
    rw [enumD_len, ← r.len] at hi
    exact ⟨xs, SqT.mono S.vfH hs, hi⟩
  yld := fun i H x H' ρ σ d S e hy => by
    obtain ⟨T, u, rfl, hT, rfl, h1⟩ := hy
    obtain ⟨p, hp, rfl⟩ := enumD_get e
    obtain ⟨u', hu, ru⟩ := r.get hp
    have e1 := h1 xs (SqT.mono S.vfH hs)
    rw [hu] at e1
    cases e1
    rw [Nat.zero_add]
    exact zip_yld S (show Rep K (VF fr) H0 (.int ((i : Nat) : Int)) (.int ((i : Nat) : Int)) [] from ⟨rfl, rfl⟩) ru hT
end
def enumOfA : D → Option (List D)
  | .lst _ xs => some (enumD 0 xs)
  | .scr ns => some (enumD 0 (ns.map D.int))
  | .tup xs => some (enumD 0 xs)
  | _ => none
def enumA1 : List D → Option (List D)
  | [x] => enumOfA (frz x)
  | _ => none
theorem enumA1_one {ds l : List D} (h : enumA1 ds = some l) : ∃ x, ds = [x] ∧ enumOfA (frz x) = some l := by
  unfold enumA1 at h
  split at h
  · exact ⟨_, rfl, h⟩
  · cases h
theorem enumOfA_cases {x : D} {l : List D} (h : enumOfA x = some l) : (∃ o xs, x = .lst o xs ∧ l = enumD 0 xs) ∨ (∃ ns, x = .scr ns ∧ l = enumD 0 (ns.map D.int)) ∨ (∃ xs, x = .tup xs ∧ l = enumD 0 xs) := by
  unfold enumOfA at h
  split at h
  · exact .inl ⟨_, _, rfl, (Option.some.inj h).symm⟩
  · exact .inr (.inl ⟨_, rfl, (Option.some.inj h).symm⟩)
  · exact .inr (.inr ⟨_, rfl, (Option.some.inj h).symm⟩)
  · cases h
def iEnuA (g : M (List D)) : M (List D) := mbind g fun ds => mlift (enumA1 ds)
section
variable {ι : Type} {X : ι → Cx} {K : RC} {W : WX} {k : Nat} {a : Expr} {g : M (List D)} {pos : Pos}
theorem id_enuA {p tpos : Pos} {elts : List Expr} {kk : Nat} (c : CF X K W k) (hg : ∀ i, Gl (X i) "enumerate") (hm : K.mg "enumerate" = none) (ha : AM X K W [a] g []) (hs : ∀ i, starEach [a] (X i).env = [(false, eval a (X i).env)] := by intro _; rfl) :
    ID X K W (.Tuple elts kk tpos) (.Call (.Name "enumerate" p) [a] [] pos) (iEnuA g) := by
  obtain ⟨t, pa, s⟩ := ha.ex
  refine ⟨ET.iEnuT K.K t, (fun i => by rw [← c.kk i]; exact ET.pi_enuT (hg i) (by rw [c.mg i]; exact hm) (pa i) (hs i)), fun fr ρ σ H R S q => s fr ρ σ H _ S ((QR.bind q).mono fun ds ρ1 q1 vs H1 hl _ S1 => ?_)⟩
  obtain ⟨l, el, q1⟩ := QR.lift q1
  obtain ⟨x, rfl, el⟩ := enumA1_one el
  obtain ⟨v, rfl⟩ := one_of hl rfl
  have S1 : Sim K fr (some x :: ρ1) (some v :: σ) H1 := S1
  obtain ⟨fr', S2, r, back⟩ := S1.frz.holdF (fro_frz x)
  rcases enumOfA_cases el with ⟨o, xs, h1, rfl⟩ | ⟨ns, h1, rfl⟩ | ⟨xs, h1, rfl⟩
  · rw [h1] at r
    have f1 := fro_frz x
    rw [h1] at f1
    cases o with
    | true => cases f1
    | false =>
      obtain ⟨_, p, us, rfl, hs, rr⟩ := r
      exact ⟨p, us, rfl, .inl ⟨SqL.mono S2.vfH (SqL.of hs), q1 _ H1 fr' S2 back (yields_enum (SqL.of hs) rr)⟩⟩
  · rw [h1] at r
    obtain ⟨_, p, rfl, hs⟩ := r
    exact ⟨p, _, rfl, .inl ⟨SqL.mono S2.vfH hs, q1 _ H1 fr' S2 back (yields_enum (H0 := H1) hs (rep_ints ns))⟩⟩
  · rw [h1] at r
    obtain ⟨_, p, us, rfl, hs, rr⟩ := r
    exact ⟨p, us, rfl, .inr ⟨SqT.mono S2.vfH hs, q1 _ H1 fr' S2 back (yields_enumT hs rr)⟩⟩
end
end DL

set_option Elab.async false
set_option linter.all false
set_option maxRecDepth 100000
set_option maxHeartbeats 4000000
namespace DL
open PySem PySem.Spec L2 PyProof.Rows
/-! ## own classes: fields read and stored, X(..) -/
def look (f : Str) : List Str → List D → Option D
  | n :: ns, d :: ds => if f = n then some d else look f ns ds
  | _, _ => none
def fldD (cs : List Str) (f : Str) (d : D) : Option D := match frz d with
  | .obj _ c ns ds => if c ∈ cs then look f ns ds else none
  | _ => none
def ClF (K : RC) (c f : Str) : Prop := ∃ C, K.mg c = some (.ref C) ∧ Cls K.K C ∧ NoAttr K.K C f
theorem rep_look {K : RC} {F H : Hp} {f : Str} : ∀ {fs : List (Str × V)} {ds : List D} {d : D}, RepL K F H ds (fs.map Prod.snd) [] → look f (fs.map Prod.fst) ds = some d → ∃ v, fs.lookup f = some v ∧ Rep K F H d v []
  | [], ds, d, r, e => by cases ds <;> cases e
  | (n, w) :: fs, [], d, r, e => by cases e
  | (n, w) :: fs, x :: ds, d, r, e => by
    obtain ⟨v, ws, B, C, e1, e2, r1, r2⟩ := r
    have hBC : B = [] ∧ C = [] := by simpa using e2.symm
    obtain ⟨rfl, rfl⟩ := hBC
    have e1 : w :: fs.map Prod.snd = v :: ws := e1
    injection e1 with e3 e4
    subst e3 e4
    have e : (if f = n then some x else look f (fs.map Prod.fst) ds) = some d := e
    by_cases h : f = n
    · rw [if_pos h] at e
      cases e
      exact ⟨w, by simp [List.lookup, h], r1⟩
    · rw [if_neg h] at e
      obtain ⟨u, h1, h2⟩ := rep_look r2 e
      have hb : (f == n) = false := by simp [h]
      exact ⟨u, by simp only [List.lookup, hb]; exact h1, h2⟩
section
variable {ι : Type} {X : ι → Cx} {K : RC} {W : WX} {k : Nat} {e : Expr} {es : List Expr} {fe : M D} {g : M (List D)} {pos : Pos} {pr : List Nat}
theorem ed_fld {f : Str} (cs : List Str) (c : CF X K W k) (hC : ∀ c ∈ cs, ClF K c f) (h : ED X K W e fe) (hb : ∀ i, attributeBase e f (X i).env (eval e (X i).env) = eval e (X i).env := by intro _; rfl) : ED X K W (.Attribute e f pos) (e1 (fldD cs f) fe) := by
  obtain ⟨t, p, s⟩ := h.ex
  refine ⟨tFld K.K t f, (fun i => by rw [← c.kk i]; exact pe_fld (p i) (hb i)), fun fr ρ σ H Q S q => s fr ρ σ H _ S ((QR.bind q).mono fun d ρ1 q1 v H1 S1 => ?_)⟩
  obtain ⟨d', e0, q2⟩ := QR.lift q1
  have S2 := S1.frz
  have hf := fro_frz d
  unfold fldD at e0
  cases ed : frz d with
  | obj o cn ns ds =>
    rw [ed] at e0 S2 hf
    replace e0 : (if cn ∈ cs then look f ns ds else none) = some d' := e0
    by_cases hm : cn ∈ cs
    · rw [if_pos hm] at e0
      cases o with
      | true => cases hf
      | false =>
        obtain ⟨C0, hg, hcl, hna⟩ := hC cn hm
        obtain ⟨A, T⟩ := S2
        obtain ⟨s', τ, B, Cc, e1, rfl, ⟨v', e2, r1⟩, r2⟩ := T.sl
        injection e1 with e3 e4
        subst e3 e4
        cases e2
        obtain ⟨hB, a, C, dx, fs, rfl, hg2, hx, hns, r⟩ := r1
        subst hB hns
        rw [hg] at hg2
        cases hg2
        obtain ⟨w, hw, rw⟩ := rep_look r e0
        refine ⟨a, C0, dx, fs, w, rfl, (hid_some.mp hx).2, hcl, hna, hw, q2 w H1 ?_⟩
        exact ⟨Cc, ⟨some w, σ, [], Cc, rfl, rfl, ⟨w, rfl, rw⟩, r2⟩, T.nd, T.off, T.keep, T.tr⟩
    · rw [if_neg hm] at e0
      cases e0
  | _ => rw [ed] at e0; cases e0
end
/-! ### self.f = e -/
theorem putF_new {f : Str} {v : V} : ∀ {fs : List (Str × V)}, f ∉ fs.map Prod.fst → putF f v fs = fs ++ [(f, v)]
  | [], _ => rfl
  | (n, x) :: fs, h => by
    have h1 : ¬ n = f := fun z => h (by rw [z]; exact List.mem_cons_self)
    show (if n = f then _ else (n, x) :: putF f v fs) = _
    rw [if_neg h1, putF_new fun z => h (List.mem_cons_of_mem _ z)]
    rfl
theorem Sim.addFld {K : RC} {fr : Fr} {ρ : DL.Env} {σ : L2.St} {H : Hp} {c : Str} {ns : List Str} {ds : List D} {d : D} {p : Addr} {v : V} (f : Str) (S : Sim K fr (some (.obj true c ns ds) :: some d :: ρ) (some (.ref p) :: some v :: σ) H) :
    ∃ C dx fs, K.mg c = some (.ref C) ∧ H p = some (.ins C dx fs) ∧ fs.map Prod.fst = ns ∧ Sim K fr (some (.obj true c (ns ++ [f]) (ds ++ [d])) :: ρ) (some (.ref p) :: σ) (upd H p (.ins C dx (fs ++ [(f, v)]))) := by
  obtain ⟨A, S⟩ := S
  obtain ⟨s1, τ1, B1, C1, e1, rfl, ⟨v1, ev, r1⟩, r2⟩ := S.sl
  injection e1 with e1 e2
  subst e1 e2
  cases ev
  obtain ⟨s2, τ2, B2, C2, e3, rfl, ⟨v2, ev, r3⟩, r4⟩ := r2
  injection e3 with e3 e4
  subst e3 e4
  cases ev
  obtain ⟨a, C, dx, fs, B, ea, rfl, hm, hx, hns, r1⟩ := r1
  cases ea
  refine ⟨C, dx, fs, hm, hx, hns, p :: (B ++ B2) ++ C2, ?_⟩
  have sub : ∀ a ∈ p :: (B ++ B2) ++ C2, a ∈ p :: B ++ (B2 ++ C2) ∨ H a = none := fun a z => .inl (by simpa [List.append_assoc] using z)
  have nd : (p :: (B ++ B2) ++ C2).Nodup := by
    have := S.nd
    simpa [List.append_assoc] using this
  have pn : p ∉ B ++ (B2 ++ C2) := by
    have := S.nd
    rw [List.cons_append] at this
    exact (List.nodup_cons.mp this).1
  have kp : ∀ a o, a ≠ p → H a = some o → upd H p (.ins C dx (fs ++ [(f, v)])) a = some o := fun a o n e => by rw [upd_ne n]; exact e
  have kpA : ∀ a o, a ∉ p :: B ++ (B2 ++ C2) → H a = some o → upd H p (.ins C dx (fs ++ [(f, v)])) a = some o := fun a o n e => kp a o (fun z => n (by simp [z])) e
  have fh := S.fro sub (H' := upd H p (.ins C dx (fs ++ [(f, v)]))) kpA
  have ne : ∀ a, a ∈ B ++ (B2 ++ C2) → a ≠ p := fun a z e => pn (e ▸ z)
  refine S.next sub nd kpA ⟨some (.ref p), _, p :: (B ++ B2), C2, rfl, rfl, ⟨.ref p, rfl, p, C, dx, fs ++ [(f, v)], B ++ B2, rfl, rfl, hm, upd_same, by rw [List.map_append, hns]; rfl, ?_⟩, r4.mono fh fun a z o e => kp a o (ne a (by simp [z])) e⟩
  rw [List.map_append]
  refine RepL.app (RepL.mono fh _ _ _ (fun a z o e => kp a o (ne a (by simp [z])) e) r1) ?_
  exact ⟨v, [], B2, [], rfl, by simp, Rep.mono fh _ _ _ (fun a z o e => kp a o (ne a (by simp [z])) e) r3, rfl, rfl⟩
def sFldS (cs : List Str) (i : Nat) (f : Str) (fe : M D) : SF := sE fe fun d ρ1 => match ρ1[i]? with
  | some (some (.obj true c ns ds)) => if c ∈ cs ∧ ns.length < 1000 ∧ f ∉ ns then .nx (ρ1.set i (some (.obj true c (ns ++ [f]) (ds ++ [d])))) else .stuck
  | _ => .stuck
section
variable {ι : Type} {X : ι → Cx} {K : RC} {W : WX} {k : Nat} {e : Expr} {es : List Expr} {fe : M D} {g : M (List D)} {pos : Pos} {pr : List Nat}
theorem sd_fld {f : Str} (cs : List Str) (c : CF X K W k) (hC : ∀ c ∈ cs, ClF K c f) (i : Nat) {x : Str} {p0 apos : Pos} (hx : ∀ j, PE (X j) (.Name x p0) (tVar i)) (h : ED X K W e fe)
    (hs : ∀ j, swapsWith e (some (.Attribute (.Name x p0) f apos)) pos.line (X j).env = pure false := by intro _; rfl) : SD X K W pr (.Assign [.Attribute (.Name x p0) f apos] e pos) (sFldS cs i f fe) := by
  obtain ⟨t, p, s⟩ := h.ex
  refine ⟨sFld K.K (tVar i) t f, (fun j => by rw [← c.kk j]; exact ps_fld (hx j) (p j) (hs j)), fun fr ρ σ H Dn S q => ?_⟩
  refine s fr ρ σ H _ S ((QS.ofE q).mono fun d ρ1 q1 v1 H1 S1 => ?_)
  cases e1 : ρ1[i]? with
  | none => rw [e1] at q1; exact q1.elim
  | some o => cases o with
    | none => rw [e1] at q1; exact q1.elim
    | some z => cases z with
      | obj o cn ns ds => cases o with
        | false => rw [e1] at q1; exact q1.elim
        | true =>
          rw [e1] at q1
          dsimp only at q1
          by_cases hz : cn ∈ cs ∧ ns.length < 1000 ∧ f ∉ ns
          · rw [if_pos hz] at q1
            obtain ⟨v, hv, S2⟩ := S1.move (i := i + 1) (show (some d :: ρ1)[i + 1]? = _ from by simpa using e1)
            have hv3 : σ[i]? = some (some v) := by simpa using hv
            have S2 : Sim K fr (some (.obj true cn ns ds) :: some d :: ρ1.set i none) (some v :: some v1 :: σ) H1 := S2
            obtain ⟨F0, B0, r0, _⟩ := S2.top
            obtain ⟨p0', C', dx', fs', B', rfl, _, _, _, _, _⟩ := r0
            obtain ⟨C, dx, fs, hm, hxp, hns, S3⟩ := S2.addFld f
            obtain ⟨C0, hg, hcl, hna⟩ := hC cn hz.1
            have hCC : C0 = C := by
              rw [hg] at hm
              cases hm
              rfl
            rw [hCC] at hcl hna
            have S4 := S3.back hv3
            rw [set_set_] at S4
            have hl : fs.length = ns.length := by rw [← hns, List.length_map]
            refine ⟨.ref p0', hv3, p0', C, dx, fs, rfl, hxp, hcl, hna, by omega, ?_⟩
            rw [putF_new (by rw [hns]; exact hz.2.2)]
            exact q1 σ _ .refl S4
          · rw [if_neg hz] at q1; exact q1.elim
      | _ => rw [e1] at q1; exact q1.elim
end
/-! ### X(..) -/
theorem Sim.newIns {K : RC} {fr : Fr} {ρ : DL.Env} {σ : L2.St} {H : Hp} {c : Str} {C x dx : Addr} (S : Sim K fr ρ σ H) (hm : K.mg c = some (.ref C)) (hx : H x = none) (hd : H dx = none) (ne : dx ≠ x) :
    Sim K fr (some (.obj true c [] []) :: ρ) (some (.ref x) :: σ) (upd (upd H dx (.own x)) x (.ins C dx [])) := by
  have kp1 : ∀ a o, H a = some o → upd (upd H dx (.own x)) x (.ins C dx []) a = some o := fun a o e => by
    rw [upd_ne (ne_of_none e hx), upd_ne (ne_of_none e hd)]; exact e
  obtain ⟨A, S⟩ := S
  have tr := S.sl.tr
  have sub : ∀ a ∈ x :: A, a ∈ A ∨ H a = none := fun a z => by
    rcases List.mem_cons.mp z with z | z
    · subst z; exact .inr hx
    · exact .inl z
  have f := S.fro sub (H' := upd (upd H dx (.own x)) x (.ins C dx [])) fun a o _ e => kp1 a o e
  exact ⟨x :: A, S.next sub (nodup_cons_fresh S.nd hx tr) (fun a o _ e => kp1 a o e) ⟨some (.ref x), σ, [x], A, rfl, rfl, ⟨.ref x, rfl, x, C, dx, [], [], rfl, rfl, hm, upd_same, rfl, rfl, rfl⟩, S.sl.mono f fun a _ o e => kp1 a o e⟩⟩
def tMakeSD (C : Addr) (sp : Sp) (dvs : List V) (E : L2.St → XK) (t : TA) : TE := fun σ H Q => t σ H fun vs H1 => ∀ x dx, H1 x = none → H1 dx = none → dx ≠ x →
  sp (.ref x :: (vs ++ dvs)) (upd (upd H1 dx (.own x)) x (.ins C dx [])) (fun v H2 => v = .non ∧ Q (.ref x) H2) (E σ)
section
variable {X : Cx} {CX : CXT} {k : Nat} {f C : Addr} {fd : FuncData} {ps : List Str} {sp : Sp} {dvs : List V} {ds : List Value} {E : L2.St → XK} {x : Str} {p pos : Pos} {e : Expr} {es : List Expr} {t : TA}
theorem run_makeSD {pins : List (Addr × Obj)} {σ : L2.St} {H : Hp} {s : Shared} {Q : VK} {us : List Value} {vs : List V} (M : Mk X.K C f) (F : FnOk X.prog X.w X.K X.mg X.base CX k f fd ps sp) (hr : Room (k + 1) X.A) (hb : Binds X.K fd ps ds) (hd : Vals dvs ds)
    (hx : PassesAt CX X σ (E σ)) (I : Inv X pins σ H s) (r : Vals vs us)
    (h : ∀ x dx, H x = none → H dx = none → dx ≠ x → sp (.ref x :: (vs ++ dvs)) (upd (upd H dx (.own x)) x (.ins C dx [])) (fun v H2 => v = .non ∧ Q (.ref x) H2) (E σ)) :
    wpAny (model X.prog X.w) X.A (call (.ref C) us) (EP X pins σ Q) X.xe s := by
  have hq := h (s.heap.objs.size + 1) s.heap.objs.size (I.hok.fresh (Nat.le_succ _)) (I.hok.fresh (Nat.le_refl _)) (Nat.ne_of_lt (Nat.lt_succ_self _))
  have I2 := Inv.made (C := C) I
  have r2 : Vals (V.ref (s.heap.objs.size + 1) :: (vs ++ dvs)) (Value.ref (s.heap.objs.size + 1) :: (us ++ ds)) := .cons rfl (r.append hd)
  have hl : (Value.ref (s.heap.objs.size + 1) :: us ++ ds).length = ps.length := by
    have e := r2.length
    rw [F.len _ _ _ _ hq] at e
    exact e.symm
  refine wpAny_call (make_map (f := f) I.kIn M.makes M.init (beq_iff_eq.mp M.fn) (codeAny_mono (F.run _ X.stack _ _ ⟨Value.ref (s.heap.objs.size + 1) :: us, []⟩ (Value.ref (s.heap.objs.size + 1) :: (us ++ ds)) _ _ (E σ) (hr.make C us [])
    (I2.env0.make C us []) (hb _ (Value.ref (s.heap.objs.size + 1) :: us) I2.kIn hl) r2 hq) fun r s' hq' => ?_))
  cases r with
  | error e => exact hx pins _ _ e s' I2 hq'
  | ok fl =>
    cases fl with
    | ret u =>
      obtain ⟨v, H', I3, rv, ev, q3⟩ := I2.after hq'
      subst ev
      exact ⟨rv, ⟨V.ref (s.heap.objs.size + 1), H', I3, rfl, q3⟩⟩
    | next => exact False.elim hq'
    | brk => exact False.elim hq'
    | cont => exact False.elim hq'
theorem pe_makeSD (M : Mk X.K C f) (F : FnOk X.prog X.w X.K X.mg X.base CX k f fd ps sp) (hr : Room (k + 1) X.A) (hg : Gl X x) (hm : X.mg x = some (.ref C)) (hb : Binds X.K fd ps ds) (hd : Vals dvs ds) (hx : ∀ σ, PassesAt CX X σ (E σ))
    (ha : PA X (e :: es) t) (hdb : (x == ("__debug__" : Str)) = false := by decide) (he : starEach (e :: es) X.env = (false, eval e X.env) :: starEach es X.env := by rfl) (hpl : (backTo pos (starEach es X.env)).any (·.1) = false := by rfl) :
    PE X (.Call (.Name x p) (e :: es) [] pos) (tMakeSD C sp dvs E t) := by
  refine ⟨fun pins s σ H Q I h => ?_⟩
  refine wpAny_Call_Name_kw (ld_glob I hg hm ?_ hdb)
  refine PySem.W.callWith_K (h₀ := X.base) I.ok.mod.kin M.kp (thn (ha.run pos pins s σ H _ I h) fun us s1 ⟨vs, H1, I1, r, q⟩ => ⟨I1.kIn, ?_⟩) he hpl
  exact run_makeSD M F hr hb hd (hx σ) I1 r q
end
/-- a class of the text, made -/
def MkD (P : Program) (w : World) (K : PySem.W.Frag) (mg : Str → Option Value) (base : Heap) (k : Nat) (x : Str) (n : Nat) (F : List D → Res D) : Prop :=
  ∃ C f fd ps, mg x = some (.ref C) ∧ Mk K C f ∧ Binds K fd ps [] ∧ ps.length = n ∧ FnOk P w K mg base (L2.CX P w) k f fd ps (spD ⟨K, mg⟩ n F)
abbrev MkX (X : Cx) := MkD X.prog X.w X.K X.mg X.base
def eMake (c : Str) (F : List D → Res D) (fa : M (List D)) : M D := mbind fa fun ds ρ => match F (.obj true c [] [] :: ds) with
  | .ok .non (some d :: _) => .ok d ρ
  | .exc cn fs _ => .exc cn fs ρ
  | _ => .stuck
section
variable {ι : Type} {X : ι → Cx} {K : RC} {W : WX} {k j n m : Nat} {e : Expr} {es : List Expr} {g : M (List D)} {pos p : Pos} {x : Str} {F : List D → Res D}
theorem ed_make (c : CF X K W k) (h : ∀ i, MkX (X i) j x n F) (hj : j + 1 ≤ k) (hg : ∀ i, Gl (X i) x) (hgn : ∀ i, (X i).mg x = K.mg x) (ha : AM X K W (e :: es) g []) (hl : ALen g m) (hn : m + 1 = n := by rfl) (hdb : (x == ("__debug__" : Str)) = false := by decide)
    (he : ∀ i, starEach (e :: es) (X i).env = (false, eval e (X i).env) :: starEach es (X i).env := by intro _; rfl) (hpl : ∀ i, (backTo pos (starEach es (X i).env)).any (·.1) = false := by intro _; rfl) : ED X K W (.Call (.Name x p) (e :: es) [] pos) (eMake x F g) := by
  obtain ⟨t, pa, s⟩ := ha.ex
  refine ⟨fun σ H Q => ∀ C, K.mg x = some (.ref C) → tMakeSD C (spD K n F) [] (WE W) t σ H Q, (fun i => ?_), fun fr ρ σ H Q S q C hC => ?_⟩
  · obtain ⟨C, f, fd, ps, hm, M, hb, hlp, hF⟩ := h i
    have z := pe_makeSD (p := p) (E := WE W) (t := t) M hF ((c.room i).mono hj) (hg i) hm hb .nil (fun σ => passAt (c.tk i) σ) (pa i) hdb (he i) (hpl i)
    refine ⟨fun pins s σ H Q I hh => z.run pins s σ H Q I ?_⟩
    have hh2 := hh C (by rw [← hgn i]; exact hm)
    rw [← c.K i] at hh2
    exact hh2
  · have hq : QR K W fr σ (g ρ) fun ds ρ1 => g ρ = .ok ds ρ1 ∧ QE K W fr σ (match F (.obj true x [] [] :: ds) with
      | .ok .non (some d :: _) => .ok d ρ1
      | .exc cn fs _ => .exc cn fs ρ1
      | _ => .stuck) Q := by
      have := QR.bind q
      cases e : g ρ with
      | ok ds ρ1 => rw [e] at this; exact ⟨rfl, this⟩
      | exc c fs ρ1 => rw [e] at this; exact this
      | stuck => rw [e] at this; exact this
    refine s fr ρ σ H _ S (hq.mono fun ds ρ1 ⟨e, q1⟩ vs H1 hlv _ S1 x0 dx hx hdx hne => ?_)
    have hN := hl ρ ds ρ1 e
    have S2 := S1.newIns hC hx hdx hne
    have S2 : Sim K fr ((D.obj true x [] [] :: ds).map some ++ ρ1) ((V.ref x0 :: vs).map some ++ σ) (upd (upd H1 dx (.own x0)) x0 (.ins C dx [])) := S2
    have hlv2 : ((V.ref x0 :: vs).map some).length = ((D.obj true x [] [] :: ds).map some).length := by simp [hlv]
    obtain ⟨fr', S3, back⟩ := Sim.frame hlv2 S2
    rw [List.append_nil]
    refine ⟨fr', .obj true x [] [] :: ds, by rw [List.length_cons, hlv, hN]; exact hn, by rw [List.length_cons, hN]; exact hn, S3, ?_⟩
    cases eF : F (.obj true x [] [] :: ds) with
    | ok d os =>
      rw [eF] at q1
      cases d with
      | non =>
        cases os with
        | nil => exact q1.elim
        | cons o os => cases o with
          | none => exact q1.elim
          | some d =>
            intro v H' S4
            refine ⟨S4.topF rfl, ?_⟩
            have S5 := (back _ _ _ S4).drop
            have S5 : Sim K fr (some d :: (os ++ ρ1)) (some (.ref x0) :: (vs.map some ++ σ)) H' := S5
            have hlo : (vs.map some).length = os.length := by
              have := S4.len
              simp only [List.length_cons, List.length_map] at this
              simp only [List.length_map]
              omega
            obtain ⟨fr2, S6, back2⟩ := Sim.hold S5
            exact q1 _ H' (back2 _ _ _ (S6.dropN hlo))
      | _ => exact q1.elim
    | exc cn fs os =>
      rw [eF] at q1
      intro cls dd H' xx S4
      have hlo : ((V.ref x0 :: vs).map some).length = os.length := by
        have := S4.len
        omega
      exact q1 cls dd H' xx ((back _ _ _ S4).dropN hlo)
    | stuck => rw [eF] at q1; exact q1.elim
end
end DL

set_option Elab.async false
set_option linter.all false
set_option maxRecDepth 100000
set_option maxHeartbeats 4000000
namespace DL
open PySem PySem.Spec L2 PyProof.Rows
/-! ## a def that calls itself: nothing is promised where the depth is used up -/
theorem fnok_stuck {P : Program} {w : World} {K : PySem.W.Frag} {mg : Str → Option Value} {base : Heap} {k n : Nat} {f : Addr} {fd : FuncData} {ps : List Str} : FnOk P w K mg base (L2.CX P w) k f fd ps (spD ⟨K, mg⟩ n fun _ => .stuck) :=
  ⟨fun vs H Q E h => by obtain ⟨_, _, _, _, _, h⟩ := h; exact h.elim, fun A outer s H args us vs Q E _ _ _ _ h => by obtain ⟨_, _, _, _, _, h⟩ := h; exact h.elim⟩
/-! ## len(set(x)), x a list of ints -/
def tLenSetL (K : PySem.W.Frag) (ta : TE) : TE := fun σ H Q => ta σ H fun x H1 => ∃ (l : Addr) (ns : List Int), x = V.ref l ∧ (SqT K H1 l (ns.map V.int) ∨ SqL K H1 l (ns.map V.int)) ∧ ns.length < 1000 ∧ Q (.int (once ns).length) H1
theorem met_mem {v : Nat → Int} : ∀ {i : Nat} {x : Int}, x ∈ firstMet v i ↔ ∃ j, j < i ∧ v j = x
  | 0, x => ⟨fun h => (by cases h), fun ⟨j, h, _⟩ => absurd h (Nat.not_lt_zero j)⟩
  | i + 1, x => by
    rw [firstMet_succ]
    unfold step_dedup
    have hs : (firstMet v i).any (· == v i) = true ↔ v i ∈ firstMet v i := by
      rw [List.any_eq_true]
      exact ⟨fun ⟨y, h1, h2⟩ => by rw [← beq_iff_eq.mp h2]; exact h1, fun h => ⟨_, h, by simp⟩⟩
    have key : x ∈ firstMet v i ∨ x = v i ↔ ∃ j, j < i + 1 ∧ v j = x := by
      rw [met_mem]
      refine ⟨fun h => ?_, fun ⟨j, h1, h2⟩ => ?_⟩
      · rcases h with ⟨j, h1, h2⟩ | h
        · exact ⟨j, Nat.lt_succ_of_lt h1, h2⟩
        · exact ⟨i, Nat.lt_succ_self i, h.symm⟩
      · by_cases e : j = i
        · subst e; exact .inr h2.symm
        · exact .inl ⟨j, by omega, h2⟩
    by_cases h : (firstMet v i).any (· == v i) = true
    · rw [if_pos h, ← key]
      exact ⟨.inl, fun q => q.elim id fun e => by rw [e]; exact hs.mp h⟩
    · rw [if_neg h, ← key, List.mem_append, List.mem_singleton]
theorem met_nodup {v : Nat → Int} : ∀ i : Nat, (firstMet v i).Nodup
  | 0 => List.nodup_nil
  | i + 1 => by
    rw [firstMet_succ]
    unfold step_dedup
    by_cases h : (firstMet v i).any (· == v i) = true
    · rw [if_pos h]; exact met_nodup i
    · rw [if_neg h]
      refine List.nodup_append.mpr ⟨met_nodup i, by simp, fun a ha b hb e => h ?_⟩
      rw [List.mem_singleton.mp hb] at e
      exact List.any_eq_true.mpr ⟨a, ha, by simp [e]⟩
theorem met_once (ns : List Int) : (firstMet (fun i => ns.getD i 0) ns.length).length = (once ns).length := once_len (met_nodup _) fun x => by
  rw [met_mem]
  refine ⟨fun ⟨j, h, e⟩ => ?_, fun h => ?_⟩
  · rw [← e, List.getD_eq_getElem?_getD, List.getElem?_eq_getElem h]
    exact List.getElem_mem h
  · obtain ⟨j, h, e⟩ := List.getElem_of_mem h
    exact ⟨j, h, by rw [List.getD_eq_getElem?_getD, List.getElem?_eq_getElem h]; exact e⟩
theorem pe_lenSetL {X : Cx} {a : Expr} {ta : TE} {p p2 q pos : Pos} (hc : X.calm = true) (hg : Gl X "len") (hm : X.mg "len" = none) (hg2 : Gl X "set") (hm2 : X.mg "set" = none) (ha : PE X a ta)
    (na : starEach [a] X.env = (false, eval a X.env) :: starEach [] X.env := by rfl) : PE X (.Call (.Name "len" p) [.Call (.Name "set" p2) [a] [] q] [] pos) (tLenSetL X.K ta) := by
  refine ⟨fun pins s σ H Q I h => ?_⟩
  refine Call_ (ld_blt I hg hm PySem.boot_len ?_)
  refine PyProof.Rows.callWith_builtin1 (PyProof.Rows.args_cons ?_ rfl) rfl rfl
  refine Call_ (ld_blt I hg2 hm2 PyProof.Rows.boot_set ?_)
  refine PyProof.Rows.callWith_type1 (PyProof.Rows.args_cons (thn (ha.run pins s σ H _ I h) fun v s1 ⟨x, H1, I1, r1, q1⟩ => PyProof.Rows.args_nil ?_) na) na rfl
  obtain ⟨l, ns, rfl, hq, h1, q1⟩ := q1
  cases r1
  rcases hq with hq | hq
  · obtain ⟨its, r, pl, hz⟩ := I1.tuple hq
    refine call_set_tupI ns (I1.ok.hd hc) pl (by simpa using r.ints) (by unfold scanBound; omega) fun h' tk c hS hcl hk => ?_
    refine PyProof.Rows.args_nil ?_
    obtain ⟨o, es, ep, t, ho, hex, hd, hg, hnd, hmem, hf, hfit, hn, _⟩ := hS
    have I2 : Inv X pins σ H1 { s1 with heap := h', toks := tk } := I1.kept fun b o e => hk b o e
    have hl : c = (once ns).length := by
      have z := once_len (l := ns) hnd fun x => by rw [← hmem x]; exact decide_eq_true_iff
      rw [List.length_map, Array.length_toList, hn] at z
      exact z
    exact call_len_set ho hex hd hfit (by unfold scanBound at hf; omega) ⟨.int (once ns).length, H1, I2.tok _, ⟨_, by rw [hn, hl]⟩, q1⟩
  · obtain ⟨its, r, pl, hz⟩ := I1.list hq
    have hl : its.toArray.size = ns.length := by rw [List.size_toArray, ← r.length, List.length_map]
    refine call_set_list (I1.ok.hd hc) pl.isList (ns := ns) (by simpa using r.ints) (by unfold scanBound; omega) fun h' tk hS hk => ?_
    refine PyProof.Rows.args_nil ?_
    rw [hl, met_once] at hS
    obtain ⟨o, es, ep, t, ho, hex, hd, _, _, _, hf, hn⟩ := hS
    have I2 : Inv X pins σ H1 { s1 with heap := h', toks := tk } := I1.kept fun b o e => hk b o (Heap.lt_size e) e
    have hsm : (once ns).length ≤ ns.length := by
      rw [← met_once]
      exact firstMet_length_le _ _
    exact call_len_set ho hex hd hf (by rw [hn]; omega) ⟨.int (once ns).length, H1, I2.tok _, ⟨_, by rw [hn]⟩, q1⟩
def lenSetA (d : D) : Option D := (items d).bind fun ds => (intsL ds).bind fun ns => if ns.length < 1000 then some (.int (once ns).length) else none
section
variable {ι : Type} {X : ι → Cx} {K : RC} {W : WX} {k : Nat} {e : Expr} {f : M D} {pos p p2 q : Pos}
theorem ed_lenSetA (c : CF X K W k) (hg : ∀ i, Gl (X i) "len") (hm : K.mg "len" = none) (hg2 : ∀ i, Gl (X i) "set") (hm2 : K.mg "set" = none) (h : ED X K W e f) (hs : ∀ i, starEach [e] (X i).env = (false, eval e (X i).env) :: starEach [] (X i).env := by intro _; rfl) :
    ED X K W (.Call (.Name "len" p) [.Call (.Name "set" p2) [e] [] q] [] pos) (e1 lenSetA f) := by
  obtain ⟨t, pp, s⟩ := h.ex
  refine ⟨tLenSetL K.K t, (fun i => by rw [← c.kk i]; exact pe_lenSetL (c.calm i) (hg i) (by rw [c.mg i]; exact hm) (hg2 i) (by rw [c.mg i]; exact hm2) (pp i) (hs i)), fun fr ρ σ H Q S q => s fr ρ σ H _ S ((QR.bind q).mono fun d ρ1 q1 v H1 S1 => ?_)⟩
  obtain ⟨d', e0, q2⟩ := QR.lift q1
  have fin : ∀ ds, items d = some ds → ∃ ns, intsL ds = some ns ∧ ns.length < 1000 ∧ d' = .int (once ns).length := by
    intro ds hds
    unfold lenSetA at e0
    rw [hds] at e0
    simp only [Option.bind_some] at e0
    cases e1 : intsL ds with
    | none => rw [e1] at e0; cases e0
    | some ns =>
      rw [e1] at e0
      simp only [Option.bind_some] at e0
      by_cases hz : ns.length < 1000
      · rw [if_pos hz] at e0; cases e0; exact ⟨ns, rfl, hz, rfl⟩
      · rw [if_neg hz] at e0; cases e0
  obtain ⟨F, B, r, kk⟩ := S1.top
  cases d with
  | tup ds =>
    obtain ⟨ns, e1, hz, rfl⟩ := fin ds rfl
    obtain ⟨_, a, xs, rfl, hx, r⟩ := r
    have ex := ints_rep e1 r
    exact ⟨a, ns, rfl, .inl (by rw [← ex]; exact SqT.mono kk hx), hz, q2 _ H1 (S1.drop.pushF rfl)⟩
  | lst o ds =>
    obtain ⟨ns, e1, hz, rfl⟩ := fin ds rfl
    cases o with
    | false =>
      obtain ⟨_, a, xs, rfl, hx, r⟩ := r
      have ex := ints_rep e1 r
      exact ⟨a, ns, rfl, .inr (by rw [← ex]; exact SqL.of (kk _ _ hx)), hz, q2 _ H1 (S1.drop.pushF rfl)⟩
    | true =>
      obtain ⟨a, xs, B', rfl, _, hx, r⟩ := r
      have ex := ints_rep e1 r
      exact ⟨a, ns, rfl, .inr (by rw [← ex]; exact SqL.of hx), hz, q2 _ H1 (S1.drop.pushF rfl)⟩
  | scr ms =>
    obtain ⟨ns, e1, hz, rfl⟩ := fin _ rfl
    have : ns = ms := by rw [intsL_map] at e1; exact (Option.some.inj e1).symm
    subst this
    obtain ⟨_, a, rfl, hx⟩ := r
    exact ⟨a, ns, rfl, .inr (SqL.mono kk hx), hz, q2 _ H1 (S1.drop.pushF rfl)⟩
  | _ => cases e0
end
end DL

set_option Elab.async false
set_option linter.all false
set_option maxRecDepth 100000
set_option maxHeartbeats 4000000
namespace DLM
open PySem PySem.Spec PyProof.Rows L2
/-! ### zip of a list and a tuple -/
abbrev mh1 (h : Heap) (a : Addr) : Heap := h.push { cls := .type "list_iterator", data := .fields #[.ref a, .int 0 0] }
abbrev mh2 (h : Heap) (a b : Addr) : Heap := (mh1 h a).push { cls := .type "tuple_iterator", data := .fields #[.ref b, .int 0 0] }
abbrev mh3 (h : Heap) (a b : Addr) : Heap := (mh2 h a b).push { cls := .type "tuple", data := .seq #[.ref h.objs.size, .ref (mh1 h a).objs.size] }
abbrev mh4 (h : Heap) (a b : Addr) : Heap := (mh3 h a b).push { cls := .type "tuple", data := .seq #[.none, .none] }
abbrev mh5 (h : Heap) (a b : Addr) : Heap := (mh4 h a b).push { cls := .type "zip", data := .fields #[.none, .bool false, .bool false, .ref (mh2 h a b).objs.size, .ref (mh3 h a b).objs.size] }
theorem meets_zipM (a b : Addr) (us vs : Array Value) :
    Meets (Builtin.«zip.__new__» ⟨[.type "zip", .ref a, .ref b], []⟩) (fun _ R s => s.heap.IsList a us ∧ s.heap.IsTuple b vs ∧
      R (.ok (.ret (.ref (mh4 s.heap a b).objs.size))) { s with heap := mh5 s.heap a b }) :=
  .of_wp fun prog w A R s hyp => by
    obtain ⟨hh, gg, dd, tt, oo⟩ := s; obtain ⟨ka, kb, hyp⟩ := hyp
    have hsub := sub_zip
    have qa : Heap.IsList (Shared.heap ⟨hh, gg, dd, tt, oo⟩) a us := ka
    have qb : Heap.IsTuple (Shared.heap ⟨mh1 hh a, gg, dd, tt, oo⟩) b vs := Heap.IsTuple.push kb _
    wp_walk using wpAny_pyIter_list qa, wpAny_pyIter_tuple qb
    exact ⟨_, rfl, hyp⟩
section
variable {prog : Program} {w : World} {A : Around} {E : Value → Shared → Prop} {s : Shared}
theorem call_zipM {a b : Addr} {us vs : Array Value} {Q : Value → Shared → Prop} (ka : s.heap.IsList a us) (kb : s.heap.IsTuple b vs)
    (k : ∀ h', IsZip h' (s.heap.objs.size + 4) (s.heap.objs.size + 2) (s.heap.objs.size + 3) .none → IsPair h' (s.heap.objs.size + 2) (.ref s.heap.objs.size) (.ref (s.heap.objs.size + 1)) →
      IsPair h' (s.heap.objs.size + 3) .none .none → h'.IsListIter s.heap.objs.size a 0 → h'.IsTupleIter (s.heap.objs.size + 1) b 0 →
      (∀ c o, s.heap.get? c = some o → h'.get? c = some o) → Q (.ref (s.heap.objs.size + 4)) { s with heap := h' }) :
    wpAny (model prog w) A (call (.type "zip") [.ref a, .ref b]) Q E s := by
  refine callType_new F.called_zip (by decide) (F.typeCall_zip_2 _ _) (F.newCall_zip_2 _ _) (fun ob => F.args_object_init_3 ob _ _) F.entry_zip_new (meets_zipM a b us vs) ⟨ka, kb, ?_⟩
  have s1 : (mh1 s.heap a).objs.size = s.heap.objs.size + 1 := Heap.size_push ..
  have s2 : (mh2 s.heap a b).objs.size = s.heap.objs.size + 2 := by rw [Heap.size_push, s1]
  have s3 : (mh3 s.heap a b).objs.size = s.heap.objs.size + 3 := by rw [Heap.size_push, s2]
  have s4 : (mh4 s.heap a b).objs.size = s.heap.objs.size + 4 := by rw [Heap.size_push, s3]
  have g5 : (mh5 s.heap a b).get? (mh4 s.heap a b).objs.size = some _ := Heap.get?_push_size _ rfl
  have g4 : (mh5 s.heap a b).get? (mh3 s.heap a b).objs.size = some _ := Heap.get?_push_of_some _ (Heap.get?_push_size _ rfl)
  have g3 : (mh5 s.heap a b).get? (mh2 s.heap a b).objs.size = some _ := Heap.get?_push_of_some _ (Heap.get?_push_of_some _ (Heap.get?_push_size _ rfl))
  have g2 : (mh5 s.heap a b).get? (mh1 s.heap a).objs.size = some _ := Heap.get?_push_of_some _ (Heap.get?_push_of_some _ (Heap.get?_push_of_some _ (Heap.get?_push_size _ rfl)))
  have g1 : (mh5 s.heap a b).get? s.heap.objs.size = some _ := Heap.get?_push_of_some _ (Heap.get?_push_of_some _ (Heap.get?_push_of_some _ (Heap.get?_push_of_some _ (Heap.get?_push_size _ rfl))))
  show _ ∧ _
  rw [s2, s3, s4] at g5
  rw [s1, s2] at g3
  rw [s3] at g4
  rw [s1] at g2
  rw [s4]
  refine ⟨⟨_, g5, rfl⟩, k _ g5 g3 g4 ⟨_, g1, rfl, rfl⟩ ⟨_, g2, rfl, rfl⟩ fun c o x => ?_⟩
  have x1 : (mh1 s.heap a).get? c = some o := Heap.get?_push_of_some _ x
  have x2 : (mh2 s.heap a b).get? c = some o := Heap.get?_push_of_some _ x1
  have x3 : (mh3 s.heap a b).get? c = some o := Heap.get?_push_of_some _ x2
  have x4 : (mh4 s.heap a b).get? c = some o := Heap.get?_push_of_some _ x3
  exact Heap.get?_push_of_some _ x4
end
def ItzM (K : PySem.W.Frag) (a b : Addr) : It :=
  ⟨fun i H => ∃ (xs ys : List V) (x y : V), SqL K H a xs ∧ SqT K H b ys ∧ xs[i]? = some x ∧ ys[i]? = some y,
    fun i H v H' => ∃ T x y, v = .ref T ∧ H T = none ∧ H' = upd H T (.tup [x, y]) ∧ (∀ xs, SqL K H a xs → xs[i]? = some x) ∧ ∀ ys, SqT K H b ys → ys[i]? = some y,
    fun i H => ∃ xs ys : List V, SqL K H a xs ∧ SqT K H b ys ∧ (xs.length ≤ i ∨ ys.length ≤ i)⟩
theorem sep_of {z TI TO i1 i2 a b : Addr} (D : ZipApart z TI TO i1 i2 a b) (hb : b ≠ i1) : ZipSep2 z TI TO i1 i2 [i1, a] [i2, b] where
  TIz := D.TIz
  TOz := D.TOz
  TITO := D.TITO
  TIi1 := D.TIi1
  mem1 := by simp
  zf1 := by simp [D.i1z.symm, D.l1z.symm]
  Tf1 := by simp [D.TOi1, D.l1TO.symm]
  TIi2 := D.TIi2
  mem2 := by simp
  zf2 := by simp [D.i2z.symm, D.l2z.symm]
  Tf2 := by simp [D.TOi2, D.l2TO.symm]
  sep1_2 := by simp [D.i12, hb.symm]
  sep2_1 := by simp [D.i12.symm, D.l1i2.symm]
theorem endL {prog : Program} {w : World} {A : Around} (hh : A.handled = none) {it l : Addr} {items : Array Value} {i : Nat} (hx : items[i]? = none) :
    Draws prog w A it [it, l] i (fun _ _ => True) (fun j h => i ≤ j ∧ h.IsListIter it l j ∧ h.IsList l items) where
  live := fun _ _ st => let ⟨o, ho, _⟩ := st.2.1; ⟨o, ho⟩
  frame := fun _ _ _ st hk => ⟨st.1, st.2.1.at fun o e => hk it (by simp) o e, st.2.2.at fun o e => hk l (by simp) o e⟩
  item := fun j s Q E hi st hQ => absurd hi (Nat.not_lt.mpr st.1)
  done := fun s Q E st hE => wpAny_nextOf_list_end hh st.2.1 st.2.2 hx hE
theorem endT {prog : Program} {w : World} {A : Around} (hh : A.handled = none) {it l : Addr} {items : Array Value} {i : Nat} (hx : items[i]? = none) :
    Draws prog w A it [it, l] i (fun _ _ => True) (fun j h => i ≤ j ∧ h.IsTupleIter it l j ∧ h.IsTuple l items) where
  live := fun _ _ st => let ⟨o, ho, _⟩ := st.2.1; ⟨o, ho⟩
  frame := fun _ _ _ st hk => ⟨st.1, st.2.1.at fun o e => hk it (by simp) o e, st.2.2.at fun o e => hk l (by simp) o e⟩
  item := fun j s Q E hi st hQ => absurd hi (Nat.not_lt.mpr st.1)
  done := fun s Q E st hE => wpAny_nextOf_tuple_end hh st.2.1 st.2.2 hx hE
theorem nextM_end {prog : Program} {w : World} {A : Around} {E : Value → Shared → Prop} {s : Shared} {z TI TO i1 i2 a b : Addr} {i : Nat} {us vs : Array Value} {p q : Value} {Q : Option Value → Shared → Prop} (hh : A.handled = none) (D : ZipApart z TI TO i1 i2 a b)
    (kz : IsZip s.heap z TI TO .none) (kI : IsPair s.heap TI (.ref i1) (.ref i2)) (kO : IsPair s.heap TO p q) (k1 : s.heap.IsListIter i1 a i) (k2 : s.heap.IsTupleIter i2 b i) (ka : s.heap.IsList a us) (kb : s.heap.IsTuple b vs) (he : us[i]? = none ∨ vs[i]? = none)
    (k : ∀ h' tk, (∀ c o, c ≠ z → c ≠ TO → c ≠ i1 → c ≠ i2 → s.heap.get? c = some o → h'.get? c = some o) → Q none { s with heap := h', toks := tk }) : wpAny (model prog w) A (pyNext (.ref z)) Q E s := by
  have hh : A.in1.handled = none := hh
  cases h1 : us[i]? with
  | none =>
    cases h2 : vs[i]? with
    | none =>
      have D1 := endL (prog := prog) (w := w) (it := i1) (l := a) hh h1
      have D2 := endT (prog := prog) (w := w) (it := i2) (l := b) hh h2
      exact wpAny_pyNext_zipD2_end (sep_of D D.l2i1) D1 D2 kz kI kO ⟨Nat.le_refl _, k1, ka⟩ ⟨Nat.le_refl _, k2, kb⟩ (Nat.le_refl _) (Nat.le_refl _) (.inl rfl) k
    | some y =>
      have l2 : i < vs.size := (Array.getElem?_eq_some_iff.mp h2).1
      have D1 := endL (prog := prog) (w := w) (it := i1) (l := a) hh h1
      have D2 := Draws.tuple (prog := prog) (w := w) hh i2 b D.l2i2 vs
      exact wpAny_pyNext_zipD2_end (sep_of D D.l2i1) D1 D2 kz kI kO ⟨Nat.le_refl _, k1, ka⟩ ⟨k2, kb⟩ (Nat.le_refl _) (by omega) (.inl rfl) k
  | some x =>
    have l1 : i < us.size := (Array.getElem?_eq_some_iff.mp h1).1
    have h2 : vs[i]? = none := by
      rcases he with e | e
      · rw [e] at h1; cases h1
      · exact e
    have D1 := Draws.list (prog := prog) (w := w) hh i1 a D.l1i1 us
    have D2 := endT (prog := prog) (w := w) (it := i2) (l := b) hh h2
    exact wpAny_pyNext_zipD2_end (sep_of D D.l2i1) D1 D2 kz kI kO ⟨k1, ka⟩ ⟨Nat.le_refl _, k2, kb⟩ (by omega) (Nat.le_refl _) (.inr rfl) k
theorem turn_zipM {P : Program} {w : World} {K : PySem.W.Frag} {elts : List Expr} {kk : Nat} {tpos : Pos} {a b z TI TO i1 i2 : Addr} (D : ZipApart z TI TO i1 i2 a b) :
    Turn P w K (.Tuple elts kk tpos) (ItzM K a b) [z, TI, TO, i1, i2] z (fun i h => IsZip h z TI TO .none ∧ IsPair h TI (.ref i1) (.ref i2) ∧ (∃ x y, IsPair h TO x y) ∧ h.IsListIter i1 a i ∧ h.IsTupleIter i2 b i) where
  mem := by simp
  obj := fun i h st c hc => by
    obtain ⟨kz, kI, ⟨p, q, kO⟩, ⟨o1, y1, _, d1⟩, ⟨o2, y2, _, d2⟩⟩ := st
    have w : c = z ∨ c = TI ∨ c = TO ∨ c = i1 ∨ c = i2 := by simpa using hc
    rcases w with r | r | r | r | r <;> rw [r]
    · exact ⟨_, kz, fun v t => nomatch t⟩
    · exact ⟨_, kI, fun v t => nomatch t⟩
    · exact ⟨_, kO, fun v t => nomatch t⟩
    · exact ⟨o1, y1, fun v t => by rw [d1] at t; cases t⟩
    · exact ⟨o2, y2, fun v t => by rw [d2] at t; cases t⟩
  keep := fun i h h' st k => by
    obtain ⟨kz, kI, ⟨p, q, kO⟩, k1, k2⟩ := st
    exact ⟨k z (by simp) _ kz, k TI (by simp) _ kI, ⟨p, q, k TO (by simp) _ kO⟩, k1.at fun o t => k i1 (by simp) o t, k2.at fun o t => k i2 (by simp) o t⟩
  item := by
    intro X hP hw hK hc i pins s σ H E I hf st hg
    subst hP hw hK
    obtain ⟨kz, kI, ⟨p0, q0, kO⟩, k1, k2⟩ := st
    obtain ⟨xs, ys, x, y, hqx, hqy, hx, hy⟩ := hg
    obtain ⟨its, rv, p, _⟩ := I.list hqx
    obtain ⟨its2, rv2, p2, _⟩ := I.tuple hqy
    obtain ⟨u, hu, ru⟩ := rv.get hx
    obtain ⟨u2, hu2, ru2⟩ := rv2.get hy
    have hzl : z < s.heap.objs.size := Heap.lt_size kz
    have l1 : i < its.toArray.size := by simpa using (List.getElem?_eq_some_iff.mp hu).1
    have l2 : i < its2.toArray.size := by simpa using (List.getElem?_eq_some_iff.mp hu2).1
    have hh : X.A.in1.handled = none := I.ok.hd hc
    have D1 := Draws.list (prog := X.prog) (w := X.w) hh i1 a D.l1i1 its.toArray
    have D2 := Draws.tuple (prog := X.prog) (w := X.w) hh i2 b D.l2i2 its2.toArray
    refine wpAny_pyNext_zipD2_item (sep_of D D.l2i1) D1 D2 kz kI kO ⟨k1, p.isList⟩ ⟨k2, p2⟩ l1 l2 fun v1 v2 h' tk r1 r2 z' TO' t1 t2 hT hsz hk => ?_
    have er1 : u = v1 := by simpa [hu] using r1
    have er2 : u2 = v2 := by simpa [hu2] using r2
    subst er1
    subst er2
    refine ⟨_, rfl, wpAny_letOwnedTupleGo_zip (s := { s with heap := h', toks := tk }) z' fun h2 z2 sb => ?_⟩
    have hT2 : h2.get? s.heap.objs.size = some { cls := .type "tuple", data := .seq #[u, u2] } := (sb.2 _ (Nat.ne_of_gt hzl)).trans hT
    have nw : ObjOk X.prog X.w (upd H s.heap.objs.size (.tup [x, y])) h2 s.heap.objs.size (.tup [x, y]) :=
      ⟨by show 2 ≤ sizeLine; decide, [u, u2], .cons ru (.cons ru2 .nil), ⟨_, hT2, rfl, _, rfl⟩⟩
    have kp : ∀ c o, c ∉ [z, TI, TO, i1, i2] → s.heap.get? c = some o → h2.get? c = some o := fun c o hb t =>
      (sb.2 c (fun w => hb (by simp [w]))).trans (hk c o (fun w => hb (by simp [w])) (fun w => hb (by simp [w])) (fun w => hb (by simp [w])) (fun w => hb (by simp [w])) t)
    have I1 : Inv X pins σ (upd H s.heap.objs.size (.tup [x, y])) { s with heap := h2, toks := tk } := I.turnedNew (t' := tk) (ch := [z, TI, TO, i1, i2]) kp hf (Nat.le_refl _) nw
    refine ⟨.ref s.heap.objs.size, _, I1, rfl, ⟨_, x, y, rfl, I.hok.fresh (Nat.le_refl _), rfl, fun l hl => by rw [I.list_inj hl hqx]; exact hx, fun l hl => by rw [I.tuple_inj hl hqy]; exact hy⟩, ⟨z2, ?_, ⟨u, u2, ?_⟩, ?_, ?_⟩, fun c hcm => ?_⟩
    · exact (sb.2 _ D.TIz).trans (hk _ _ D.TIz D.TITO D.TIi1 D.TIi2 kI)
    · exact (sb.2 _ D.TOz).trans TO'
    · exact t1.1.at fun o q => (sb.2 _ D.i1z).trans q
    · exact t2.1.at fun o q => (sb.2 _ D.i2z).trans q
    · have hlt : c < s.heap.objs.size := by
        have w : c = z ∨ c = TI ∨ c = TO ∨ c = i1 ∨ c = i2 := by simpa using hcm
        rcases w with r | r | r | r | r <;> rw [r]
        · exact hzl
        · exact Heap.lt_size kI
        · exact Heap.lt_size kO
        · obtain ⟨_, w1, _⟩ := k1; exact Heap.lt_size w1
        · obtain ⟨_, w2, _⟩ := k2; exact Heap.lt_size w2
      rw [upd_ne (Nat.ne_of_lt hlt)]
      exact (hf c hcm).1
  done := by
    intro X hP hw hK hc i pins s σ H E I hf st hg
    subst hP hw hK
    obtain ⟨kz, kI, ⟨p0, q0, kO⟩, k1, k2⟩ := st
    obtain ⟨xs, ys, hqx, hqy, hend⟩ := hg
    obtain ⟨its, rv, p, _⟩ := I.list hqx
    obtain ⟨its2, rv2, p2, _⟩ := I.tuple hqy
    have l1 := rv.length
    have l2 := rv2.length
    have he : its.toArray[i]? = none ∨ its2.toArray[i]? = none := by
      rcases hend with q | q
      · exact .inl (by simp; omega)
      · exact .inr (by simp; omega)
    exact nextM_end (I.ok.hd hc) D kz kI kO k1 k2 p.isList p2 he fun h' tk hk => ⟨rfl, I.turnedL (t' := tk) (ch := [z, TI, TO, i1, i2]) (fun c o hb q =>
      hk c o (fun w => hb (by simp [w])) (fun w => hb (by simp [w])) (fun w => hb (by simp [w])) (fun w => hb (by simp [w])) q) hf⟩
  self := fun A i s Q E st h => wpAny_pyIter_zip st.1 h
def iZipM (K : PySem.W.Frag) (ta : TA) : TI := fun σ H R => ta σ H fun vs H1 => ∃ a b xs ys, vs = [.ref a, .ref b] ∧ SqL K H1 a xs ∧ SqT K H1 b ys ∧ R (ItzM K a b) H1
theorem pi_zipM {X : Cx} {e e2 : Expr} {ta : TA} {p pos tpos : Pos} {elts : List Expr} {kk : Nat} (hg : Gl X "zip") (hm : X.mg "zip" = none) (ha : PA X [e, e2] ta)
    (hs : starEach [e, e2] X.env = (false, eval e X.env) :: starEach [e2] X.env := by rfl) (hpl : (backTo pos (starEach [e2] X.env)).any (·.1) = false := by rfl) :
    PI X (.Tuple elts kk tpos) (.Call (.Name "zip" p) [e, e2] [] pos) (iZipM X.K ta) := by
  refine ⟨fun pins s σ H R I h => Call_ (ld_blt I hg hm PyProof.Rows.boot_zip (PyProof.Rows.callWith_type1 (thn (ha.run pos pins s σ H _ I h) fun us s1 ⟨vs, H1, I1, r1, q1⟩ => ?_) hs hpl))⟩
  obtain ⟨a, b, xs, ys, ex, qa, qb, q⟩ := q1
  subst ex
  cases r1 with
  | cons r rr =>
    cases rr with
    | cons r' rr =>
      cases rr
      cases r
      cases r'
      obtain ⟨its, rv, p1, _⟩ := I1.list qa
      obtain ⟨its2, rv2, p2, _⟩ := I1.tuple qb
      obtain ⟨o2, ho2, _⟩ := id p2
      have n5 : ∀ c, c ∈ [s1.heap.objs.size + 4, s1.heap.objs.size + 2, s1.heap.objs.size + 3, s1.heap.objs.size, s1.heap.objs.size + 1] → FpOk X pins H1 c := fun c m => by
        have le : s1.heap.objs.size ≤ c := by
          simp only [List.mem_cons, List.not_mem_nil, or_false] at m
          omega
        exact I1.fpOk le (I1.hok.fresh le)
      refine call_zipM p1.isList (show s1.heap.IsTuple b its2.toArray from p2) fun h' kz kI kO k1 k2 hk => wpAny_pyIter_zip kz ?_
      have I2 : Inv X pins σ H1 { s1 with heap := h' } := I1.kept (t' := s1.toks) hk
      exact ⟨s1.heap.objs.size + 4, [s1.heap.objs.size + 4, s1.heap.objs.size + 2, s1.heap.objs.size + 3, s1.heap.objs.size, s1.heap.objs.size + 1], _, _, H1, rfl, I2, turn_zipM (PySem.W.ktu_apart s1.heap.objs.size a b p1.lt (Heap.lt_size ho2)), ⟨kz, kI, ⟨_, _, kO⟩, k1, k2⟩, n5, q⟩
end DLM
namespace DL
open PySem PySem.Spec L2
def zipMf : D → D → Option (List D)
  | .lst _ xs, .tup ys => some (zipD xs ys)
  | _, _ => none
def zip2M : List D → Option (List D)
  | [x, y] => zipMf (frz x) (frz y)
  | _ => none
theorem zip2M_two {ds l : List D} (h : zip2M ds = some l) : ∃ x y, ds = [x, y] ∧ zipMf (frz x) (frz y) = some l := by
  unfold zip2M at h
  split at h
  · exact ⟨_, _, rfl, h⟩
  · cases h
theorem zipMf_cases {x y : D} {l : List D} (h : zipMf x y = some l) : ∃ o xs ys, x = .lst o xs ∧ y = .tup ys ∧ l = zipD xs ys := by
  unfold zipMf at h
  split at h
  · cases h; exact ⟨_, _, _, rfl, rfl, rfl⟩
  · cases h
def iZipMD (g : M (List D)) : M (List D) := mbind g fun ds => mlift (zip2M ds)
section
variable {K : RC} {fr : Fr}
theorem yields_zipM {ds es : List D} {xs ys : List V} {H0 : Hp} {a b : Addr} (hs : SqL K.K (VF fr) a xs) (r : RepL K (VF fr) H0 ds xs []) (hs2 : SqT K.K (VF fr) b ys) (r2 : RepL K (VF fr) H0 es ys []) : Yields K (DLM.ItzM K.K a b) fr (zipD ds es) where
  go := fun i H ρ σ S hi => by
    obtain ⟨x, y, h1, h2, _⟩ := zipD_get (List.getElem?_eq_getElem hi)
    obtain ⟨u, hu, _⟩ := r.get h1
    obtain ⟨v, hv, _⟩ := r2.get h2
    exact ⟨xs, ys, u, v, SqL.mono S.vfH hs, SqT.mono S.vfH hs2, hu, hv⟩
  stop := fun i H ρ σ S hi => by
    rw [zipD_len, ← r.len, ← r2.len] at hi
    exact ⟨xs, ys, SqL.mono S.vfH hs, SqT.mono S.vfH hs2, by omega⟩
  yld := fun i H x H' ρ σ d S e hy => by
    obtain ⟨T, u, v, rfl, hT, rfl, h1, h2⟩ := hy
    obtain ⟨p, q, hp, hq, rfl⟩ := zipD_get e
    obtain ⟨u', hu, ru⟩ := r.get hp
    obtain ⟨v', hv, rv⟩ := r2.get hq
    have e1 := h1 xs (SqL.mono S.vfH hs)
    have e2 := h2 ys (SqT.mono S.vfH hs2)
    rw [hu] at e1
    rw [hv] at e2
    cases e1
    cases e2
    exact zip_yld S ru rv hT
end
section
variable {ι : Type} {X : ι → Cx} {K : RC} {W : WX} {k : Nat} {a b : Expr} {g : M (List D)} {pos : Pos}
theorem id_zipM {p tpos : Pos} {elts : List Expr} {kk : Nat} (c : CF X K W k) (hg : ∀ i, Gl (X i) "zip") (hm : K.mg "zip" = none) (ha : AM X K W [a, b] g []) (hs : ∀ i, starEach [a, b] (X i).env = (false, eval a (X i).env) :: starEach [b] (X i).env := by intro _; rfl) (hpl : ∀ i, (backTo pos (starEach [b] (X i).env)).any (·.1) = false := by intro _; rfl) :
    ID X K W (.Tuple elts kk tpos) (.Call (.Name "zip" p) [a, b] [] pos) (iZipMD g) := by
  obtain ⟨t, pa, s⟩ := ha.ex
  refine ⟨DLM.iZipM K.K t, (fun i => by rw [← c.kk i]; exact DLM.pi_zipM (hg i) (by rw [c.mg i]; exact hm) (pa i) (hs i) (hpl i)), fun fr ρ σ H R S q => s fr ρ σ H _ S ((QR.bind q).mono fun ds ρ1 q1 vs H1 hl _ S1 => ?_)⟩
  obtain ⟨l, el, q1⟩ := QR.lift q1
  obtain ⟨x, y, rfl, el⟩ := zip2M_two el
  match vs, hl with
  | [vx, vy], _ =>
    obtain ⟨fr', S2, r, back⟩ := Sim.holdFL (ds := [x, y]) (vs := [vx, vy]) rfl S1
    obtain ⟨v1, w1, B, C, e1, e2, r1, v2, w2, B2, C2, e3, e4, r2, e5, e6⟩ := r
    cases e1
    cases e3
    have eB := (List.append_eq_nil_iff.mp e2.symm).1
    subst eB
    have eC := (List.append_eq_nil_iff.mp e2.symm).2
    subst eC
    have eB2 := (List.append_eq_nil_iff.mp e4.symm).1
    subst eB2
    obtain ⟨o, xs, ys, h1, h2, rfl⟩ := zipMf_cases el
    rw [h1] at r1
    rw [h2] at r2
    have f1 := fro_frz x
    rw [h1] at f1
    cases o with
    | true => cases f1
    | false =>
      obtain ⟨_, p, us, rfl, hs, rr⟩ := r1
      obtain ⟨_, p2, us2, rfl, hs2, rr2⟩ := r2
      exact ⟨p, p2, us, us2, rfl, SqL.mono S2.vfH (SqL.of hs), SqT.mono S2.vfH hs2, q1 _ H1 fr' S2 back (yields_zipM (SqL.of hs) rr hs2 rr2)⟩
end
end DL

set_option Elab.async false
set_option linter.all false
set_option maxRecDepth 100000
set_option maxHeartbeats 4000000
namespace DL
open PySem PySem.Spec L2
/-! ### f(x, g(x)): x is handed over by both, one behind the other -/
def aMvL (i : Nat) (g : M (List D)) : M (List D) := fun ρ => match ρ[i]? with
  | some (some _) => mbind g (fun ds ρ1 => match ρ1[i]? with
    | some (some d) => .ok (d :: ds) (ρ1.set i none)
    | _ => .stuck) ρ
  | _ => .stuck
section
variable {ι : Type} {X : ι → Cx} {K : RC} {W : WX} {es : List Expr} {g : M (List D)} {rs : List (Nat × Nat)} {pos : Pos}
theorem am_mvL (i : Nat) {x : Str} (h : ∀ j, PE (X j) (.Name x pos) (tVar i)) (hr : AM X K W es g rs) (hs : ∀ i, starEach (.Name x pos :: es) (X i).env = (false, eval (.Name x pos) (X i).env) :: starEach es (X i).env := by intro _; rfl) : AM X K W (.Name x pos :: es) (aMvL i g) ((0, i) :: shift rs) := by
  obtain ⟨u, p2, s2⟩ := hr.ex
  refine ⟨tCons (tVar i) u, (fun j => pa_cons (h j) (p2 j) (hs j)), fun fr ρ σ H Q S q => ?_⟩
  unfold QM aMvL at q
  cases e : ρ[i]? with
  | none => rw [e] at q; exact q.elim
  | some o => cases o with
    | none => rw [e] at q; exact q.elim
    | some d0 =>
      rw [e] at q
      obtain ⟨v, e1, _⟩ := S.move e
      refine ⟨v, e1, ?_⟩
      refine s2 fr ρ σ H _ S ((QR.bind q).mono fun ds ρ2 q2 vs H2 hl hrs S2 => ?_)
      cases e2 : ρ2[i]? with
      | none => rw [e2] at q2; exact q2.elim
      | some o2 => cases o2 with
        | none => rw [e2] at q2; exact q2.elim
        | some d =>
          rw [e2] at q2
          have ha : (ds.map some ++ ρ2)[ds.length + i]? = some (some d) := by
            rw [List.getElem?_append_right (by rw [List.length_map]; omega), List.length_map, Nat.add_sub_cancel_left, e2]
          obtain ⟨v', e3, S3⟩ := S2.move ha
          have ev : v' = v := by
            rw [← hl, List.getElem?_append_right (by rw [List.length_map]; omega), List.length_map, Nat.add_sub_cancel_left, e1] at e3
            cases e3
            rfl
          subst ev
          rw [List.set_append_right _ _ (by rw [List.length_map]; omega), List.length_map, Nat.add_sub_cancel_left] at S3
          refine q2 (v' :: vs) H2 (by simp [hl]) (fun p hp => ?_) S3
          rcases List.mem_cons.mp hp with z | hp
          · subst z; exact ⟨v', rfl, e1⟩
          · obtain ⟨p', hp', rfl⟩ := List.mem_map.mp hp
            obtain ⟨u, h1, h2⟩ := hrs p' hp'
            exact ⟨u, by simpa using h1, h2⟩
end
theorem al_mvL {i : Nat} {g : M (List D)} {n : Nat} (h : ALen g n) : ALen (aMvL i g) (n + 1) := fun ρ ds ρ' e => by
  unfold aMvL at e
  split at e
  · obtain ⟨ds', ρ1, h1, h2⟩ := mbind_ok e
    split at h2
    · cases h2
      rw [List.length_cons, h _ _ _ h1]
    · cases h2
  · cases e
section
variable {ρ ρ1 : DL.Env} {g : M (List D)} {d0 d : D} {ds : List D} {i : Nat}
theorem aMvL_ok (h0 : ρ[i]? = some (some d0)) (h1 : g ρ = .ok ds ρ1) (h2 : ρ1[i]? = some (some d)) : aMvL i g ρ = .ok (d :: ds) (ρ1.set i none) := by
  unfold aMvL
  simp only [h0]
  rw [mbind_of h1]
  simp only [h2]
end
end DL

set_option Elab.async false
set_option linter.all false
set_option maxRecDepth 100000
set_option maxHeartbeats 4000000
noncomputable section
namespace Lk51
open PySem PySem.Spec L2 DL
def top (i : Nat) : Stmt := PySem.Challenge.pw_owncause_k51_whole_chairs.main.body.getD i (.Pass ⟨0, 0, 0, 0⟩)
structure Txt (K : PySem.W.Frag) (mg : Str → Option Value) : Prop where
  f_abs : mg "abs" = none
  f_all : mg "all" = none
  f_bool : mg "bool" = none
  f_enumerate : mg "enumerate" = none
  f_int : mg "int" = none
  f_isinstance : mg "isinstance" = none
  f_len : mg "len" = none
  f_list : mg "list" = none
  f_min : mg "min" = none
  f_range : mg "range" = none
  f_reversed : mg "reversed" = none
  f_set : mg "set" = none
  f_tuple : mg "tuple" = none
  f_zip : mg "zip" = none
  i_CHAIRED : ∃ t, mg "CHAIRED" = some (.int 3 t)
  i_MOST_MEMBERS : ∃ t, mg "MOST_MEMBERS" = some (.int 8 t)
  i_MOST_ROWS : ∃ t, mg "MOST_ROWS" = some (.int 256 t)
  i_MOST_SORTS : ∃ t, mg "MOST_SORTS" = some (.int 4 t)
  x_NoClub : ExF ⟨K, mg⟩ "NoClub"
  x_NoPicks : ExF ⟨K, mg⟩ "NoPicks"
variable {P : Program} {w : World} {K : PySem.W.Frag} {mg : Str → Option Value} {base : Heap}
abbrev s_law_dice : Stmt := top 27
abbrev N_law_dice : List Str := ["_law_script", "_law_cell"]
abbrev P_law_dice : List Str := ["_law_script"]
theorem sc_law_dice : FnScope N_law_dice P_law_dice (defScope s_law_dice) := ⟨rfl, rfl, rfl, by decide +kernel, rfl, by decide +kernel, by decide +kernel⟩
def b_law_dice : SF := (sRet (eLst (aCons (eFrz (eLcL 2 (iSeq (eSl (eVar 0) pNone (pSome (eC (.int 63))))) (gSet 1) mYes (eBi absD (aCons (eBi intD (aCons (eVar 1) aNil)) aNil)) [1])) (aCons (eC (.int 0)) (aCons (eC (.int 0)) (aCons (eC (.int 1)) (aCons (eC (.int 0)) aNil)))))))
def F_law_dice : List D → Res D := runS [] 1 2 b_law_dice
theorem ok_law_dice (T : Txt K mg)  {f : Addr} {fd : FuncData} (F : FunD K "_law_dice" "_law_dice" (defArgs s_law_dice) (defBody s_law_dice) (defScope s_law_dice) [] [] f fd) : FnOk P w K mg base (L2.CX P w) 1 f fd P_law_dice (spD ⟨K, mg⟩ P_law_dice.length F_law_dice) :=
  fnok_of (pr := []) F sc_law_dice fun cdv A outer s H E hr => by
    have c := cf_of (P := P) (w := w) (K := K) (mg := mg) (base := base) (E := E) (H := H) (outer := outer) sc_law_dice hr
    have po : ∀ i : Unit, PassesOwn (model ((fun _ : Unit => cxOf (L2.CX P w) P w K mg base N_law_dice "_law_dice" (defScope s_law_dice) f cdv A outer s H E) i).prog ((fun _ : Unit => cxOf (L2.CX P w) P w K mg base N_law_dice "_law_dice" (defScope s_law_dice) f cdv A outer s H E) i).w) ((fun _ : Unit => cxOf (L2.CX P w) P w K mg base N_law_dice "_law_dice" (defScope s_law_dice) f cdv A outer s H E) i).A ((fun _ : Unit => cxOf (L2.CX P w) P w K mg base N_law_dice "_law_dice" (defScope s_law_dice) f cdv A outer s H E) i).env ((fun _ : Unit => cxOf (L2.CX P w) P w K mg base N_law_dice "_law_dice" (defScope s_law_dice) f cdv A outer s H E) i).xe := fun _ => passes_of rfl
    exact (ss_one (sd_ret (ed_lst (am_cons (ed_frz (ed_lc (own := [("_law_cell", 1)]) 2 c.calm c.nd (id_seq c (ed_sl c (ed_var 0 (fun _ => pv 0)) pod_none (pod_some ed_int))) (fun _ => blkOk_by (by kernel_rfl)) (gd_name (i := 1) (fun j => pg_name ((c.blk _).nd j) rfl (by first | exact Or.inl rfl | exact Or.inr rfl))) ld_nil (ed_abs (c.blk _) (fun _ => by rfl) T.f_abs (am_cons (ed_toint (c.blk _) (fun _ => by rfl) T.f_int (am_cons (ed_var 1 (fun _ => pv 1)) am_nil)) am_nil)))) (am_cons ed_int (am_cons ed_int (am_cons ed_int (am_cons ed_int am_nil))))))))
abbrev s_law_draw : Stmt := top 28
abbrev N_law_draw : List Str := ["_law_dice_here", "_law_sides", "_law_mixed", "_law_cell", "_law_digit"]
abbrev P_law_draw : List Str := ["_law_dice_here", "_law_sides"]
theorem sc_law_draw : FnScope N_law_draw P_law_draw (defScope s_law_draw) := ⟨rfl, rfl, rfl, by decide +kernel, rfl, by decide +kernel, by decide +kernel⟩
def b_law_draw : SF := (sSeq (sIf (tBor (mAnd (eB (e2 eqD (e2 ixD (eVar 0) (eC (.int 2))) (eC (.int 0)))) (eB (e2 ltD (e2 ixD (eVar 0) (eC (.int 1))) (eBi lenD (aCons (e2 ixD (eVar 0) (eC (.int 0))) aNil)))))) (sSeq (sAsg (eFrz (e2 ixD (eVix 0 (eC (.int 0))) (eVix 0 (eC (.int 1))))) (gSet 3))
  (sSeq (sAsg (eFrz (eBor (e2 addD (e2 ixD (eVar 0) (eC (.int 1))) (eC (.int 1))))) (gItem 0 (eC (.int 1))))
  (sIf (eB (e2 geD (eVar 3) (e2 powD (eC (.int 10)) (eC (.int 18))))) (sAsg (eFrz (eVar 3)) (gItem 0 (eC (.int 2)))) (sAsg (eBor (e2 modD (eBi intD (aCons (e2 addD (e2 addD (e2 mulD (e2 ixD (eVar 0) (eC (.int 3))) (eC (.int 69621))) (e2 mulD (eVar 3) (eC (.int 40692)))) (e2 ixD (eVar 0) (eC (.int 1)))) aNil)) (eC (.int 2147483647)))) (gItem 0 (eC (.int 3))))))) sNext)
  (sSeq (sIf (tBor (eB (e2 gtD (e2 ixD (eVar 0) (eC (.int 2))) (eC (.int 0))))) (sSeq (sAsg (eBor (e2 modD (eBi intD (aCons (e2 ixD (eVar 0) (eC (.int 2))) aNil)) (eVar 1))) (gSet 4))
  (sSeq (sAsg (eBor (e2 fdivD (eBi intD (aCons (e2 ixD (eVar 0) (eC (.int 2))) aNil)) (eVar 1))) (gItem 0 (eC (.int 2))))
  (sRet (eVar 4)))) sNext)
  (sSeq (sAsg (eFrz (eBor (e2 addD (e2 ixD (eVar 0) (eC (.int 4))) (eC (.int 1))))) (gItem 0 (eC (.int 4))))
  (sSeq (sAsg (eBor (e2 modD (eBi intD (aCons (e2 addD (e2 addD (e2 mulD (e2 ixD (eVar 0) (eC (.int 3))) (eC (.int 48271))) (e2 mulD (e2 ixD (eVar 0) (eC (.int 4))) (eC (.int 7919)))) (eC (.int 1))) aNil)) (eC (.int 2147483647)))) (gItem 0 (eC (.int 3))))
  (sSeq (sAsg (eBor (e2 modD (eBi intD (aCons (e2 mulD (e2 ixD (eVar 0) (eC (.int 3))) (e2 addD (e2 fdivD (e2 ixD (eVar 0) (eC (.int 3))) (eC (.int 1009))) (eC (.int 69623)))) aNil)) (eC (.int 2147483399)))) (gSet 2))
  (sSeq (sAsg (e2 modD (eBi intD (aCons (e2 mulD (eVar 2) (e2 addD (e2 fdivD (eVar 2) (eC (.int 2003))) (eC (.int 40693)))) aNil)) (eC (.int 2147483563))) (gSet 2))
  (sRet (e2 modD (eBi intD (aCons (e2 fdivD (eVar 2) (eC (.int 16))) aNil)) (eVar 1)))))))))
def F_law_draw : List D → Res D := runS [0] 2 5 b_law_draw
theorem ok_law_draw (T : Txt K mg)  {f : Addr} {fd : FuncData} (F : FunD K "_law_draw" "_law_draw" (defArgs s_law_draw) (defBody s_law_draw) (defScope s_law_draw) [] [] f fd) : FnOk P w K mg base (L2.CX P w) 1 f fd P_law_draw (spD ⟨K, mg⟩ P_law_draw.length F_law_draw) :=
  fnok_of (pr := [0]) F sc_law_draw fun cdv A outer s H E hr => by
    have c := cf_of (P := P) (w := w) (K := K) (mg := mg) (base := base) (E := E) (H := H) (outer := outer) sc_law_draw hr
    have po : ∀ i : Unit, PassesOwn (model ((fun _ : Unit => cxOf (L2.CX P w) P w K mg base N_law_draw "_law_draw" (defScope s_law_draw) f cdv A outer s H E) i).prog ((fun _ : Unit => cxOf (L2.CX P w) P w K mg base N_law_draw "_law_draw" (defScope s_law_draw) f cdv A outer s H E) i).w) ((fun _ : Unit => cxOf (L2.CX P w) P w K mg base N_law_draw "_law_draw" (defScope s_law_draw) f cdv A outer s H E) i).A ((fun _ : Unit => cxOf (L2.CX P w) P w K mg base N_law_draw "_law_draw" (defScope s_law_draw) f cdv A outer s H E) i).env ((fun _ : Unit => cxOf (L2.CX P w) P w K mg base N_law_draw "_law_draw" (defScope s_law_draw) f cdv A outer s H E) i).xe := fun _ => passes_of rfl
    exact (ss_cons (sd_if (td_bor (td_of (wd_and (td_eq c (ed_ix c (ed_var 0 (fun _ => pv 0)) ed_int) ed_int) (wd_and1 (td_lt c (ed_ix c (ed_var 0 (fun _ => pv 0)) ed_int) (ed_len c (fun _ => by rfl) T.f_len (am_cons (ed_ix c (ed_var 0 (fun _ => pv 0)) ed_int) am_nil))))))) (ss_cons (sd_asg (fun i te tg he hg => ps_asg he hg) (ed_frz (ed_ix c (ed_vix 0 c (fun _ => pv 0) ed_int) (ed_vix 0 c (fun _ => pv 0) ed_int))) (gd_name (i := 3) (fun j => pg_name (c.nd j) rfl (by first | exact Or.inl rfl | exact Or.inr rfl))))
  (ss_cons (sd_asg (fun i te tg he hg => ps_asg he hg) (ed_frz (ed_bor (ed_add c (ed_ix c (ed_var 0 (fun _ => pv 0)) ed_int) ed_int))) (gd_item 0 c (fun _ => pv 0) ed_int))
  (ss_one (sd_if (td_ge c (ed_var 3 (fun _ => pv 3)) (ed_pow c ed_int ed_int)) (ss_one (sd_asg (fun i te tg he hg => ps_asg he hg) (ed_frz (ed_var 3 (fun _ => pv 3))) (gd_item 0 c (fun _ => pv 0) ed_int))) (ss_one (sd_asg (fun i te tg he hg => ps_asg he hg) (ed_bor (ed_mod c (ed_toint c (fun _ => by rfl) T.f_int (am_cons (ed_add c (ed_add c (ed_mul c (ed_ix c (ed_var 0 (fun _ => pv 0)) ed_int) ed_int) (ed_mul c (ed_var 3 (fun _ => pv 3)) ed_int)) (ed_ix c (ed_var 0 (fun _ => pv 0)) ed_int)) am_nil)) ed_int)) (gd_item 0 c (fun _ => pv 0) ed_int))))))) ss_nil)
  (ss_cons (sd_if (td_bor (td_gt c (ed_ix c (ed_var 0 (fun _ => pv 0)) ed_int) ed_int)) (ss_cons (sd_asg (fun i te tg he hg => ps_asg he hg) (ed_bor (ed_mod c (ed_toint c (fun _ => by rfl) T.f_int (am_cons (ed_ix c (ed_var 0 (fun _ => pv 0)) ed_int) am_nil)) (ed_var 1 (fun _ => pv 1)))) (gd_name (i := 4) (fun j => pg_name (c.nd j) rfl (by first | exact Or.inl rfl | exact Or.inr rfl))))
  (ss_cons (sd_asg (fun i te tg he hg => ps_asg he hg) (ed_bor (ed_fdiv c (ed_toint c (fun _ => by rfl) T.f_int (am_cons (ed_ix c (ed_var 0 (fun _ => pv 0)) ed_int) am_nil)) (ed_var 1 (fun _ => pv 1)))) (gd_item 0 c (fun _ => pv 0) ed_int))
  (ss_one (sd_ret (ed_var 4 (fun _ => pv 4)))))) ss_nil)
  (ss_cons (sd_asg (fun i te tg he hg => ps_asg he hg) (ed_frz (ed_bor (ed_add c (ed_ix c (ed_var 0 (fun _ => pv 0)) ed_int) ed_int))) (gd_item 0 c (fun _ => pv 0) ed_int))
  (ss_cons (sd_asg (fun i te tg he hg => ps_asg he hg) (ed_bor (ed_mod c (ed_toint c (fun _ => by rfl) T.f_int (am_cons (ed_add c (ed_add c (ed_mul c (ed_ix c (ed_var 0 (fun _ => pv 0)) ed_int) ed_int) (ed_mul c (ed_ix c (ed_var 0 (fun _ => pv 0)) ed_int) ed_int)) ed_int) am_nil)) ed_int)) (gd_item 0 c (fun _ => pv 0) ed_int))
  (ss_cons (sd_asg (fun i te tg he hg => ps_asg he hg) (ed_bor (ed_mod c (ed_toint c (fun _ => by rfl) T.f_int (am_cons (ed_mul c (ed_ix c (ed_var 0 (fun _ => pv 0)) ed_int) (ed_add c (ed_fdiv c (ed_ix c (ed_var 0 (fun _ => pv 0)) ed_int) ed_int) ed_int)) am_nil)) ed_int)) (gd_name (i := 2) (fun j => pg_name (c.nd j) rfl (by first | exact Or.inl rfl | exact Or.inr rfl))))
  (ss_cons (sd_asg (fun i te tg he hg => ps_asg he hg) (ed_mod c (ed_toint c (fun _ => by rfl) T.f_int (am_cons (ed_mul c (ed_var 2 (fun _ => pv 2)) (ed_add c (ed_fdiv c (ed_var 2 (fun _ => pv 2)) ed_int) ed_int)) am_nil)) ed_int) (gd_name (i := 2) (fun j => pg_name (c.nd j) rfl (by first | exact Or.inl rfl | exact Or.inr rfl))))
  (ss_one (sd_ret (ed_mod c (ed_toint c (fun _ => by rfl) T.f_int (am_cons (ed_fdiv c (ed_var 2 (fun _ => pv 2)) ed_int) am_nil)) (ed_var 1 (fun _ => pv 1)))))))))))
abbrev s_law_power : Stmt := top 29
abbrev N_law_power : List Str := ["_law_many"]
abbrev P_law_power : List Str := ["_law_many"]
theorem sc_law_power : FnScope N_law_power P_law_power (defScope s_law_power) := ⟨rfl, rfl, rfl, by decide +kernel, rfl, by decide +kernel, by decide +kernel⟩
def b_law_power : SF := (sRet (e2 ixD (eTup (aCons (eC (.int 1)) (aCons (eC (.int 2)) (aCons (eC (.int 4)) (aCons (eC (.int 8)) (aCons (eC (.int 16)) (aCons (eC (.int 32)) (aCons (eC (.int 64)) (aCons (eC (.int 128)) (aCons (eC (.int 256)) aNil)))))))))) (eVar 0)))
def F_law_power : List D → Res D := runS [] 1 1 b_law_power
theorem ok_law_power (T : Txt K mg)  {f : Addr} {fd : FuncData} (F : FunD K "_law_power" "_law_power" (defArgs s_law_power) (defBody s_law_power) (defScope s_law_power) [] [] f fd) : FnOk P w K mg base (L2.CX P w) 1 f fd P_law_power (spD ⟨K, mg⟩ P_law_power.length F_law_power) :=
  fnok_of (pr := []) F sc_law_power fun cdv A outer s H E hr => by
    have c := cf_of (P := P) (w := w) (K := K) (mg := mg) (base := base) (E := E) (H := H) (outer := outer) sc_law_power hr
    have po : ∀ i : Unit, PassesOwn (model ((fun _ : Unit => cxOf (L2.CX P w) P w K mg base N_law_power "_law_power" (defScope s_law_power) f cdv A outer s H E) i).prog ((fun _ : Unit => cxOf (L2.CX P w) P w K mg base N_law_power "_law_power" (defScope s_law_power) f cdv A outer s H E) i).w) ((fun _ : Unit => cxOf (L2.CX P w) P w K mg base N_law_power "_law_power" (defScope s_law_power) f cdv A outer s H E) i).A ((fun _ : Unit => cxOf (L2.CX P w) P w K mg base N_law_power "_law_power" (defScope s_law_power) f cdv A outer s H E) i).env ((fun _ : Unit => cxOf (L2.CX P w) P w K mg base N_law_power "_law_power" (defScope s_law_power) f cdv A outer s H E) i).xe := fun _ => passes_of rfl
    exact (ss_one (sd_ret (ed_ix c (ed_tup (am_cons ed_int (am_cons ed_int (am_cons ed_int (am_cons ed_int (am_cons ed_int (am_cons ed_int (am_cons ed_int (am_cons ed_int (am_cons ed_int am_nil)))))))))) (ed_var 0 (fun _ => pv 0)))))
abbrev s_law_turned : Stmt := top 30
abbrev N_law_turned : List Str := ["_law_many", "_law_row", "_law_member", "_law_step"]
abbrev P_law_turned : List Str := ["_law_many", "_law_row", "_law_member"]
theorem sc_law_turned : FnScope N_law_turned P_law_turned (defScope s_law_turned) := ⟨rfl, rfl, rfl, by decide +kernel, rfl, by decide +kernel, by decide +kernel⟩
def b_law_turned : SF := (sSeq (sAsg (eFrz (eCall F_law_power (aCons (e2 subD (e2 subD (eVar 0) (eC (.int 1))) (eVar 2)) aNil) [] [])) (gSet 3))
  (sRet (eIf (eB (e2 eqD (e2 modD (e2 fdivD (eVar 1) (eVar 3)) (eC (.int 2))) (eC (.int 1)))) (e2 subD (eVar 1) (eVar 3)) (e2 addD (eVar 1) (eVar 3)))))
def F_law_turned : List D → Res D := runS [] 3 4 b_law_turned
theorem ok_law_turned (T : Txt K mg) (h_law_power_1 : FnD P w K mg base 1 "_law_power" 1 [] F_law_power) {f : Addr} {fd : FuncData} (F : FunD K "_law_turned" "_law_turned" (defArgs s_law_turned) (defBody s_law_turned) (defScope s_law_turned) [] [] f fd) : FnOk P w K mg base (L2.CX P w) 2 f fd P_law_turned (spD ⟨K, mg⟩ P_law_turned.length F_law_turned) :=
  fnok_of (pr := []) F sc_law_turned fun cdv A outer s H E hr => by
    have c := cf_of (P := P) (w := w) (K := K) (mg := mg) (base := base) (E := E) (H := H) (outer := outer) sc_law_turned hr
    have po : ∀ i : Unit, PassesOwn (model ((fun _ : Unit => cxOf (L2.CX P w) P w K mg base N_law_turned "_law_turned" (defScope s_law_turned) f cdv A outer s H E) i).prog ((fun _ : Unit => cxOf (L2.CX P w) P w K mg base N_law_turned "_law_turned" (defScope s_law_turned) f cdv A outer s H E) i).w) ((fun _ : Unit => cxOf (L2.CX P w) P w K mg base N_law_turned "_law_turned" (defScope s_law_turned) f cdv A outer s H E) i).A ((fun _ : Unit => cxOf (L2.CX P w) P w K mg base N_law_turned "_law_turned" (defScope s_law_turned) f cdv A outer s H E) i).env ((fun _ : Unit => cxOf (L2.CX P w) P w K mg base N_law_turned "_law_turned" (defScope s_law_turned) f cdv A outer s H E) i).xe := fun _ => passes_of rfl
    exact (ss_cons (sd_asg (fun i te tg he hg => ps_asg he hg) (ed_frz (ed_fn c (fun _ => h_law_power_1) (by decide) (fun _ => by rfl) (am_cons (ed_sub c (ed_sub c (ed_var 0 (fun _ => pv 0)) ed_int) (ed_var 2 (fun _ => pv 2))) am_nil) (al_cons al_nil))) (gd_name (i := 3) (fun j => pg_name (c.nd j) rfl (by first | exact Or.inl rfl | exact Or.inr rfl))))
  (ss_one (sd_ret (ed_if (td_eq c (ed_mod c (ed_fdiv c (ed_var 1 (fun _ => pv 1)) (ed_var 3 (fun _ => pv 3))) ed_int) ed_int) (ed_sub c (ed_var 1 (fun _ => pv 1)) (ed_var 3 (fun _ => pv 3))) (ed_add c (ed_var 1 (fun _ => pv 1)) (ed_var 3 (fun _ => pv 3)))))))
abbrev s_law_switched : Stmt := top 31
abbrev N_law_switched : List Str := ["_law_dice_here", "_law_many", "_law_coupling_here", "_law_turns", "_law_made", "_law_turn", "_law_row", "_law_other", "_law_member", "_law_beside", "_law_place"]
abbrev P_law_switched : List Str := ["_law_dice_here", "_law_many", "_law_coupling_here", "_law_turns"]
theorem sc_law_switched : FnScope N_law_switched P_law_switched (defScope s_law_switched) := ⟨rfl, rfl, rfl, by decide +kernel, rfl, by decide +kernel, by decide +kernel⟩
def b_law_switched : SF := (sSeq (sAsg (eBi listD (aCons (eVar 2) aNil)) (gSet 4))
  (sSeq (sFor (iRg1 (aCons (eVar 3) aNil)) (gSet 5) (sSeq (sAsg (eFrz (eCall F_law_draw (aCons (eMove 0) (aCons (eBor (eBi lenD (aCons (eVar 4) aNil))) aNil)) [] [(0, 0)])) (gSet 6))
  (sSeq (sAsg (eFrz (eCall F_law_draw (aCons (eMove 0) (aCons (eVar 1) aNil)) [] [(0, 0)])) (gSet 7))
  (sSeq (sAsg (eFrz (eVix 4 (eVar 6))) (gSet 8))
  (sSeq (sAsg (eFrz (eCall F_law_turned (aCons (eVar 1) (aCons (eVar 6) (aCons (eVar 7) aNil))) [] [])) (gSet 9))
  (sIf (tBor (mAnd (eB (e2 neD (eVar 7) (eVar 8))) (eB (e2 eqD (e2 ixD (eVar 4) (eVar 9)) (eVar 8))))) (sFor (iSeq (eTup (aCons (eVar 6) (aCons (eVar 9) aNil)))) (gSet 10) (sSeq (sAsg (eFrz (eVar 7)) (gItem 4 (eVar 10)))
  (sAsg (eFrz (eVar 7)) (gItem 4 (eCall F_law_turned (aCons (eVar 1) (aCons (eVar 10) (aCons (eVar 8) aNil))) [] []))))) sNext))))))
  (sFrz 4 (sRet (eBi tupleD (aCons (eVar 4) aNil))))))
def F_law_switched : List D → Res D := runS [0] 4 11 b_law_switched
theorem ok_law_switched (T : Txt K mg) (h_law_draw_2 : FnD P w K mg base 1 "_law_draw" 2 [] F_law_draw) (h_law_turned_3 : FnD P w K mg base 2 "_law_turned" 3 [] F_law_turned) {f : Addr} {fd : FuncData} (F : FunD K "_law_switched" "_law_switched" (defArgs s_law_switched) (defBody s_law_switched) (defScope s_law_switched) [] [] f fd) : FnOk P w K mg base (L2.CX P w) 3 f fd P_law_switched (spD ⟨K, mg⟩ P_law_switched.length F_law_switched) :=
  fnok_of (pr := [0]) F sc_law_switched fun cdv A outer s H E hr => by
    have c := cf_of (P := P) (w := w) (K := K) (mg := mg) (base := base) (E := E) (H := H) (outer := outer) sc_law_switched hr
    have po : ∀ i : Unit, PassesOwn (model ((fun _ : Unit => cxOf (L2.CX P w) P w K mg base N_law_switched "_law_switched" (defScope s_law_switched) f cdv A outer s H E) i).prog ((fun _ : Unit => cxOf (L2.CX P w) P w K mg base N_law_switched "_law_switched" (defScope s_law_switched) f cdv A outer s H E) i).w) ((fun _ : Unit => cxOf (L2.CX P w) P w K mg base N_law_switched "_law_switched" (defScope s_law_switched) f cdv A outer s H E) i).A ((fun _ : Unit => cxOf (L2.CX P w) P w K mg base N_law_switched "_law_switched" (defScope s_law_switched) f cdv A outer s H E) i).env ((fun _ : Unit => cxOf (L2.CX P w) P w K mg base N_law_switched "_law_switched" (defScope s_law_switched) f cdv A outer s H E) i).xe := fun _ => passes_of rfl
    exact (ss_cons (sd_asg (fun i te tg he hg => ps_asg he hg) (ed_list c (fun _ => by rfl) T.f_list (am_cons (ed_var 2 (fun _ => pv 2)) am_nil)) (gd_name (i := 4) (fun j => pg_name (c.nd j) rfl (by first | exact Or.inl rfl | exact Or.inr rfl))))
  (ss_cons (sd_for po c.calm (id_rg1 c (fun _ => by rfl) T.f_range (am_cons (ed_var 3 (fun _ => pv 3)) am_nil)) (gd_name (i := 5) (fun j => pg_name (c.nd j) rfl (by first | exact Or.inl rfl | exact Or.inr rfl))) (ss_cons (sd_asg (fun i te tg he hg => ps_asg he hg) (ed_frz (ed_fn c (fun _ => h_law_draw_2) (by decide) (fun _ => by rfl) (am_mv 0 (fun _ => pv 0) (am_cons (ed_bor (ed_len c (fun _ => by rfl) T.f_len (am_cons (ed_var 4 (fun _ => pv 4)) am_nil))) am_nil)) (al_cons (al_cons al_nil)))) (gd_name (i := 6) (fun j => pg_name (c.nd j) rfl (by first | exact Or.inl rfl | exact Or.inr rfl))))
  (ss_cons (sd_asg (fun i te tg he hg => ps_asg he hg) (ed_frz (ed_fn c (fun _ => h_law_draw_2) (by decide) (fun _ => by rfl) (am_mv 0 (fun _ => pv 0) (am_cons (ed_var 1 (fun _ => pv 1)) am_nil)) (al_cons (al_cons al_nil)))) (gd_name (i := 7) (fun j => pg_name (c.nd j) rfl (by first | exact Or.inl rfl | exact Or.inr rfl))))
  (ss_cons (sd_asg (fun i te tg he hg => ps_asg he hg) (ed_frz (ed_vix 4 c (fun _ => pv 4) (ed_var 6 (fun _ => pv 6)))) (gd_name (i := 8) (fun j => pg_name (c.nd j) rfl (by first | exact Or.inl rfl | exact Or.inr rfl))))
  (ss_cons (sd_asg (fun i te tg he hg => ps_asg he hg) (ed_frz (ed_fn c (fun _ => h_law_turned_3) (by decide) (fun _ => by rfl) (am_cons (ed_var 1 (fun _ => pv 1)) (am_cons (ed_var 6 (fun _ => pv 6)) (am_cons (ed_var 7 (fun _ => pv 7)) am_nil))) (al_cons (al_cons (al_cons al_nil))))) (gd_name (i := 9) (fun j => pg_name (c.nd j) rfl (by first | exact Or.inl rfl | exact Or.inr rfl))))
  (ss_one (sd_if (td_bor (td_of (wd_and (td_ne c (ed_var 7 (fun _ => pv 7)) (ed_var 8 (fun _ => pv 8))) (wd_and1 (td_eq c (ed_ix c (ed_var 4 (fun _ => pv 4)) (ed_var 9 (fun _ => pv 9))) (ed_var 8 (fun _ => pv 8))))))) (ss_one (sd_for po c.calm (id_seq c (ed_tup (am_cons (ed_var 6 (fun _ => pv 6)) (am_cons (ed_var 9 (fun _ => pv 9)) am_nil)))) (gd_name (i := 10) (fun j => pg_name (c.nd j) rfl (by first | exact Or.inl rfl | exact Or.inr rfl))) (ss_cons (sd_asg (fun i te tg he hg => ps_asg he hg) (ed_frz (ed_var 7 (fun _ => pv 7))) (gd_item 4 c (fun _ => pv 4) (ed_var 10 (fun _ => pv 10))))
  (ss_one (sd_asg (fun i te tg he hg => ps_asg he hg) (ed_frz (ed_var 7 (fun _ => pv 7))) (gd_item 4 c (fun _ => pv 4) (ed_fn (c.w0) (fun _ => h_law_turned_3) (by decide) (fun _ => by rfl) (am_cons (ed_var 1 (fun _ => pv 1)) (am_cons (ed_var 10 (fun _ => pv 10)) (am_cons (ed_var 8 (fun _ => pv 8)) am_nil))) (al_cons (al_cons (al_cons al_nil)))))))))) ss_nil)))))))
  (ss_frz (i := 4) (ss_one (sd_ret (ed_tuple c (fun _ => by rfl) T.f_tuple (am_cons (ed_var 4 (fun _ => pv 4)) am_nil)))))))
abbrev s_law_row_with : Stmt := top 32
abbrev N_law_row_with : List Str := ["_law_many", "_law_member", "_law_slip", "_law_rest", "_law_low"]
abbrev P_law_row_with : List Str := ["_law_many", "_law_member", "_law_slip", "_law_rest"]
theorem sc_law_row_with : FnScope N_law_row_with P_law_row_with (defScope s_law_row_with) := ⟨rfl, rfl, rfl, by decide +kernel, rfl, by decide +kernel, by decide +kernel⟩
def b_law_row_with : SF := (sSeq (sAsg (eFrz (eCall F_law_power (aCons (e2 subD (e2 subD (eVar 0) (eC (.int 1))) (eVar 1)) aNil) [] [])) (gSet 4))
  (sRet (e2 addD (e2 addD (e2 mulD (e2 mulD (e2 fdivD (eVar 3) (eVar 4)) (eVar 4)) (eC (.int 2))) (e2 mulD (eVar 2) (eVar 4))) (e2 modD (eBi intD (aCons (eVar 3) aNil)) (eVar 4)))))
def F_law_row_with : List D → Res D := runS [] 4 5 b_law_row_with
theorem ok_law_row_with (T : Txt K mg) (h_law_power_1 : FnD P w K mg base 1 "_law_power" 1 [] F_law_power) {f : Addr} {fd : FuncData} (F : FunD K "_law_row_with" "_law_row_with" (defArgs s_law_row_with) (defBody s_law_row_with) (defScope s_law_row_with) [] [] f fd) : FnOk P w K mg base (L2.CX P w) 2 f fd P_law_row_with (spD ⟨K, mg⟩ P_law_row_with.length F_law_row_with) :=
  fnok_of (pr := []) F sc_law_row_with fun cdv A outer s H E hr => by
    have c := cf_of (P := P) (w := w) (K := K) (mg := mg) (base := base) (E := E) (H := H) (outer := outer) sc_law_row_with hr
    have po : ∀ i : Unit, PassesOwn (model ((fun _ : Unit => cxOf (L2.CX P w) P w K mg base N_law_row_with "_law_row_with" (defScope s_law_row_with) f cdv A outer s H E) i).prog ((fun _ : Unit => cxOf (L2.CX P w) P w K mg base N_law_row_with "_law_row_with" (defScope s_law_row_with) f cdv A outer s H E) i).w) ((fun _ : Unit => cxOf (L2.CX P w) P w K mg base N_law_row_with "_law_row_with" (defScope s_law_row_with) f cdv A outer s H E) i).A ((fun _ : Unit => cxOf (L2.CX P w) P w K mg base N_law_row_with "_law_row_with" (defScope s_law_row_with) f cdv A outer s H E) i).env ((fun _ : Unit => cxOf (L2.CX P w) P w K mg base N_law_row_with "_law_row_with" (defScope s_law_row_with) f cdv A outer s H E) i).xe := fun _ => passes_of rfl
    exact (ss_cons (sd_asg (fun i te tg he hg => ps_asg he hg) (ed_frz (ed_fn c (fun _ => h_law_power_1) (by decide) (fun _ => by rfl) (am_cons (ed_sub c (ed_sub c (ed_var 0 (fun _ => pv 0)) ed_int) (ed_var 1 (fun _ => pv 1))) am_nil) (al_cons al_nil))) (gd_name (i := 4) (fun j => pg_name (c.nd j) rfl (by first | exact Or.inl rfl | exact Or.inr rfl))))
  (ss_one (sd_ret (ed_add c (ed_add c (ed_mul c (ed_mul c (ed_fdiv c (ed_var 3 (fun _ => pv 3)) (ed_var 4 (fun _ => pv 4))) (ed_var 4 (fun _ => pv 4))) ed_int) (ed_mul c (ed_var 2 (fun _ => pv 2)) (ed_var 4 (fun _ => pv 4)))) (ed_mod c (ed_toint c (fun _ => by rfl) T.f_int (am_cons (ed_var 3 (fun _ => pv 3)) am_nil)) (ed_var 4 (fun _ => pv 4)))))))
abbrev s_law_coupling : Stmt := top 33
abbrev N_law_coupling : List Str := ["_law_dice_here", "_law_many", "_law_member", "_law_made", "_law_slip", "_law_row", "_law_half", "_law_rest"]
abbrev P_law_coupling : List Str := ["_law_dice_here", "_law_many"]
theorem sc_law_coupling : FnScope N_law_coupling P_law_coupling (defScope s_law_coupling) := ⟨rfl, rfl, rfl, by decide +kernel, rfl, by decide +kernel, by decide +kernel⟩
def b_law_coupling (R : List D → Res D) : SF := (sSeq (sAsg (eFrz (eCall F_law_draw (aCons (eMove 0) (aCons (eVar 1) aNil)) [] [(0, 0)])) (gSet 2))
  (sSeq (sAsg (eLcL 8 (iRg1 (aCons (eCall F_law_power (aCons (eVar 1) aNil) [] []) aNil)) (gSet 5) mYes (eFrz (eVar 2)) [5]) (gSet 3))
  (sSeq (sIf (mAnd (eB (e2 gtD (eVar 1) (eC (.int 1)))) (eB (e2 gtD (eCall F_law_draw (aCons (eMove 0) (aCons (eC (.int 3)) aNil)) [] [(0, 0)]) (eC (.int 0))))) (sFor (iRg1 (aCons (eC (.int 2)) aNil)) (gSet 4) (sSeq (sAsg (eFrz (eCall R (aCons (eMove 0) (aCons (e2 subD (eVar 1) (eC (.int 1))) aNil)) [] [(0, 0)])) (gSet 6))
  (sFor (iRg1 (aCons (eBi lenD (aCons (eVar 6) aNil)) aNil)) (gSet 7) (sAsg (eFrz (e2 addD (e2 ixD (eVar 6) (eVar 7)) (eBi intD (aCons (e2 geD (e2 ixD (eVar 6) (eVar 7)) (eVar 2)) aNil)))) (gItem 3 (eCall F_law_row_with (aCons (eVar 1) (aCons (eVar 2) (aCons (eVar 4) (aCons (eVar 7) aNil)))) [] [])))))) sNext)
  (sFrz 3 (sRet (eCall F_law_switched (aMvL 0 (aCons (eVar 1) (aCons (eVar 3) (aCons (eFrz (eCall F_law_draw (aCons (eMove 0) (aCons (e2 addD (e2 mulD (eC (.int 2)) (eBi lenD (aCons (eVar 3) aNil))) (eC (.int 1))) aNil)) [] [(0, 0)])) aNil)))) [] [(0, 0)]))))))
def F_law_coupling_ : Nat → List D → Res D
  | 0 => fun _ => .stuck
  | k + 1 => runS [0] 2 8 (b_law_coupling (F_law_coupling_ k))
def F_law_coupling : List D → Res D := F_law_coupling_ 10
theorem step_law_coupling (T : Txt K mg) (h_law_draw_2 : FnD P w K mg base 1 "_law_draw" 2 [] F_law_draw) (h_law_power_1 : FnD P w K mg base 1 "_law_power" 1 [] F_law_power) (h_law_row_with_4 : FnD P w K mg base 2 "_law_row_with" 4 [] F_law_row_with) (h_law_switched_4 : FnD P w K mg base 3 "_law_switched" 4 [] F_law_switched) {R : List D → Res D} {k : Nat} (hk : 3 ≤ k) (h_rec : FnD P w K mg base k "_law_coupling" 2 [] R) {f : Addr} {fd : FuncData} (F : FunD K "_law_coupling" "_law_coupling" (defArgs s_law_coupling) (defBody s_law_coupling) (defScope s_law_coupling) [] [] f fd) : FnOk P w K mg base (L2.CX P w) (k + 1) f fd P_law_coupling (spD ⟨K, mg⟩ P_law_coupling.length (runS [0] 2 8 (b_law_coupling R))) :=
  fnok_of (pr := [0]) F sc_law_coupling fun cdv A outer s H E hr => by
    have c := cf_of (P := P) (w := w) (K := K) (mg := mg) (base := base) (E := E) (H := H) (outer := outer) sc_law_coupling hr
    have po : ∀ i : Unit, PassesOwn (model ((fun _ : Unit => cxOf (L2.CX P w) P w K mg base N_law_coupling "_law_coupling" (defScope s_law_coupling) f cdv A outer s H E) i).prog ((fun _ : Unit => cxOf (L2.CX P w) P w K mg base N_law_coupling "_law_coupling" (defScope s_law_coupling) f cdv A outer s H E) i).w) ((fun _ : Unit => cxOf (L2.CX P w) P w K mg base N_law_coupling "_law_coupling" (defScope s_law_coupling) f cdv A outer s H E) i).A ((fun _ : Unit => cxOf (L2.CX P w) P w K mg base N_law_coupling "_law_coupling" (defScope s_law_coupling) f cdv A outer s H E) i).env ((fun _ : Unit => cxOf (L2.CX P w) P w K mg base N_law_coupling "_law_coupling" (defScope s_law_coupling) f cdv A outer s H E) i).xe := fun _ => passes_of rfl
    exact (ss_cons (sd_asg (fun i te tg he hg => ps_asg he hg) (ed_frz (ed_fn c (fun _ => h_law_draw_2) (by omega) (fun _ => by rfl) (am_mv 0 (fun _ => pv 0) (am_cons (ed_var 1 (fun _ => pv 1)) am_nil)) (al_cons (al_cons al_nil)))) (gd_name (i := 2) (fun j => pg_name (c.nd j) rfl (by first | exact Or.inl rfl | exact Or.inr rfl))))
  (ss_cons (by first | exact (sd_setLc (own := [("_law_row", 5)]) 8 c.calm c.nd (fun _ => rfl) (fun _ => rfl) (fun _ => rfl) (by kernel_rfl) (by kernel_rfl) (by decide) (id_rg1 c (fun _ => by rfl) T.f_range (am_cons (ed_fn c (fun _ => h_law_power_1) (by omega) (fun _ => by rfl) (am_cons (ed_var 1 (fun _ => pv 1)) am_nil) (al_cons al_nil)) am_nil)) (fun _ => blkOk_by (by kernel_rfl)) (gd_name (i := 5) (fun j => pg_name ((c.blk _).nd j) rfl (by first | exact Or.inl rfl | exact Or.inr rfl))) ld_nil (ed_frz (ed_var 2 (fun _ => pv 2)))) | exact (sd_asg (fun i te tg he hg => ps_asg he hg) (ed_lc (own := [("_law_row", 5)]) 8 c.calm c.nd (id_rg1 c (fun _ => by rfl) T.f_range (am_cons (ed_fn c (fun _ => h_law_power_1) (by omega) (fun _ => by rfl) (am_cons (ed_var 1 (fun _ => pv 1)) am_nil) (al_cons al_nil)) am_nil)) (fun _ => blkOk_by (by kernel_rfl)) (gd_name (i := 5) (fun j => pg_name ((c.blk _).nd j) rfl (by first | exact Or.inl rfl | exact Or.inr rfl))) ld_nil (ed_frz (ed_var 2 (fun _ => pv 2)))) (gd_name (i := 3) (fun j => pg_name (c.nd j) rfl (by first | exact Or.inl rfl | exact Or.inr rfl)))))
  (ss_cons (sd_if (td_of (wd_and (td_gt c (ed_var 1 (fun _ => pv 1)) ed_int) (wd_and1 (td_gt c (ed_fn c (fun _ => h_law_draw_2) (by omega) (fun _ => by rfl) (am_mv 0 (fun _ => pv 0) (am_cons ed_int am_nil)) (al_cons (al_cons al_nil))) ed_int)))) (ss_one (sd_for po c.calm (id_rg1 c (fun _ => by rfl) T.f_range (am_cons ed_int am_nil)) (gd_name (i := 4) (fun j => pg_name (c.nd j) rfl (by first | exact Or.inl rfl | exact Or.inr rfl))) (ss_cons (sd_asg (fun i te tg he hg => ps_asg he hg) (ed_frz (ed_fn c (fun _ => h_rec) (by omega) (fun _ => by rfl) (am_mv 0 (fun _ => pv 0) (am_cons (ed_sub c (ed_var 1 (fun _ => pv 1)) ed_int) am_nil)) (al_cons (al_cons al_nil)))) (gd_name (i := 6) (fun j => pg_name (c.nd j) rfl (by first | exact Or.inl rfl | exact Or.inr rfl))))
  (ss_one (sd_for po c.calm (id_rg1 c (fun _ => by rfl) T.f_range (am_cons (ed_len c (fun _ => by rfl) T.f_len (am_cons (ed_var 6 (fun _ => pv 6)) am_nil)) am_nil)) (gd_name (i := 7) (fun j => pg_name (c.nd j) rfl (by first | exact Or.inl rfl | exact Or.inr rfl))) (ss_one (sd_asg (fun i te tg he hg => ps_asg he hg) (ed_frz (ed_add c (ed_ix c (ed_var 6 (fun _ => pv 6)) (ed_var 7 (fun _ => pv 7))) (ed_toint c (fun _ => by rfl) T.f_int (am_cons (ed_ge c (ed_ix c (ed_var 6 (fun _ => pv 6)) (ed_var 7 (fun _ => pv 7))) (ed_var 2 (fun _ => pv 2))) am_nil)))) (gd_item 3 c (fun _ => pv 3) (ed_fn (c.w0) (fun _ => h_law_row_with_4) (by omega) (fun _ => by rfl) (am_cons (ed_var 1 (fun _ => pv 1)) (am_cons (ed_var 2 (fun _ => pv 2)) (am_cons (ed_var 4 (fun _ => pv 4)) (am_cons (ed_var 7 (fun _ => pv 7)) am_nil)))) (al_cons (al_cons (al_cons (al_cons al_nil))))))))))))) ss_nil)
  (ss_frz (i := 3) (ss_one (sd_ret (ed_fn c (fun _ => h_law_switched_4) (by omega) (fun _ => by rfl) (am_mvL 0 (fun _ => pv 0) (am_cons (ed_var 1 (fun _ => pv 1)) (am_cons (ed_var 3 (fun _ => pv 3)) (am_cons (ed_frz (ed_fn c (fun _ => h_law_draw_2) (by omega) (fun _ => by rfl) (am_mv 0 (fun _ => pv 0) (am_cons (ed_add c (ed_mul c ed_int (ed_len c (fun _ => by rfl) T.f_len (am_cons (ed_var 3 (fun _ => pv 3)) am_nil))) ed_int) am_nil)) (al_cons (al_cons al_nil)))) am_nil)))) (by repeat (first | exact al_nil | apply al_cons | apply al_mvL)))))))))
theorem ok_law_coupling (T : Txt K mg) (h_law_draw_2 : FnD P w K mg base 1 "_law_draw" 2 [] F_law_draw) (h_law_power_1 : FnD P w K mg base 1 "_law_power" 1 [] F_law_power) (h_law_row_with_4 : FnD P w K mg base 2 "_law_row_with" 4 [] F_law_row_with) (h_law_switched_4 : FnD P w K mg base 3 "_law_switched" 4 [] F_law_switched) {f : Addr} {fd : FuncData} (F : FunD K "_law_coupling" "_law_coupling" (defArgs s_law_coupling) (defBody s_law_coupling) (defScope s_law_coupling) [] [] f fd) (g : mg "_law_coupling" = some (.ref f)) (b : Binds K fd P_law_coupling []) : ∀ n, FnOk P w K mg base (L2.CX P w) (3 + n) f fd P_law_coupling (spD ⟨K, mg⟩ P_law_coupling.length (F_law_coupling_ n))
  | 0 => fnok_stuck
  | n + 1 => step_law_coupling T h_law_draw_2 h_law_power_1 h_law_row_with_4 h_law_switched_4 (by omega) (fnd_n F g b (ok_law_coupling T h_law_draw_2 h_law_power_1 h_law_row_with_4 h_law_switched_4 F g b n)) F
abbrev s_law_rows : Stmt := top 34
abbrev N_law_rows : List Str := ["_law_club_here", "_law_found", "_law_sorts", "_law_later", "_law_row", "_law_slip"]
abbrev P_law_rows : List Str := ["_law_club_here"]
theorem sc_law_rows : FnScope N_law_rows P_law_rows (defScope s_law_rows) := ⟨rfl, rfl, rfl, by decide +kernel, rfl, by decide +kernel, by decide +kernel⟩
def b_law_rows : SF := (sSeq (sAsg (eFrz (eLst (aCons (eTup aNil) aNil))) (gSet 1))
  (sSeq (sFor (iSeq (eVar 0)) (gSet 2) (sSeq (sAsg (eLst aNil) (gSet 3))
  (sSeq (sFor (iSeq (eVar 1)) (gSet 4) (sDrop (eExt 3 (eLcL 6 (iRg1 (aCons (eVar 2) aNil)) (gSet 5) mYes (eFrz (e2 addD (eVar 4) (eTup (aCons (eVar 5) aNil)))) [5]))))
  (sAsg (eFrz (eMove 3)) (gSet 1)))))
  (sRet (eVar 1))))
def F_law_rows : List D → Res D := runS [] 1 6 b_law_rows
theorem ok_law_rows (T : Txt K mg)  {f : Addr} {fd : FuncData} (F : FunD K "_law_rows" "_law_rows" (defArgs s_law_rows) (defBody s_law_rows) (defScope s_law_rows) [] [] f fd) : FnOk P w K mg base (L2.CX P w) 1 f fd P_law_rows (spD ⟨K, mg⟩ P_law_rows.length F_law_rows) :=
  fnok_of (pr := []) F sc_law_rows fun cdv A outer s H E hr => by
    have c := cf_of (P := P) (w := w) (K := K) (mg := mg) (base := base) (E := E) (H := H) (outer := outer) sc_law_rows hr
    have po : ∀ i : Unit, PassesOwn (model ((fun _ : Unit => cxOf (L2.CX P w) P w K mg base N_law_rows "_law_rows" (defScope s_law_rows) f cdv A outer s H E) i).prog ((fun _ : Unit => cxOf (L2.CX P w) P w K mg base N_law_rows "_law_rows" (defScope s_law_rows) f cdv A outer s H E) i).w) ((fun _ : Unit => cxOf (L2.CX P w) P w K mg base N_law_rows "_law_rows" (defScope s_law_rows) f cdv A outer s H E) i).A ((fun _ : Unit => cxOf (L2.CX P w) P w K mg base N_law_rows "_law_rows" (defScope s_law_rows) f cdv A outer s H E) i).env ((fun _ : Unit => cxOf (L2.CX P w) P w K mg base N_law_rows "_law_rows" (defScope s_law_rows) f cdv A outer s H E) i).xe := fun _ => passes_of rfl
    exact (ss_cons (sd_asg (fun i te tg he hg => ps_asg he hg) (ed_frz (ed_lst (am_cons (ed_tup am_nil) am_nil))) (gd_name (i := 1) (fun j => pg_name (c.nd j) rfl (by first | exact Or.inl rfl | exact Or.inr rfl))))
  (ss_cons (sd_for po c.calm (id_seq c (ed_var 0 (fun _ => pv 0))) (gd_name (i := 2) (fun j => pg_name (c.nd j) rfl (by first | exact Or.inl rfl | exact Or.inr rfl))) (ss_cons (sd_asg (fun i te tg he hg => ps_asg he hg) (ed_lst am_nil) (gd_name (i := 3) (fun j => pg_name (c.nd j) rfl (by first | exact Or.inl rfl | exact Or.inr rfl))))
  (ss_cons (sd_for po c.calm (id_seq c (ed_var 1 (fun _ => pv 1))) (gd_name (i := 4) (fun j => pg_name (c.nd j) rfl (by first | exact Or.inl rfl | exact Or.inr rfl))) (ss_one (sd_expr (ed_ext 3 (fun _ => pv 3) (ed_lc (own := [("_law_slip", 5)]) 6 c.calm c.nd (id_rg1 c (fun _ => by rfl) T.f_range (am_cons (ed_var 2 (fun _ => pv 2)) am_nil)) (fun _ => blkOk_by (by kernel_rfl)) (gd_name (i := 5) (fun j => pg_name ((c.blk _).nd j) rfl (by first | exact Or.inl rfl | exact Or.inr rfl))) ld_nil (ed_frz (ed_add (c.blk _) (ed_var 4 (fun _ => pv 4)) (ed_tup (am_cons (ed_var 5 (fun _ => pv 5)) am_nil))))) c))))
  (ss_one (sd_asg (fun i te tg he hg => ps_asg he hg) (ed_frz (ed_move 3 (fun _ => pv 3))) (gd_name (i := 1) (fun j => pg_name (c.nd j) rfl (by first | exact Or.inl rfl | exact Or.inr rfl))))))))
  (ss_one (sd_ret (ed_var 1 (fun _ => pv 1))))))
abbrev s_law_picks : Stmt := top 37
abbrev N_law_picks : List Str := ["_law_dice_here", "_law_club_here", "_law_rows_here", "_law_member", "_law_others", "_law_named", "_law_way", "_law_found", "_law_other", "_law_slip", "_law_row"]
abbrev P_law_picks : List Str := ["_law_dice_here", "_law_club_here"]
theorem sc_law_picks : FnScope N_law_picks P_law_picks (defScope s_law_picks) := ⟨rfl, rfl, rfl, by decide +kernel, rfl, by decide +kernel, by decide +kernel⟩
def b_law_picks : SF := (sSeq (sAsg (eFrz (eCall F_law_rows (aCons (eVar 1) aNil) [] [])) (gSet 2))
  (sSeq (sAsg (eFrz (eCall F_law_draw (aCons (eMove 0) (aCons (eBi lenD (aCons (eVar 1) aNil)) aNil)) [] [(0, 0)])) (gSet 3))
  (sSeq (sAsg (eFrz (eLcL 11 (iRg1 (aCons (eBi lenD (aCons (eVar 1) aNil)) aNil)) (gSet 8) (eB (e2 neD (eVar 8) (eVar 3))) (eFrz (eVar 8)) [8])) (gSet 4))
  (sSeq (sAsg (eFrz (eLcL 11 (iRg1 (aCons (e2 ixD (eVar 1) (eVar 3)) aNil)) (gSet 9) mYes (eFrz (eIf (eB (e2 gtD (eBi lenD (aCons (eVar 4) aNil)) (eC (.int 0)))) (e2 ixD (eVar 4) (eCall F_law_draw (aCons (eMove 0) (aCons (eBi lenD (aCons (eVar 4) aNil)) aNil)) [] [(0, 0)])) (eC (.int 0)))) [9])) (gSet 5))
  (sSeq (sAsg (eFrz (eCall F_law_draw (aCons (eMove 0) (aCons (eC (.int 5)) aNil)) [] [(0, 0)])) (gSet 6))
  (sSeq (sAsg (eLcL 11 (iSeq (eVar 2)) (gSet 10) mYes (eFrz (eVar 3)) [10]) (gSet 7))
  (sSeq (sIf (eB (e2 inD (eVar 6) (eLst (aCons (eC (.int 1)) (aCons (eC (.int 2)) aNil))))) (sAsg (eLcL 11 (iSeq (eVar 2)) (gSet 10) mYes (eFrz (e2 ixD (eVar 5) (e2 ixD (eVar 10) (eVar 3)))) [10]) (gSet 7)) sNext)
  (sSeq (sIf (eB (e2 inD (eVar 6) (eLst (aCons (eC (.int 2)) (aCons (eC (.int 3)) aNil))))) (sAsg (eFrz (eCall F_law_draw (aCons (eMove 0) (aCons (eBi lenD (aCons (eVar 1) aNil)) aNil)) [] [(0, 0)])) (gItem 7 (eCall F_law_draw (aCons (eMove 0) (aCons (eBi lenD (aCons (eVar 2) aNil)) aNil)) [] [(0, 0)]))) sNext)
  (sSeq (sIf (eB (e2 eqD (eVar 6) (eC (.int 4)))) (sAsg (eLcL 11 (iSeq (eVar 2)) (gSet 10) mYes (eFrz (eCall F_law_draw (aCons (eMove 0) (aCons (eBi lenD (aCons (eVar 1) aNil)) aNil)) [] [(0, 0)])) [10]) (gSet 7)) sNext)
  (sFrz 7 (sRet (eBi tupleD (aCons (eVar 7) aNil)))))))))))))
def F_law_picks : List D → Res D := runS [0] 2 11 b_law_picks
theorem ok_law_picks (T : Txt K mg) (h_law_rows_1 : FnD P w K mg base 1 "_law_rows" 1 [] F_law_rows) (h_law_draw_2 : FnD P w K mg base 1 "_law_draw" 2 [] F_law_draw) {f : Addr} {fd : FuncData} (F : FunD K "_law_picks" "_law_picks" (defArgs s_law_picks) (defBody s_law_picks) (defScope s_law_picks) [] [] f fd) : FnOk P w K mg base (L2.CX P w) 2 f fd P_law_picks (spD ⟨K, mg⟩ P_law_picks.length F_law_picks) :=
  fnok_of (pr := [0]) F sc_law_picks fun cdv A outer s H E hr => by
    have c := cf_of (P := P) (w := w) (K := K) (mg := mg) (base := base) (E := E) (H := H) (outer := outer) sc_law_picks hr
    have po : ∀ i : Unit, PassesOwn (model ((fun _ : Unit => cxOf (L2.CX P w) P w K mg base N_law_picks "_law_picks" (defScope s_law_picks) f cdv A outer s H E) i).prog ((fun _ : Unit => cxOf (L2.CX P w) P w K mg base N_law_picks "_law_picks" (defScope s_law_picks) f cdv A outer s H E) i).w) ((fun _ : Unit => cxOf (L2.CX P w) P w K mg base N_law_picks "_law_picks" (defScope s_law_picks) f cdv A outer s H E) i).A ((fun _ : Unit => cxOf (L2.CX P w) P w K mg base N_law_picks "_law_picks" (defScope s_law_picks) f cdv A outer s H E) i).env ((fun _ : Unit => cxOf (L2.CX P w) P w K mg base N_law_picks "_law_picks" (defScope s_law_picks) f cdv A outer s H E) i).xe := fun _ => passes_of rfl
    exact (ss_cons (sd_asg (fun i te tg he hg => ps_asg he hg) (ed_frz (ed_fn c (fun _ => h_law_rows_1) (by decide) (fun _ => by rfl) (am_cons (ed_var 1 (fun _ => pv 1)) am_nil) (al_cons al_nil))) (gd_name (i := 2) (fun j => pg_name (c.nd j) rfl (by first | exact Or.inl rfl | exact Or.inr rfl))))
  (ss_cons (sd_asg (fun i te tg he hg => ps_asg he hg) (ed_frz (ed_fn c (fun _ => h_law_draw_2) (by decide) (fun _ => by rfl) (am_mv 0 (fun _ => pv 0) (am_cons (ed_len c (fun _ => by rfl) T.f_len (am_cons (ed_var 1 (fun _ => pv 1)) am_nil)) am_nil)) (al_cons (al_cons al_nil)))) (gd_name (i := 3) (fun j => pg_name (c.nd j) rfl (by first | exact Or.inl rfl | exact Or.inr rfl))))
  (ss_cons (by first | exact (sd_setLcF (own := [("_law_other", 8)]) 11 c.calm c.nd (fun _ => rfl) (fun _ => rfl) (fun _ => rfl) (by kernel_rfl) (by kernel_rfl) (by decide) (id_rg1 c (fun _ => by rfl) T.f_range (am_cons (ed_len c (fun _ => by rfl) T.f_len (am_cons (ed_var 1 (fun _ => pv 1)) am_nil)) am_nil)) (fun _ => blkOk_by (by kernel_rfl)) (gd_name (i := 8) (fun j => pg_name ((c.blk _).nd j) rfl (by first | exact Or.inl rfl | exact Or.inr rfl))) (ld_one (td_ne (c.blk _) (ed_var 8 (fun _ => pv 8)) (ed_var 3 (fun _ => pv 3)))) (ed_frz (ed_var 8 (fun _ => pv 8)))) | exact (sd_asg (fun i te tg he hg => ps_asg he hg) (ed_frz (ed_lc (own := [("_law_other", 8)]) 11 c.calm c.nd (id_rg1 c (fun _ => by rfl) T.f_range (am_cons (ed_len c (fun _ => by rfl) T.f_len (am_cons (ed_var 1 (fun _ => pv 1)) am_nil)) am_nil)) (fun _ => blkOk_by (by kernel_rfl)) (gd_name (i := 8) (fun j => pg_name ((c.blk _).nd j) rfl (by first | exact Or.inl rfl | exact Or.inr rfl))) (ld_one (td_ne (c.blk _) (ed_var 8 (fun _ => pv 8)) (ed_var 3 (fun _ => pv 3)))) (ed_frz (ed_var 8 (fun _ => pv 8))))) (gd_name (i := 4) (fun j => pg_name (c.nd j) rfl (by first | exact Or.inl rfl | exact Or.inr rfl)))))
  (ss_cons (by first | exact (sd_setLcF (own := [("_law_slip", 9)]) 11 c.calm c.nd (fun _ => rfl) (fun _ => rfl) (fun _ => rfl) (by kernel_rfl) (by kernel_rfl) (by decide) (id_rg1 c (fun _ => by rfl) T.f_range (am_cons (ed_ix c (ed_var 1 (fun _ => pv 1)) (ed_var 3 (fun _ => pv 3))) am_nil)) (fun _ => blkOk_by (by kernel_rfl)) (gd_name (i := 9) (fun j => pg_name ((c.blk _).nd j) rfl (by first | exact Or.inl rfl | exact Or.inr rfl))) ld_nil (ed_frz (ed_if (td_gt (c.blk _) (ed_len (c.blk _) (fun _ => by rfl) T.f_len (am_cons (ed_var 4 (fun _ => pv 4)) am_nil)) ed_int) (ed_ix (c.blk _) (ed_var 4 (fun _ => pv 4)) (ed_fn (c.blk _) (fun _ => h_law_draw_2) (by decide) (fun _ => by rfl) (am_mv 0 (fun _ => pv 0) (am_cons (ed_len (c.blk _) (fun _ => by rfl) T.f_len (am_cons (ed_var 4 (fun _ => pv 4)) am_nil)) am_nil)) (al_cons (al_cons al_nil)))) ed_int))) | exact (sd_asg (fun i te tg he hg => ps_asg he hg) (ed_frz (ed_lc (own := [("_law_slip", 9)]) 11 c.calm c.nd (id_rg1 c (fun _ => by rfl) T.f_range (am_cons (ed_ix c (ed_var 1 (fun _ => pv 1)) (ed_var 3 (fun _ => pv 3))) am_nil)) (fun _ => blkOk_by (by kernel_rfl)) (gd_name (i := 9) (fun j => pg_name ((c.blk _).nd j) rfl (by first | exact Or.inl rfl | exact Or.inr rfl))) ld_nil (ed_frz (ed_if (td_gt (c.blk _) (ed_len (c.blk _) (fun _ => by rfl) T.f_len (am_cons (ed_var 4 (fun _ => pv 4)) am_nil)) ed_int) (ed_ix (c.blk _) (ed_var 4 (fun _ => pv 4)) (ed_fn (c.blk _) (fun _ => h_law_draw_2) (by decide) (fun _ => by rfl) (am_mv 0 (fun _ => pv 0) (am_cons (ed_len (c.blk _) (fun _ => by rfl) T.f_len (am_cons (ed_var 4 (fun _ => pv 4)) am_nil)) am_nil)) (al_cons (al_cons al_nil)))) ed_int)))) (gd_name (i := 5) (fun j => pg_name (c.nd j) rfl (by first | exact Or.inl rfl | exact Or.inr rfl)))))
  (ss_cons (sd_asg (fun i te tg he hg => ps_asg he hg) (ed_frz (ed_fn c (fun _ => h_law_draw_2) (by decide) (fun _ => by rfl) (am_mv 0 (fun _ => pv 0) (am_cons ed_int am_nil)) (al_cons (al_cons al_nil)))) (gd_name (i := 6) (fun j => pg_name (c.nd j) rfl (by first | exact Or.inl rfl | exact Or.inr rfl))))
  (ss_cons (by first | exact (sd_setLc (own := [("_law_row", 10)]) 11 c.calm c.nd (fun _ => rfl) (fun _ => rfl) (fun _ => rfl) (by kernel_rfl) (by kernel_rfl) (by decide) (id_seq c (ed_var 2 (fun _ => pv 2))) (fun _ => blkOk_by (by kernel_rfl)) (gd_name (i := 10) (fun j => pg_name ((c.blk _).nd j) rfl (by first | exact Or.inl rfl | exact Or.inr rfl))) ld_nil (ed_frz (ed_var 3 (fun _ => pv 3)))) | exact (sd_asg (fun i te tg he hg => ps_asg he hg) (ed_lc (own := [("_law_row", 10)]) 11 c.calm c.nd (id_seq c (ed_var 2 (fun _ => pv 2))) (fun _ => blkOk_by (by kernel_rfl)) (gd_name (i := 10) (fun j => pg_name ((c.blk _).nd j) rfl (by first | exact Or.inl rfl | exact Or.inr rfl))) ld_nil (ed_frz (ed_var 3 (fun _ => pv 3)))) (gd_name (i := 7) (fun j => pg_name (c.nd j) rfl (by first | exact Or.inl rfl | exact Or.inr rfl)))))
  (ss_cons (sd_if (td_in c (ed_var 6 (fun _ => pv 6)) (ed_lst (am_cons ed_int (am_cons ed_int am_nil)))) (ss_one (by first | exact (sd_setLc (own := [("_law_row", 10)]) 11 c.calm c.nd (fun _ => rfl) (fun _ => rfl) (fun _ => rfl) (by kernel_rfl) (by kernel_rfl) (by decide) (id_seq c (ed_var 2 (fun _ => pv 2))) (fun _ => blkOk_by (by kernel_rfl)) (gd_name (i := 10) (fun j => pg_name ((c.blk _).nd j) rfl (by first | exact Or.inl rfl | exact Or.inr rfl))) ld_nil (ed_frz (ed_ix (c.blk _) (ed_var 5 (fun _ => pv 5)) (ed_ix (c.blk _) (ed_var 10 (fun _ => pv 10)) (ed_var 3 (fun _ => pv 3)))))) | exact (sd_asg (fun i te tg he hg => ps_asg he hg) (ed_lc (own := [("_law_row", 10)]) 11 c.calm c.nd (id_seq c (ed_var 2 (fun _ => pv 2))) (fun _ => blkOk_by (by kernel_rfl)) (gd_name (i := 10) (fun j => pg_name ((c.blk _).nd j) rfl (by first | exact Or.inl rfl | exact Or.inr rfl))) ld_nil (ed_frz (ed_ix (c.blk _) (ed_var 5 (fun _ => pv 5)) (ed_ix (c.blk _) (ed_var 10 (fun _ => pv 10)) (ed_var 3 (fun _ => pv 3)))))) (gd_name (i := 7) (fun j => pg_name (c.nd j) rfl (by first | exact Or.inl rfl | exact Or.inr rfl)))))) ss_nil)
  (ss_cons (sd_if (td_in c (ed_var 6 (fun _ => pv 6)) (ed_lst (am_cons ed_int (am_cons ed_int am_nil)))) (ss_one (sd_asg (fun i te tg he hg => ps_asg he hg) (ed_frz (ed_fn c (fun _ => h_law_draw_2) (by decide) (fun _ => by rfl) (am_mv 0 (fun _ => pv 0) (am_cons (ed_len c (fun _ => by rfl) T.f_len (am_cons (ed_var 1 (fun _ => pv 1)) am_nil)) am_nil)) (al_cons (al_cons al_nil)))) (gd_item 7 c (fun _ => pv 7) (ed_fn (c.w0) (fun _ => h_law_draw_2) (by decide) (fun _ => by rfl) (am_mv 0 (fun _ => pv 0) (am_cons (ed_len (c.w0) (fun _ => by rfl) T.f_len (am_cons (ed_var 2 (fun _ => pv 2)) am_nil)) am_nil)) (al_cons (al_cons al_nil)))))) ss_nil)
  (ss_cons (sd_if (td_eq c (ed_var 6 (fun _ => pv 6)) ed_int) (ss_one (by first | exact (sd_setLc (own := [("_law_row", 10)]) 11 c.calm c.nd (fun _ => rfl) (fun _ => rfl) (fun _ => rfl) (by kernel_rfl) (by kernel_rfl) (by decide) (id_seq c (ed_var 2 (fun _ => pv 2))) (fun _ => blkOk_by (by kernel_rfl)) (gd_name (i := 10) (fun j => pg_name ((c.blk _).nd j) rfl (by first | exact Or.inl rfl | exact Or.inr rfl))) ld_nil (ed_frz (ed_fn (c.blk _) (fun _ => h_law_draw_2) (by decide) (fun _ => by rfl) (am_mv 0 (fun _ => pv 0) (am_cons (ed_len (c.blk _) (fun _ => by rfl) T.f_len (am_cons (ed_var 1 (fun _ => pv 1)) am_nil)) am_nil)) (al_cons (al_cons al_nil))))) | exact (sd_asg (fun i te tg he hg => ps_asg he hg) (ed_lc (own := [("_law_row", 10)]) 11 c.calm c.nd (id_seq c (ed_var 2 (fun _ => pv 2))) (fun _ => blkOk_by (by kernel_rfl)) (gd_name (i := 10) (fun j => pg_name ((c.blk _).nd j) rfl (by first | exact Or.inl rfl | exact Or.inr rfl))) ld_nil (ed_frz (ed_fn (c.blk _) (fun _ => h_law_draw_2) (by decide) (fun _ => by rfl) (am_mv 0 (fun _ => pv 0) (am_cons (ed_len (c.blk _) (fun _ => by rfl) T.f_len (am_cons (ed_var 1 (fun _ => pv 1)) am_nil)) am_nil)) (al_cons (al_cons al_nil))))) (gd_name (i := 7) (fun j => pg_name (c.nd j) rfl (by first | exact Or.inl rfl | exact Or.inr rfl)))))) ss_nil)
  (ss_frz (i := 7) (ss_one (sd_ret (ed_tuple c (fun _ => by rfl) T.f_tuple (am_cons (ed_var 7 (fun _ => pv 7)) am_nil))))))))))))))
abbrev s_law_great : Stmt := top 40
abbrev N_law_great : List Str := ["_law_dice_here", "_law_many", "_law_picks_here", "_law_club_here"]
abbrev P_law_great : List Str := ["_law_dice_here"]
theorem sc_law_great : FnScope N_law_great P_law_great (defScope s_law_great) := ⟨rfl, rfl, rfl, by decide +kernel, rfl, by decide +kernel, by decide +kernel⟩
def b_law_great : SF := (sSeq (sIf (eB (e2 eqD (eCall F_law_draw (aCons (eMove 0) (aCons (eC (.int 2)) aNil)) [] [(0, 0)]) (eC (.int 0)))) (sSeq (sAsg (eFrz (e2 ixD (eLst (aCons (eTup (aCons (eC (.int 4)) (aCons (eC (.int 4)) (aCons (eC (.int 4)) aNil)))) (aCons (eTup (aCons (eC (.int 4)) (aCons (eC (.int 3)) (aCons (eC (.int 3)) aNil)))) (aCons (eTup (aCons (eC (.int 3)) (aCons (eC (.int 4)) (aCons (eC (.int 4)) aNil)))) (aCons (eTup (aCons (eC (.int 4)) (aCons (eC (.int 4)) (aCons (eC (.int 2)) aNil)))) aNil))))) (eCall F_law_draw (aCons (eMove 0) (aCons (eC (.int 4)) aNil)) [] [(0, 0)]))) (gSet 3))
  (sRet (eTup (aCons (eVar 3) (aCons (eCall F_law_picks (aCons (eMove 0) (aCons (eVar 3) aNil)) [] [(0, 0)]) aNil))))) sNext)
  (sSeq (sAsg (eFrz (e2 addD (eC (.int 5)) (eCall F_law_draw (aCons (eMove 0) (aCons (eC (.int 4)) aNil)) [] [(0, 0)]))) (gSet 1))
  (sSeq (sAsg (eBi listD (aCons (eCall F_law_coupling (aCons (eMove 0) (aCons (eVar 1) aNil)) [] [(0, 0)]) aNil)) (gSet 2))
  (sSeq (sIf (eB (e2 gtD (eCall F_law_draw (aCons (eMove 0) (aCons (eC (.int 3)) aNil)) [] [(0, 0)]) (eC (.int 0)))) (sAsg (eFrz (eCall F_law_draw (aCons (eMove 0) (aCons (eVar 1) aNil)) [] [(0, 0)])) (gItem 2 (eCall F_law_draw (aCons (eMove 0) (aCons (eBor (eBi lenD (aCons (eVar 2) aNil))) aNil)) [] [(0, 0)]))) sNext)
  (sFrz 2 (sRet (eTup (aCons (e2 mulD (eTup (aCons (eC (.int 2)) aNil)) (eVar 1)) (aCons (eBi tupleD (aCons (eVar 2) aNil)) aNil)))))))))
def F_law_great : List D → Res D := runS [0] 1 4 b_law_great
theorem ok_law_great (T : Txt K mg) (h_law_draw_2 : FnD P w K mg base 1 "_law_draw" 2 [] F_law_draw) (h_law_picks_2 : FnD P w K mg base 2 "_law_picks" 2 [] F_law_picks) (h_law_coupling_2 : FnD P w K mg base 13 "_law_coupling" 2 [] F_law_coupling) {f : Addr} {fd : FuncData} (F : FunD K "_law_great" "_law_great" (defArgs s_law_great) (defBody s_law_great) (defScope s_law_great) [] [] f fd) : FnOk P w K mg base (L2.CX P w) 14 f fd P_law_great (spD ⟨K, mg⟩ P_law_great.length F_law_great) :=
  fnok_of (pr := [0]) F sc_law_great fun cdv A outer s H E hr => by
    have c := cf_of (P := P) (w := w) (K := K) (mg := mg) (base := base) (E := E) (H := H) (outer := outer) sc_law_great hr
    have po : ∀ i : Unit, PassesOwn (model ((fun _ : Unit => cxOf (L2.CX P w) P w K mg base N_law_great "_law_great" (defScope s_law_great) f cdv A outer s H E) i).prog ((fun _ : Unit => cxOf (L2.CX P w) P w K mg base N_law_great "_law_great" (defScope s_law_great) f cdv A outer s H E) i).w) ((fun _ : Unit => cxOf (L2.CX P w) P w K mg base N_law_great "_law_great" (defScope s_law_great) f cdv A outer s H E) i).A ((fun _ : Unit => cxOf (L2.CX P w) P w K mg base N_law_great "_law_great" (defScope s_law_great) f cdv A outer s H E) i).env ((fun _ : Unit => cxOf (L2.CX P w) P w K mg base N_law_great "_law_great" (defScope s_law_great) f cdv A outer s H E) i).xe := fun _ => passes_of rfl
    exact (ss_cons (sd_if (td_eq c (ed_fn c (fun _ => h_law_draw_2) (by decide) (fun _ => by rfl) (am_mv 0 (fun _ => pv 0) (am_cons ed_int am_nil)) (al_cons (al_cons al_nil))) ed_int) (ss_cons (sd_asg (fun i te tg he hg => ps_asg he hg) (ed_frz (ed_ix c (ed_lst (am_cons (ed_tup (am_cons ed_int (am_cons ed_int (am_cons ed_int am_nil)))) (am_cons (ed_tup (am_cons ed_int (am_cons ed_int (am_cons ed_int am_nil)))) (am_cons (ed_tup (am_cons ed_int (am_cons ed_int (am_cons ed_int am_nil)))) (am_cons (ed_tup (am_cons ed_int (am_cons ed_int (am_cons ed_int am_nil)))) am_nil))))) (ed_fn c (fun _ => h_law_draw_2) (by decide) (fun _ => by rfl) (am_mv 0 (fun _ => pv 0) (am_cons ed_int am_nil)) (al_cons (al_cons al_nil))))) (gd_name (i := 3) (fun j => pg_name (c.nd j) rfl (by first | exact Or.inl rfl | exact Or.inr rfl))))
  (ss_one (sd_ret (ed_tup (am_cons (ed_var 3 (fun _ => pv 3)) (am_cons (ed_fn c (fun _ => h_law_picks_2) (by decide) (fun _ => by rfl) (am_mv 0 (fun _ => pv 0) (am_cons (ed_var 3 (fun _ => pv 3)) am_nil)) (al_cons (al_cons al_nil))) am_nil)))))) ss_nil)
  (ss_cons (sd_asg (fun i te tg he hg => ps_asg he hg) (ed_frz (ed_add c ed_int (ed_fn c (fun _ => h_law_draw_2) (by decide) (fun _ => by rfl) (am_mv 0 (fun _ => pv 0) (am_cons ed_int am_nil)) (al_cons (al_cons al_nil))))) (gd_name (i := 1) (fun j => pg_name (c.nd j) rfl (by first | exact Or.inl rfl | exact Or.inr rfl))))
  (ss_cons (sd_asg (fun i te tg he hg => ps_asg he hg) (ed_list c (fun _ => by rfl) T.f_list (am_cons (ed_fn c (fun _ => h_law_coupling_2) (by decide) (fun _ => by rfl) (am_mv 0 (fun _ => pv 0) (am_cons (ed_var 1 (fun _ => pv 1)) am_nil)) (al_cons (al_cons al_nil))) am_nil)) (gd_name (i := 2) (fun j => pg_name (c.nd j) rfl (by first | exact Or.inl rfl | exact Or.inr rfl))))
  (ss_cons (sd_if (td_gt c (ed_fn c (fun _ => h_law_draw_2) (by decide) (fun _ => by rfl) (am_mv 0 (fun _ => pv 0) (am_cons ed_int am_nil)) (al_cons (al_cons al_nil))) ed_int) (ss_one (sd_asg (fun i te tg he hg => ps_asg he hg) (ed_frz (ed_fn c (fun _ => h_law_draw_2) (by decide) (fun _ => by rfl) (am_mv 0 (fun _ => pv 0) (am_cons (ed_var 1 (fun _ => pv 1)) am_nil)) (al_cons (al_cons al_nil)))) (gd_item 2 c (fun _ => pv 2) (ed_fn (c.w0) (fun _ => h_law_draw_2) (by decide) (fun _ => by rfl) (am_mv 0 (fun _ => pv 0) (am_cons (ed_bor (ed_len (c.w0) (fun _ => by rfl) T.f_len (am_cons (ed_var 2 (fun _ => pv 2)) am_nil))) am_nil)) (al_cons (al_cons al_nil)))))) ss_nil)
  (ss_frz (i := 2) (ss_one (sd_ret (ed_tup (am_cons (ed_mul c (ed_tup (am_cons ed_int am_nil)) (ed_var 1 (fun _ => pv 1))) (am_cons (ed_tuple c (fun _ => by rfl) T.f_tuple (am_cons (ed_var 2 (fun _ => pv 2)) am_nil)) am_nil))))))))))
abbrev s_law_first_own : Stmt := top 35
abbrev N_law_first_own : List Str := ["_law_club_here", "_law_picks_here", "_law_rows_here", "_law_one", "_law_two", "_law_unlike", "_law_member"]
abbrev P_law_first_own : List Str := ["_law_club_here", "_law_picks_here"]
theorem sc_law_first_own : FnScope N_law_first_own P_law_first_own (defScope s_law_first_own) := ⟨rfl, rfl, rfl, by decide +kernel, rfl, by decide +kernel, by decide +kernel⟩
def b_law_first_own : SF := (sSeq (sAsg (eFrz (eCall F_law_rows (aCons (eVar 0) aNil) [] [])) (gSet 2))
  (sSeq (sFor (iRg1 (aCons (eBi lenD (aCons (eVar 2) aNil)) aNil)) (gSet 3) (sFor (iRg2 (aCons (e2 addD (eVar 3) (eC (.int 1))) (aCons (eBi lenD (aCons (eVar 2) aNil)) aNil))) (gSet 4) (sSeq (sAsg (eFrz (eLcL 7 (iRg1 (aCons (eBi lenD (aCons (eVar 0) aNil)) aNil)) (gSet 6) (eB (e2 neD (e2 ixD (e2 ixD (eVar 2) (eVar 3)) (eVar 6)) (e2 ixD (e2 ixD (eVar 2) (eVar 4)) (eVar 6)))) (eFrz (eVar 6)) [6])) (gSet 5))
  (sIf (mAnd (eB (e2 eqD (eBi lenD (aCons (eVar 5) aNil)) (eC (.int 1)))) (eB (e2 neD (e2 eqD (e2 ixD (eVar 1) (eVar 3)) (e2 ixD (eVar 5) (eC (.int 0)))) (e2 eqD (e2 ixD (eVar 1) (eVar 4)) (e2 ixD (eVar 5) (eC (.int 0))))))) (sRet (eTup (aCons (eVar 3) (aCons (eVar 4) (aCons (e2 ixD (eVar 5) (eC (.int 0))) aNil))))) sNext))))
  (sRet (eC .non))))
def F_law_first_own : List D → Res D := runS [] 2 7 b_law_first_own
theorem ok_law_first_own (T : Txt K mg) (h_law_rows_1 : FnD P w K mg base 1 "_law_rows" 1 [] F_law_rows) {f : Addr} {fd : FuncData} (F : FunD K "_law_first_own" "_law_first_own" (defArgs s_law_first_own) (defBody s_law_first_own) (defScope s_law_first_own) [] [] f fd) : FnOk P w K mg base (L2.CX P w) 2 f fd P_law_first_own (spD ⟨K, mg⟩ P_law_first_own.length F_law_first_own) :=
  fnok_of (pr := []) F sc_law_first_own fun cdv A outer s H E hr => by
    have c := cf_of (P := P) (w := w) (K := K) (mg := mg) (base := base) (E := E) (H := H) (outer := outer) sc_law_first_own hr
    have po : ∀ i : Unit, PassesOwn (model ((fun _ : Unit => cxOf (L2.CX P w) P w K mg base N_law_first_own "_law_first_own" (defScope s_law_first_own) f cdv A outer s H E) i).prog ((fun _ : Unit => cxOf (L2.CX P w) P w K mg base N_law_first_own "_law_first_own" (defScope s_law_first_own) f cdv A outer s H E) i).w) ((fun _ : Unit => cxOf (L2.CX P w) P w K mg base N_law_first_own "_law_first_own" (defScope s_law_first_own) f cdv A outer s H E) i).A ((fun _ : Unit => cxOf (L2.CX P w) P w K mg base N_law_first_own "_law_first_own" (defScope s_law_first_own) f cdv A outer s H E) i).env ((fun _ : Unit => cxOf (L2.CX P w) P w K mg base N_law_first_own "_law_first_own" (defScope s_law_first_own) f cdv A outer s H E) i).xe := fun _ => passes_of rfl
    exact (ss_cons (sd_asg (fun i te tg he hg => ps_asg he hg) (ed_frz (ed_fn c (fun _ => h_law_rows_1) (by decide) (fun _ => by rfl) (am_cons (ed_var 0 (fun _ => pv 0)) am_nil) (al_cons al_nil))) (gd_name (i := 2) (fun j => pg_name (c.nd j) rfl (by first | exact Or.inl rfl | exact Or.inr rfl))))
  (ss_cons (sd_for po c.calm (id_rg1 c (fun _ => by rfl) T.f_range (am_cons (ed_len c (fun _ => by rfl) T.f_len (am_cons (ed_var 2 (fun _ => pv 2)) am_nil)) am_nil)) (gd_name (i := 3) (fun j => pg_name (c.nd j) rfl (by first | exact Or.inl rfl | exact Or.inr rfl))) (ss_one (sd_for po c.calm (id_rg2 c (fun _ => by rfl) T.f_range (am_cons (ed_add c (ed_var 3 (fun _ => pv 3)) ed_int) (am_cons (ed_len c (fun _ => by rfl) T.f_len (am_cons (ed_var 2 (fun _ => pv 2)) am_nil)) am_nil))) (gd_name (i := 4) (fun j => pg_name (c.nd j) rfl (by first | exact Or.inl rfl | exact Or.inr rfl))) (ss_cons (by first | exact (sd_setLcF (own := [("_law_member", 6)]) 7 c.calm c.nd (fun _ => rfl) (fun _ => rfl) (fun _ => rfl) (by kernel_rfl) (by kernel_rfl) (by decide) (id_rg1 c (fun _ => by rfl) T.f_range (am_cons (ed_len c (fun _ => by rfl) T.f_len (am_cons (ed_var 0 (fun _ => pv 0)) am_nil)) am_nil)) (fun _ => blkOk_by (by kernel_rfl)) (gd_name (i := 6) (fun j => pg_name ((c.blk _).nd j) rfl (by first | exact Or.inl rfl | exact Or.inr rfl))) (ld_one (td_ne (c.blk _) (ed_ix (c.blk _) (ed_ix (c.blk _) (ed_var 2 (fun _ => pv 2)) (ed_var 3 (fun _ => pv 3))) (ed_var 6 (fun _ => pv 6))) (ed_ix (c.blk _) (ed_ix (c.blk _) (ed_var 2 (fun _ => pv 2)) (ed_var 4 (fun _ => pv 4))) (ed_var 6 (fun _ => pv 6))))) (ed_frz (ed_var 6 (fun _ => pv 6)))) | exact (sd_asg (fun i te tg he hg => ps_asg he hg) (ed_frz (ed_lc (own := [("_law_member", 6)]) 7 c.calm c.nd (id_rg1 c (fun _ => by rfl) T.f_range (am_cons (ed_len c (fun _ => by rfl) T.f_len (am_cons (ed_var 0 (fun _ => pv 0)) am_nil)) am_nil)) (fun _ => blkOk_by (by kernel_rfl)) (gd_name (i := 6) (fun j => pg_name ((c.blk _).nd j) rfl (by first | exact Or.inl rfl | exact Or.inr rfl))) (ld_one (td_ne (c.blk _) (ed_ix (c.blk _) (ed_ix (c.blk _) (ed_var 2 (fun _ => pv 2)) (ed_var 3 (fun _ => pv 3))) (ed_var 6 (fun _ => pv 6))) (ed_ix (c.blk _) (ed_ix (c.blk _) (ed_var 2 (fun _ => pv 2)) (ed_var 4 (fun _ => pv 4))) (ed_var 6 (fun _ => pv 6))))) (ed_frz (ed_var 6 (fun _ => pv 6))))) (gd_name (i := 5) (fun j => pg_name (c.nd j) rfl (by first | exact Or.inl rfl | exact Or.inr rfl)))))
  (ss_one (sd_if (td_of (wd_and (td_eq c (ed_len c (fun _ => by rfl) T.f_len (am_cons (ed_var 5 (fun _ => pv 5)) am_nil)) ed_int) (wd_and1 (td_ne c (ed_eq c (ed_ix c (ed_var 1 (fun _ => pv 1)) (ed_var 3 (fun _ => pv 3))) (ed_ix c (ed_var 5 (fun _ => pv 5)) ed_int)) (ed_eq c (ed_ix c (ed_var 1 (fun _ => pv 1)) (ed_var 4 (fun _ => pv 4))) (ed_ix c (ed_var 5 (fun _ => pv 5)) ed_int)))))) (ss_one (sd_ret (ed_tup (am_cons (ed_var 3 (fun _ => pv 3)) (am_cons (ed_var 4 (fun _ => pv 4)) (am_cons (ed_ix c (ed_var 5 (fun _ => pv 5)) ed_int) am_nil)))))) ss_nil))))))
  (ss_one (sd_ret ed_non))))
abbrev s_is_integer : Stmt := top 6
abbrev N_is_integer : List Str := ["thing"]
abbrev P_is_integer : List Str := ["thing"]
theorem sc_is_integer : FnScope N_is_integer P_is_integer (defScope s_is_integer) := ⟨rfl, rfl, rfl, by decide +kernel, rfl, by decide +kernel, by decide +kernel⟩
def b_is_integer : SF := (sRet (eAnd (eInst .int (eVar 0)) (eNot (eInst .bool (eVar 0)))))
def F_is_integer : List D → Res D := runS [] 1 1 b_is_integer
theorem ok_is_integer (T : Txt K mg)  {f : Addr} {fd : FuncData} (F : FunD K "is_integer" "is_integer" (defArgs s_is_integer) (defBody s_is_integer) (defScope s_is_integer) [] [] f fd) : FnOk P w K mg base (L2.CX P w) 1 f fd P_is_integer (spD ⟨K, mg⟩ P_is_integer.length F_is_integer) :=
  fnok_of (pr := []) F sc_is_integer fun cdv A outer s H E hr => by
    have c := cf_of (P := P) (w := w) (K := K) (mg := mg) (base := base) (E := E) (H := H) (outer := outer) sc_is_integer hr
    have po : ∀ i : Unit, PassesOwn (model ((fun _ : Unit => cxOf (L2.CX P w) P w K mg base N_is_integer "is_integer" (defScope s_is_integer) f cdv A outer s H E) i).prog ((fun _ : Unit => cxOf (L2.CX P w) P w K mg base N_is_integer "is_integer" (defScope s_is_integer) f cdv A outer s H E) i).w) ((fun _ : Unit => cxOf (L2.CX P w) P w K mg base N_is_integer "is_integer" (defScope s_is_integer) f cdv A outer s H E) i).A ((fun _ : Unit => cxOf (L2.CX P w) P w K mg base N_is_integer "is_integer" (defScope s_is_integer) f cdv A outer s H E) i).env ((fun _ : Unit => cxOf (L2.CX P w) P w K mg base N_is_integer "is_integer" (defScope s_is_integer) f cdv A outer s H E) i).xe := fun _ => passes_of rfl
    exact (ss_one (sd_ret (ed_and (ed_inst .int c (fun _ => by rfl) T.f_isinstance (fun _ => by rfl) T.f_int (by decide +kernel) (ed_var 0 (fun _ => pv 0))) (ed_one (ed_not (ed_inst .bool c (fun _ => by rfl) T.f_isinstance (fun _ => by rfl) T.f_bool (by decide +kernel) (ed_var 0 (fun _ => pv 0))))))))
abbrev s_is_within : Stmt := top 7
abbrev N_is_within : List Str := ["thing", "least", "most"]
abbrev P_is_within : List Str := ["thing", "least", "most"]
theorem sc_is_within : FnScope N_is_within P_is_within (defScope s_is_within) := ⟨rfl, rfl, rfl, by decide +kernel, rfl, by decide +kernel, by decide +kernel⟩
def b_is_within : SF := (sRet (eAnd (eCall F_is_integer (aCons (eVar 0) aNil) [] []) (eChain lebD lebD (eVar 1) (eVar 0) (eVar 2))))
def F_is_within : List D → Res D := runS [] 3 3 b_is_within
theorem ok_is_within (T : Txt K mg) (h_is_integer_1 : FnD P w K mg base 1 "is_integer" 1 [] F_is_integer) {f : Addr} {fd : FuncData} (F : FunD K "is_within" "is_within" (defArgs s_is_within) (defBody s_is_within) (defScope s_is_within) [] [] f fd) : FnOk P w K mg base (L2.CX P w) 2 f fd P_is_within (spD ⟨K, mg⟩ P_is_within.length F_is_within) :=
  fnok_of (pr := []) F sc_is_within fun cdv A outer s H E hr => by
    have c := cf_of (P := P) (w := w) (K := K) (mg := mg) (base := base) (E := E) (H := H) (outer := outer) sc_is_within hr
    have po : ∀ i : Unit, PassesOwn (model ((fun _ : Unit => cxOf (L2.CX P w) P w K mg base N_is_within "is_within" (defScope s_is_within) f cdv A outer s H E) i).prog ((fun _ : Unit => cxOf (L2.CX P w) P w K mg base N_is_within "is_within" (defScope s_is_within) f cdv A outer s H E) i).w) ((fun _ : Unit => cxOf (L2.CX P w) P w K mg base N_is_within "is_within" (defScope s_is_within) f cdv A outer s H E) i).A ((fun _ : Unit => cxOf (L2.CX P w) P w K mg base N_is_within "is_within" (defScope s_is_within) f cdv A outer s H E) i).env ((fun _ : Unit => cxOf (L2.CX P w) P w K mg base N_is_within "is_within" (defScope s_is_within) f cdv A outer s H E) i).xe := fun _ => passes_of rfl
    exact (ss_one (sd_ret (ed_and (ed_fn c (fun _ => h_is_integer_1) (by decide) (fun _ => by rfl) (am_cons (ed_var 0 (fun _ => pv 0)) am_nil) (al_cons al_nil)) (ed_one (ed_chain (fun _ => op_le) (fun _ => op_le) ops_le ops_le (ed_var 1 (fun _ => pv 1)) (ed_var 0 (fun _ => pv 0)) (ed_var 2 (fun _ => pv 2)))))))
abbrev s_is_many : Stmt := top 9
abbrev N_is_many : List Str := ["thing"]
abbrev P_is_many : List Str := ["thing"]
theorem sc_is_many : FnScope N_is_many P_is_many (defScope s_is_many) := ⟨rfl, rfl, rfl, by decide +kernel, rfl, by decide +kernel, by decide +kernel⟩
def b_is_many : SF := (sRet (eCall F_is_within (aCons (eVar 0) (aCons (eC (.int 1)) (aCons (eC (.int 8)) aNil))) [] []))
def F_is_many : List D → Res D := runS [] 1 1 b_is_many
theorem ok_is_many (T : Txt K mg) (h_is_within_3 : FnD P w K mg base 2 "is_within" 3 [] F_is_within) {f : Addr} {fd : FuncData} (F : FunD K "is_many" "is_many" (defArgs s_is_many) (defBody s_is_many) (defScope s_is_many) [] [] f fd) : FnOk P w K mg base (L2.CX P w) 3 f fd P_is_many (spD ⟨K, mg⟩ P_is_many.length F_is_many) :=
  fnok_of (pr := []) F sc_is_many fun cdv A outer s H E hr => by
    have c := cf_of (P := P) (w := w) (K := K) (mg := mg) (base := base) (E := E) (H := H) (outer := outer) sc_is_many hr
    have po : ∀ i : Unit, PassesOwn (model ((fun _ : Unit => cxOf (L2.CX P w) P w K mg base N_is_many "is_many" (defScope s_is_many) f cdv A outer s H E) i).prog ((fun _ : Unit => cxOf (L2.CX P w) P w K mg base N_is_many "is_many" (defScope s_is_many) f cdv A outer s H E) i).w) ((fun _ : Unit => cxOf (L2.CX P w) P w K mg base N_is_many "is_many" (defScope s_is_many) f cdv A outer s H E) i).A ((fun _ : Unit => cxOf (L2.CX P w) P w K mg base N_is_many "is_many" (defScope s_is_many) f cdv A outer s H E) i).env ((fun _ : Unit => cxOf (L2.CX P w) P w K mg base N_is_many "is_many" (defScope s_is_many) f cdv A outer s H E) i).xe := fun _ => passes_of rfl
    exact (ss_one (sd_ret (ed_fn c (fun _ => h_is_within_3) (by decide) (fun _ => by rfl) (am_cons (ed_var 0 (fun _ => pv 0)) (am_cons ed_int (am_cons (ed_gint c T.i_MOST_MEMBERS (fun _ => by rfl)) am_nil))) (al_cons (al_cons (al_cons al_nil))))))
abbrev s_size_of : Stmt := top 13
abbrev N_size_of : List Str := ["club", "found", "sorts"]
abbrev P_size_of : List Str := ["club"]
theorem sc_size_of : FnScope N_size_of P_size_of (defScope s_size_of) := ⟨rfl, rfl, rfl, by decide +kernel, rfl, by decide +kernel, by decide +kernel⟩
def b_size_of : SF := (sSeq (sAsg (eC (.int 1)) (gSet 1))
  (sSeq (sFor (iSeq (eVar 0)) (gSet 2) (sAug 1 mulI (eVar 2)))
  (sRet (eVar 1))))
def F_size_of : List D → Res D := runS [] 1 3 b_size_of
theorem ok_size_of (T : Txt K mg)  {f : Addr} {fd : FuncData} (F : FunD K "size_of" "size_of" (defArgs s_size_of) (defBody s_size_of) (defScope s_size_of) [] [] f fd) : FnOk P w K mg base (L2.CX P w) 1 f fd P_size_of (spD ⟨K, mg⟩ P_size_of.length F_size_of) :=
  fnok_of (pr := []) F sc_size_of fun cdv A outer s H E hr => by
    have c := cf_of (P := P) (w := w) (K := K) (mg := mg) (base := base) (E := E) (H := H) (outer := outer) sc_size_of hr
    have po : ∀ i : Unit, PassesOwn (model ((fun _ : Unit => cxOf (L2.CX P w) P w K mg base N_size_of "size_of" (defScope s_size_of) f cdv A outer s H E) i).prog ((fun _ : Unit => cxOf (L2.CX P w) P w K mg base N_size_of "size_of" (defScope s_size_of) f cdv A outer s H E) i).w) ((fun _ : Unit => cxOf (L2.CX P w) P w K mg base N_size_of "size_of" (defScope s_size_of) f cdv A outer s H E) i).A ((fun _ : Unit => cxOf (L2.CX P w) P w K mg base N_size_of "size_of" (defScope s_size_of) f cdv A outer s H E) i).env ((fun _ : Unit => cxOf (L2.CX P w) P w K mg base N_size_of "size_of" (defScope s_size_of) f cdv A outer s H E) i).xe := fun _ => passes_of rfl
    exact (ss_cons (sd_asg (fun i te tg he hg => ps_asg he hg) ed_int (gd_name (i := 1) (fun j => pg_name (c.nd j) rfl (by first | exact Or.inl rfl | exact Or.inr rfl))))
  (ss_cons (sd_for po c.calm (id_seq c (ed_var 0 (fun _ => pv 0))) (gd_name (i := 2) (fun j => pg_name (c.nd j) rfl (by first | exact Or.inl rfl | exact Or.inr rfl))) (ss_one (sd_augM c.nd (fun _ => rfl) (fun _ => by first | exact Or.inl rfl | exact Or.inr rfl) (fun _ => by first | exact Or.inl rfl | exact Or.inr rfl) (by decide) (ed_var 2 (fun _ => pv 2)))))
  (ss_one (sd_ret (ed_var 1 (fun _ => pv 1))))))
abbrev s_is_club : Stmt := top 14
abbrev N_is_club : List Str := ["thing", "sorts"]
abbrev P_is_club : List Str := ["thing"]
theorem sc_is_club : FnScope N_is_club P_is_club (defScope s_is_club) := ⟨rfl, rfl, rfl, by decide +kernel, rfl, by decide +kernel, by decide +kernel⟩
def b_is_club : SF := (sSeq (sIf (mOr (mNot (eB (eInst .tuple (eVar 0)))) (mNot (eB (eCall F_is_many (aCons (eBi lenD (aCons (eVar 0) aNil)) aNil) [] [])))) (sRet (eC (.bl false))) sNext)
  (sRet (eAnd (eBi allD (aCons (eLcL 2 (iSeq (eVar 0)) (gSet 1) mYes (eFrz (eCall F_is_within (aCons (eVar 1) (aCons (eC (.int 1)) (aCons (eC (.int 4)) aNil))) [] [])) [1]) aNil)) (e2 lebD (eCall F_size_of (aCons (eVar 0) aNil) [] []) (eC (.int 256))))))
def F_is_club : List D → Res D := runS [] 1 2 b_is_club
theorem ok_is_club (T : Txt K mg) (h_is_many_1 : FnD P w K mg base 3 "is_many" 1 [] F_is_many) (h_size_of_1 : FnD P w K mg base 1 "size_of" 1 [] F_size_of) (h_is_within_3 : FnD P w K mg base 2 "is_within" 3 [] F_is_within) {f : Addr} {fd : FuncData} (F : FunD K "is_club" "is_club" (defArgs s_is_club) (defBody s_is_club) (defScope s_is_club) [] [] f fd) : FnOk P w K mg base (L2.CX P w) 4 f fd P_is_club (spD ⟨K, mg⟩ P_is_club.length F_is_club) :=
  fnok_of (pr := []) F sc_is_club fun cdv A outer s H E hr => by
    have c := cf_of (P := P) (w := w) (K := K) (mg := mg) (base := base) (E := E) (H := H) (outer := outer) sc_is_club hr
    have po : ∀ i : Unit, PassesOwn (model ((fun _ : Unit => cxOf (L2.CX P w) P w K mg base N_is_club "is_club" (defScope s_is_club) f cdv A outer s H E) i).prog ((fun _ : Unit => cxOf (L2.CX P w) P w K mg base N_is_club "is_club" (defScope s_is_club) f cdv A outer s H E) i).w) ((fun _ : Unit => cxOf (L2.CX P w) P w K mg base N_is_club "is_club" (defScope s_is_club) f cdv A outer s H E) i).A ((fun _ : Unit => cxOf (L2.CX P w) P w K mg base N_is_club "is_club" (defScope s_is_club) f cdv A outer s H E) i).env ((fun _ : Unit => cxOf (L2.CX P w) P w K mg base N_is_club "is_club" (defScope s_is_club) f cdv A outer s H E) i).xe := fun _ => passes_of rfl
    exact (ss_cons (sd_if (td_of (wd_or (td_not (td_val (ed_inst .tuple c (fun _ => by rfl) T.f_isinstance (fun _ => by rfl) T.f_tuple (by decide +kernel) (ed_var 0 (fun _ => pv 0))))) (wd_or1 (td_not (td_val (ed_fn c (fun _ => h_is_many_1) (by decide) (fun _ => by rfl) (am_cons (ed_len c (fun _ => by rfl) T.f_len (am_cons (ed_var 0 (fun _ => pv 0)) am_nil)) am_nil) (al_cons al_nil))))))) (ss_one (sd_ret ed_bl)) ss_nil)
  (ss_one (sd_ret (ed_and (ed_all c (fun _ => by rfl) T.f_all (am_cons (ed_lc (own := [("sorts", 1)]) 2 c.calm c.nd (id_seq c (ed_var 0 (fun _ => pv 0))) (fun _ => blkOk_by (by kernel_rfl)) (gd_name (i := 1) (fun j => pg_name ((c.blk _).nd j) rfl (by first | exact Or.inl rfl | exact Or.inr rfl))) ld_nil (ed_frz (ed_fn (c.blk _) (fun _ => h_is_within_3) (by decide) (fun _ => by rfl) (am_cons (ed_var 1 (fun _ => pv 1)) (am_cons ed_int (am_cons (ed_gint (c.blk _) T.i_MOST_SORTS (fun _ => by rfl)) am_nil))) (al_cons (al_cons (al_cons al_nil)))))) am_nil)) (ed_one (ed_le c (ed_fn c (fun _ => h_size_of_1) (by decide) (fun _ => by rfl) (am_cons (ed_var 0 (fun _ => pv 0)) am_nil) (al_cons al_nil)) (ed_gint c T.i_MOST_ROWS (fun _ => by rfl))))))))
abbrev s_check_club : Stmt := top 15
abbrev N_check_club : List Str := ["club"]
abbrev P_check_club : List Str := ["club"]
theorem sc_check_club : FnScope N_check_club P_check_club (defScope s_check_club) := ⟨rfl, rfl, rfl, by decide +kernel, rfl, by decide +kernel, by decide +kernel⟩
def b_check_club : SF := (sIf (mNot (eB (eCall F_is_club (aCons (eVar 0) aNil) [] []))) (sRaise "NoClub") sNext)
def F_check_club : List D → Res D := runS [] 1 1 b_check_club
theorem ok_check_club (T : Txt K mg) (h_is_club_1 : FnD P w K mg base 4 "is_club" 1 [] F_is_club) {f : Addr} {fd : FuncData} (F : FunD K "check_club" "check_club" (defArgs s_check_club) (defBody s_check_club) (defScope s_check_club) [] [] f fd) : FnOk P w K mg base (L2.CX P w) 5 f fd P_check_club (spD ⟨K, mg⟩ P_check_club.length F_check_club) :=
  fnok_of (pr := []) F sc_check_club fun cdv A outer s H E hr => by
    have c := cf_of (P := P) (w := w) (K := K) (mg := mg) (base := base) (E := E) (H := H) (outer := outer) sc_check_club hr
    have po : ∀ i : Unit, PassesOwn (model ((fun _ : Unit => cxOf (L2.CX P w) P w K mg base N_check_club "check_club" (defScope s_check_club) f cdv A outer s H E) i).prog ((fun _ : Unit => cxOf (L2.CX P w) P w K mg base N_check_club "check_club" (defScope s_check_club) f cdv A outer s H E) i).w) ((fun _ : Unit => cxOf (L2.CX P w) P w K mg base N_check_club "check_club" (defScope s_check_club) f cdv A outer s H E) i).A ((fun _ : Unit => cxOf (L2.CX P w) P w K mg base N_check_club "check_club" (defScope s_check_club) f cdv A outer s H E) i).env ((fun _ : Unit => cxOf (L2.CX P w) P w K mg base N_check_club "check_club" (defScope s_check_club) f cdv A outer s H E) i).xe := fun _ => passes_of rfl
    exact (ss_one (sd_if (td_not (td_val (ed_fn c (fun _ => h_is_club_1) (by decide) (fun _ => by rfl) (am_cons (ed_var 0 (fun _ => pv 0)) am_nil) (al_cons al_nil)))) (ss_one (sd_raise0 c T.x_NoClub (fun _ => by rfl))) ss_nil))
abbrev s_check_three : Stmt := top 23
abbrev N_check_three : List Str := ["club"]
abbrev P_check_three : List Str := ["club"]
theorem sc_check_three : FnScope N_check_three P_check_three (defScope s_check_three) := ⟨rfl, rfl, rfl, by decide +kernel, rfl, by decide +kernel, by decide +kernel⟩
def b_check_three : SF := (sSeq (sDrop (eCall F_check_club (aCons (eVar 0) aNil) [] []))
  (sIf (eB (e2 neD (eBi lenD (aCons (eVar 0) aNil)) (eC (.int 3)))) (sRaise "NoClub") sNext))
def F_check_three : List D → Res D := runS [] 1 1 b_check_three
theorem ok_check_three (T : Txt K mg) (h_check_club_1 : FnD P w K mg base 5 "check_club" 1 [] F_check_club) {f : Addr} {fd : FuncData} (F : FunD K "check_three" "check_three" (defArgs s_check_three) (defBody s_check_three) (defScope s_check_three) [] [] f fd) : FnOk P w K mg base (L2.CX P w) 6 f fd P_check_three (spD ⟨K, mg⟩ P_check_three.length F_check_three) :=
  fnok_of (pr := []) F sc_check_three fun cdv A outer s H E hr => by
    have c := cf_of (P := P) (w := w) (K := K) (mg := mg) (base := base) (E := E) (H := H) (outer := outer) sc_check_three hr
    have po : ∀ i : Unit, PassesOwn (model ((fun _ : Unit => cxOf (L2.CX P w) P w K mg base N_check_three "check_three" (defScope s_check_three) f cdv A outer s H E) i).prog ((fun _ : Unit => cxOf (L2.CX P w) P w K mg base N_check_three "check_three" (defScope s_check_three) f cdv A outer s H E) i).w) ((fun _ : Unit => cxOf (L2.CX P w) P w K mg base N_check_three "check_three" (defScope s_check_three) f cdv A outer s H E) i).A ((fun _ : Unit => cxOf (L2.CX P w) P w K mg base N_check_three "check_three" (defScope s_check_three) f cdv A outer s H E) i).env ((fun _ : Unit => cxOf (L2.CX P w) P w K mg base N_check_three "check_three" (defScope s_check_three) f cdv A outer s H E) i).xe := fun _ => passes_of rfl
    exact (ss_cons (sd_expr (ed_fn c (fun _ => h_check_club_1) (by decide) (fun _ => by rfl) (am_cons (ed_var 0 (fun _ => pv 0)) am_nil) (al_cons al_nil)))
  (ss_one (sd_if (td_ne c (ed_len c (fun _ => by rfl) T.f_len (am_cons (ed_var 0 (fun _ => pv 0)) am_nil)) (ed_gint c T.i_CHAIRED (fun _ => by rfl))) (ss_one (sd_raise0 c T.x_NoClub (fun _ => by rfl))) ss_nil)))
abbrev s_is_table : Stmt := top 8
abbrev N_is_table : List Str := ["thing", "size"]
abbrev P_is_table : List Str := ["thing", "size"]
theorem sc_is_table : FnScope N_is_table P_is_table (defScope s_is_table) := ⟨rfl, rfl, rfl, by decide +kernel, rfl, by decide +kernel, by decide +kernel⟩
def b_is_table : SF := (sRet (eAnd (eInst .tuple (eVar 0)) (e2 eqD (eBi lenD (aCons (eVar 0) aNil)) (eVar 1))))
def F_is_table : List D → Res D := runS [] 2 2 b_is_table
theorem ok_is_table (T : Txt K mg)  {f : Addr} {fd : FuncData} (F : FunD K "is_table" "is_table" (defArgs s_is_table) (defBody s_is_table) (defScope s_is_table) [] [] f fd) : FnOk P w K mg base (L2.CX P w) 1 f fd P_is_table (spD ⟨K, mg⟩ P_is_table.length F_is_table) :=
  fnok_of (pr := []) F sc_is_table fun cdv A outer s H E hr => by
    have c := cf_of (P := P) (w := w) (K := K) (mg := mg) (base := base) (E := E) (H := H) (outer := outer) sc_is_table hr
    have po : ∀ i : Unit, PassesOwn (model ((fun _ : Unit => cxOf (L2.CX P w) P w K mg base N_is_table "is_table" (defScope s_is_table) f cdv A outer s H E) i).prog ((fun _ : Unit => cxOf (L2.CX P w) P w K mg base N_is_table "is_table" (defScope s_is_table) f cdv A outer s H E) i).w) ((fun _ : Unit => cxOf (L2.CX P w) P w K mg base N_is_table "is_table" (defScope s_is_table) f cdv A outer s H E) i).A ((fun _ : Unit => cxOf (L2.CX P w) P w K mg base N_is_table "is_table" (defScope s_is_table) f cdv A outer s H E) i).env ((fun _ : Unit => cxOf (L2.CX P w) P w K mg base N_is_table "is_table" (defScope s_is_table) f cdv A outer s H E) i).xe := fun _ => passes_of rfl
    exact (ss_one (sd_ret (ed_and (ed_inst .tuple c (fun _ => by rfl) T.f_isinstance (fun _ => by rfl) T.f_tuple (by decide +kernel) (ed_var 0 (fun _ => pv 0))) (ed_one (ed_eq c (ed_len c (fun _ => by rfl) T.f_len (am_cons (ed_var 0 (fun _ => pv 0)) am_nil)) (ed_var 1 (fun _ => pv 1)))))))
abbrev s_check_picks : Stmt := top 20
abbrev N_check_picks : List Str := ["club", "picks", "member"]
abbrev P_check_picks : List Str := ["club", "picks"]
theorem sc_check_picks : FnScope N_check_picks P_check_picks (defScope s_check_picks) := ⟨rfl, rfl, rfl, by decide +kernel, rfl, by decide +kernel, by decide +kernel⟩
def b_check_picks : SF := (sIf (mOr (mNot (eB (eCall F_is_table (aCons (eVar 1) (aCons (eFrz (eCall F_size_of (aCons (eVar 0) aNil) [] [])) aNil)) [] []))) (mNot (eB (eBi allD (aCons (eLcL 3 (iSeq (eVar 1)) (gSet 2) mYes (eFrz (eCall F_is_within (aCons (eVar 2) (aCons (eC (.int 0)) (aCons (e2 subD (eBi lenD (aCons (eVar 0) aNil)) (eC (.int 1))) aNil))) [] [])) [2]) aNil))))) (sRaise "NoPicks") sNext)
def F_check_picks : List D → Res D := runS [] 2 3 b_check_picks
theorem ok_check_picks (T : Txt K mg) (h_is_within_3 : FnD P w K mg base 2 "is_within" 3 [] F_is_within) (h_is_table_2 : FnD P w K mg base 1 "is_table" 2 [] F_is_table) (h_size_of_1 : FnD P w K mg base 1 "size_of" 1 [] F_size_of) {f : Addr} {fd : FuncData} (F : FunD K "check_picks" "check_picks" (defArgs s_check_picks) (defBody s_check_picks) (defScope s_check_picks) [] [] f fd) : FnOk P w K mg base (L2.CX P w) 3 f fd P_check_picks (spD ⟨K, mg⟩ P_check_picks.length F_check_picks) :=
  fnok_of (pr := []) F sc_check_picks fun cdv A outer s H E hr => by
    have c := cf_of (P := P) (w := w) (K := K) (mg := mg) (base := base) (E := E) (H := H) (outer := outer) sc_check_picks hr
    have po : ∀ i : Unit, PassesOwn (model ((fun _ : Unit => cxOf (L2.CX P w) P w K mg base N_check_picks "check_picks" (defScope s_check_picks) f cdv A outer s H E) i).prog ((fun _ : Unit => cxOf (L2.CX P w) P w K mg base N_check_picks "check_picks" (defScope s_check_picks) f cdv A outer s H E) i).w) ((fun _ : Unit => cxOf (L2.CX P w) P w K mg base N_check_picks "check_picks" (defScope s_check_picks) f cdv A outer s H E) i).A ((fun _ : Unit => cxOf (L2.CX P w) P w K mg base N_check_picks "check_picks" (defScope s_check_picks) f cdv A outer s H E) i).env ((fun _ : Unit => cxOf (L2.CX P w) P w K mg base N_check_picks "check_picks" (defScope s_check_picks) f cdv A outer s H E) i).xe := fun _ => passes_of rfl
    exact (ss_one (sd_if (td_of (wd_or (td_not (td_val (ed_fn c (fun _ => h_is_table_2) (by decide) (fun _ => by rfl) (am_cons (ed_var 1 (fun _ => pv 1)) (am_cons (ed_frz (ed_fn c (fun _ => h_size_of_1) (by decide) (fun _ => by rfl) (am_cons (ed_var 0 (fun _ => pv 0)) am_nil) (al_cons al_nil))) am_nil)) (al_cons (al_cons al_nil))))) (wd_or1 (td_not (td_val (ed_all c (fun _ => by rfl) T.f_all (am_cons (ed_lc (own := [("member", 2)]) 3 c.calm c.nd (id_seq c (ed_var 1 (fun _ => pv 1))) (fun _ => blkOk_by (by kernel_rfl)) (gd_name (i := 2) (fun j => pg_name ((c.blk _).nd j) rfl (by first | exact Or.inl rfl | exact Or.inr rfl))) ld_nil (ed_frz (ed_fn (c.blk _) (fun _ => h_is_within_3) (by decide) (fun _ => by rfl) (am_cons (ed_var 2 (fun _ => pv 2)) (am_cons ed_int (am_cons (ed_sub (c.blk _) (ed_len (c.blk _) (fun _ => by rfl) T.f_len (am_cons (ed_var 0 (fun _ => pv 0)) am_nil)) ed_int) am_nil))) (al_cons (al_cons (al_cons al_nil)))))) am_nil))))))) (ss_one (sd_raise0 c T.x_NoPicks (fun _ => by rfl))) ss_nil))
abbrev s_slips_of : Stmt := top 16
abbrev N_slips_of : List Str := ["club", "number", "found", "sorts"]
abbrev P_slips_of : List Str := ["club", "number"]
theorem sc_slips_of : FnScope N_slips_of P_slips_of (defScope s_slips_of) := ⟨rfl, rfl, rfl, by decide +kernel, rfl, by decide +kernel, by decide +kernel⟩
def b_slips_of : SF := (sSeq (sAsg (eLst aNil) (gSet 2))
  (sSeq (sFor (iRevD (eVar 0)) (gSet 3) (sSeq (sDrop (eApp 2 (e2 modD (eVar 1) (eVar 3))))
  (sAsg (e2 fdivD (eVar 1) (eVar 3)) (gSet 1))))
  (sFrz 2 (sRet (eTupRev (eVar 2))))))
def F_slips_of : List D → Res D := runS [] 2 4 b_slips_of
theorem ok_slips_of (T : Txt K mg)  {f : Addr} {fd : FuncData} (F : FunD K "slips_of" "slips_of" (defArgs s_slips_of) (defBody s_slips_of) (defScope s_slips_of) [] [] f fd) : FnOk P w K mg base (L2.CX P w) 1 f fd P_slips_of (spD ⟨K, mg⟩ P_slips_of.length F_slips_of) :=
  fnok_of (pr := []) F sc_slips_of fun cdv A outer s H E hr => by
    have c := cf_of (P := P) (w := w) (K := K) (mg := mg) (base := base) (E := E) (H := H) (outer := outer) sc_slips_of hr
    have po : ∀ i : Unit, PassesOwn (model ((fun _ : Unit => cxOf (L2.CX P w) P w K mg base N_slips_of "slips_of" (defScope s_slips_of) f cdv A outer s H E) i).prog ((fun _ : Unit => cxOf (L2.CX P w) P w K mg base N_slips_of "slips_of" (defScope s_slips_of) f cdv A outer s H E) i).w) ((fun _ : Unit => cxOf (L2.CX P w) P w K mg base N_slips_of "slips_of" (defScope s_slips_of) f cdv A outer s H E) i).A ((fun _ : Unit => cxOf (L2.CX P w) P w K mg base N_slips_of "slips_of" (defScope s_slips_of) f cdv A outer s H E) i).env ((fun _ : Unit => cxOf (L2.CX P w) P w K mg base N_slips_of "slips_of" (defScope s_slips_of) f cdv A outer s H E) i).xe := fun _ => passes_of rfl
    exact (ss_cons (sd_asg (fun i te tg he hg => ps_asg he hg) (ed_lst am_nil) (gd_name (i := 2) (fun j => pg_name (c.nd j) rfl (by first | exact Or.inl rfl | exact Or.inr rfl))))
  (ss_cons (sd_for po c.calm (id_rev c (fun _ => by rfl) T.f_reversed (ed_var 0 (fun _ => pv 0))) (gd_name (i := 3) (fun j => pg_name (c.nd j) rfl (by first | exact Or.inl rfl | exact Or.inr rfl))) (ss_cons (sd_expr (ed_app 2 (fun _ => pv 2) (ed_mod c (ed_var 1 (fun _ => pv 1)) (ed_var 3 (fun _ => pv 3))) c))
  (ss_one (sd_asg (fun i te tg he hg => ps_asg he hg) (ed_fdiv c (ed_var 1 (fun _ => pv 1)) (ed_var 3 (fun _ => pv 3))) (gd_name (i := 1) (fun j => pg_name (c.nd j) rfl (by first | exact Or.inl rfl | exact Or.inr rfl)))))))
  (ss_frz (i := 2) (ss_one (sd_ret (ed_tupRev c (fun _ => by rfl) T.f_tuple (fun _ => by rfl) T.f_reversed (ed_var 2 (fun _ => pv 2))))))))
abbrev s_named_by : Stmt := top 24
abbrev N_named_by : List Str := ["club", "picks", "member", "found", "row", "picked", "slip"]
abbrev P_named_by : List Str := ["club", "picks", "member"]
theorem sc_named_by : FnScope N_named_by P_named_by (defScope s_named_by) := ⟨rfl, rfl, rfl, by decide +kernel, rfl, by decide +kernel, by decide +kernel⟩
def b_named_by : SF := (sSeq (sAsg (e2 mulD (eLst (aCons (eC .non) aNil)) (e2 ixD (eVar 0) (eVar 2))) (gSet 3))
  (sSeq (sFor (iEnuA (aCons (eVar 1) aNil)) (gTupD 2 (gsCons (gSet 4) (gsCons (gSet 5) gsNil))) (sSeq (sAsg (eFrz (e2 ixD (eCall F_slips_of (aCons (eVar 0) (aCons (eVar 4) aNil)) [] []) (eVar 2))) (gSet 6))
  (sSeq (sIf (tBor (eB (eIsN (e2 ixD (eVar 3) (eVar 6))))) (sAsg (eFrz (eVar 5)) (gItem 3 (eVar 6))) sNext)
  (sIf (tBor (eB (e2 neD (e2 ixD (eVar 3) (eVar 6)) (eVar 5)))) (sRet (eC .non)) sNext))))
  (sFrz 3 (sRet (eBi tupleD (aCons (eVar 3) aNil))))))
def F_named_by : List D → Res D := runS [] 3 7 b_named_by
theorem ok_named_by (T : Txt K mg) (h_slips_of_2 : FnD P w K mg base 1 "slips_of" 2 [] F_slips_of) {f : Addr} {fd : FuncData} (F : FunD K "named_by" "named_by" (defArgs s_named_by) (defBody s_named_by) (defScope s_named_by) [] [] f fd) : FnOk P w K mg base (L2.CX P w) 2 f fd P_named_by (spD ⟨K, mg⟩ P_named_by.length F_named_by) :=
  fnok_of (pr := []) F sc_named_by fun cdv A outer s H E hr => by
    have c := cf_of (P := P) (w := w) (K := K) (mg := mg) (base := base) (E := E) (H := H) (outer := outer) sc_named_by hr
    have po : ∀ i : Unit, PassesOwn (model ((fun _ : Unit => cxOf (L2.CX P w) P w K mg base N_named_by "named_by" (defScope s_named_by) f cdv A outer s H E) i).prog ((fun _ : Unit => cxOf (L2.CX P w) P w K mg base N_named_by "named_by" (defScope s_named_by) f cdv A outer s H E) i).w) ((fun _ : Unit => cxOf (L2.CX P w) P w K mg base N_named_by "named_by" (defScope s_named_by) f cdv A outer s H E) i).A ((fun _ : Unit => cxOf (L2.CX P w) P w K mg base N_named_by "named_by" (defScope s_named_by) f cdv A outer s H E) i).env ((fun _ : Unit => cxOf (L2.CX P w) P w K mg base N_named_by "named_by" (defScope s_named_by) f cdv A outer s H E) i).xe := fun _ => passes_of rfl
    exact (ss_cons (sd_asg (fun i te tg he hg => ps_asg he hg) (ed_mul c (ed_lst (am_cons ed_non am_nil)) (ed_ix c (ed_var 0 (fun _ => pv 0)) (ed_var 2 (fun _ => pv 2)))) (gd_name (i := 3) (fun j => pg_name (c.nd j) rfl (by first | exact Or.inl rfl | exact Or.inr rfl))))
  (ss_cons (sd_for po c.calm (id_enuA c (fun _ => by rfl) T.f_enumerate (am_cons (ed_var 1 (fun _ => pv 1)) am_nil)) (gd_tup (n := 2) (t := gNil) (fun i t h => by rw [← c.kk i]; exact pg_tup (c.calm i) h) (gds_cons (gd_name (i := 4) (fun j => pg_name (c.nd j) rfl (by first | exact Or.inl rfl | exact Or.inr rfl))) (gds_cons (gd_name (i := 5) (fun j => pg_name (c.nd j) rfl (by first | exact Or.inl rfl | exact Or.inr rfl))) gds_nil))) (ss_cons (sd_asg (fun i te tg he hg => ps_asg he hg) (ed_frz (ed_ix c (ed_fn c (fun _ => h_slips_of_2) (by decide) (fun _ => by rfl) (am_cons (ed_var 0 (fun _ => pv 0)) (am_cons (ed_var 4 (fun _ => pv 4)) am_nil)) (al_cons (al_cons al_nil))) (ed_var 2 (fun _ => pv 2)))) (gd_name (i := 6) (fun j => pg_name (c.nd j) rfl (by first | exact Or.inl rfl | exact Or.inr rfl))))
  (ss_cons (sd_if (td_bor (td_isN (ed_ix c (ed_var 3 (fun _ => pv 3)) (ed_var 6 (fun _ => pv 6))))) (ss_one (sd_asg (fun i te tg he hg => ps_asg he hg) (ed_frz (ed_var 5 (fun _ => pv 5))) (gd_item 3 c (fun _ => pv 3) (ed_var 6 (fun _ => pv 6))))) ss_nil)
  (ss_one (sd_if (td_bor (td_ne c (ed_ix c (ed_var 3 (fun _ => pv 3)) (ed_var 6 (fun _ => pv 6))) (ed_var 5 (fun _ => pv 5)))) (ss_one (sd_ret ed_non)) ss_nil)))))
  (ss_frz (i := 3) (ss_one (sd_ret (ed_tuple c (fun _ => by rfl) T.f_tuple (am_cons (ed_var 3 (fun _ => pv 3)) am_nil)))))))
abbrev s_chair : Stmt := top 25
abbrev N_chair : List Str := ["club", "picks", "member", "named"]
abbrev P_chair : List Str := ["club", "picks"]
theorem sc_chair : FnScope N_chair P_chair (defScope s_chair) := ⟨rfl, rfl, rfl, by decide +kernel, rfl, by decide +kernel, by decide +kernel⟩
def b_chair : SF := (sSeq (sDrop (eCall F_check_three (aCons (eVar 0) aNil) [] []))
  (sSeq (sDrop (eCall F_check_picks (aCons (eVar 0) (aCons (eVar 1) aNil)) [] []))
  (sSeq (sIf (eB (e2 eqD (e1 lenSetA (eVar 1)) (eC (.int 1)))) (sRet (eTup (aCons (eC (.str "one")) (aCons (e2 ixD (eVar 1) (eC (.int 0))) aNil)))) sNext)
  (sSeq (sFor (iRg1 (aCons (eC (.int 3)) aNil)) (gSet 2) (sSeq (sAsg (eFrz (eCall F_named_by (aCons (eVar 0) (aCons (eVar 1) (aCons (eVar 2) aNil))) [] [])) (gSet 3))
  (sIf (mAnd (eB (eNotN (eVar 3))) (eB (e2 ninD (eVar 2) (eVar 3)))) (sRet (eTup (aCons (eC (.str "chair")) (aCons (eVar 2) (aCons (eVar 3) aNil))))) sNext)))
  (sRet (eC .non))))))
def F_chair : List D → Res D := runS [] 2 4 b_chair
theorem ok_chair (T : Txt K mg) (h_check_three_1 : FnD P w K mg base 6 "check_three" 1 [] F_check_three) (h_check_picks_2 : FnD P w K mg base 3 "check_picks" 2 [] F_check_picks) (h_named_by_3 : FnD P w K mg base 2 "named_by" 3 [] F_named_by) {f : Addr} {fd : FuncData} (F : FunD K "chair" "chair" (defArgs s_chair) (defBody s_chair) (defScope s_chair) [] [] f fd) : FnOk P w K mg base (L2.CX P w) 7 f fd P_chair (spD ⟨K, mg⟩ P_chair.length F_chair) :=
  fnok_of (pr := []) F sc_chair fun cdv A outer s H E hr => by
    have c := cf_of (P := P) (w := w) (K := K) (mg := mg) (base := base) (E := E) (H := H) (outer := outer) sc_chair hr
    have po : ∀ i : Unit, PassesOwn (model ((fun _ : Unit => cxOf (L2.CX P w) P w K mg base N_chair "chair" (defScope s_chair) f cdv A outer s H E) i).prog ((fun _ : Unit => cxOf (L2.CX P w) P w K mg base N_chair "chair" (defScope s_chair) f cdv A outer s H E) i).w) ((fun _ : Unit => cxOf (L2.CX P w) P w K mg base N_chair "chair" (defScope s_chair) f cdv A outer s H E) i).A ((fun _ : Unit => cxOf (L2.CX P w) P w K mg base N_chair "chair" (defScope s_chair) f cdv A outer s H E) i).env ((fun _ : Unit => cxOf (L2.CX P w) P w K mg base N_chair "chair" (defScope s_chair) f cdv A outer s H E) i).xe := fun _ => passes_of rfl
    exact (ss_cons (sd_expr (ed_fn c (fun _ => h_check_three_1) (by decide) (fun _ => by rfl) (am_cons (ed_var 0 (fun _ => pv 0)) am_nil) (al_cons al_nil)))
  (ss_cons (sd_expr (ed_fn c (fun _ => h_check_picks_2) (by decide) (fun _ => by rfl) (am_cons (ed_var 0 (fun _ => pv 0)) (am_cons (ed_var 1 (fun _ => pv 1)) am_nil)) (al_cons (al_cons al_nil))))
  (ss_cons (sd_if (td_eq c (ed_lenSetA c (fun _ => by rfl) T.f_len (fun _ => by rfl) T.f_set (ed_var 1 (fun _ => pv 1))) ed_int) (ss_one (sd_ret (ed_tup (am_cons ed_str (am_cons (ed_ix c (ed_var 1 (fun _ => pv 1)) ed_int) am_nil))))) ss_nil)
  (ss_cons (sd_for po c.calm (id_rg1 c (fun _ => by rfl) T.f_range (am_cons (ed_gint c T.i_CHAIRED (fun _ => by rfl)) am_nil)) (gd_name (i := 2) (fun j => pg_name (c.nd j) rfl (by first | exact Or.inl rfl | exact Or.inr rfl))) (ss_cons (sd_asg (fun i te tg he hg => ps_asg he hg) (ed_frz (ed_fn c (fun _ => h_named_by_3) (by decide) (fun _ => by rfl) (am_cons (ed_var 0 (fun _ => pv 0)) (am_cons (ed_var 1 (fun _ => pv 1)) (am_cons (ed_var 2 (fun _ => pv 2)) am_nil))) (al_cons (al_cons (al_cons al_nil))))) (gd_name (i := 3) (fun j => pg_name (c.nd j) rfl (by first | exact Or.inl rfl | exact Or.inr rfl))))
  (ss_one (sd_if (td_of (wd_and (td_notN (ed_var 3 (fun _ => pv 3))) (wd_and1 (td_nin c (ed_var 2 (fun _ => pv 2)) (ed_var 3 (fun _ => pv 3)))))) (ss_one (sd_ret (ed_tup (am_cons ed_str (am_cons (ed_var 2 (fun _ => pv 2)) (am_cons (ed_var 3 (fun _ => pv 3)) am_nil)))))) ss_nil))))
  (ss_one (sd_ret ed_non))))))
abbrev s_unlike_in : Stmt := top 17
abbrev N_unlike_in : List Str := ["club", "one", "other", "first", "second", "member"]
abbrev P_unlike_in : List Str := ["club", "one", "other"]
theorem sc_unlike_in : FnScope N_unlike_in P_unlike_in (defScope s_unlike_in) := ⟨rfl, rfl, rfl, by decide +kernel, rfl, by decide +kernel, by decide +kernel⟩
def b_unlike_in : SF := (sSeq (sAsg (eFrz (eCall F_slips_of (aCons (eVar 0) (aCons (eVar 1) aNil)) [] [])) (gSet 3))
  (sSeq (sAsg (eFrz (eCall F_slips_of (aCons (eVar 0) (aCons (eVar 2) aNil)) [] [])) (gSet 4))
  (sRet (eBi tupleD (aCons (eLcL 6 (iRg1 (aCons (eBi lenD (aCons (eVar 0) aNil)) aNil)) (gSet 5) (eB (e2 neD (e2 ixD (eVar 3) (eVar 5)) (e2 ixD (eVar 4) (eVar 5)))) (eFrz (eVar 5)) [5]) aNil)))))
def F_unlike_in : List D → Res D := runS [] 3 6 b_unlike_in
theorem ok_unlike_in (T : Txt K mg) (h_slips_of_2 : FnD P w K mg base 1 "slips_of" 2 [] F_slips_of) {f : Addr} {fd : FuncData} (F : FunD K "unlike_in" "unlike_in" (defArgs s_unlike_in) (defBody s_unlike_in) (defScope s_unlike_in) [] [] f fd) : FnOk P w K mg base (L2.CX P w) 2 f fd P_unlike_in (spD ⟨K, mg⟩ P_unlike_in.length F_unlike_in) :=
  fnok_of (pr := []) F sc_unlike_in fun cdv A outer s H E hr => by
    have c := cf_of (P := P) (w := w) (K := K) (mg := mg) (base := base) (E := E) (H := H) (outer := outer) sc_unlike_in hr
    have po : ∀ i : Unit, PassesOwn (model ((fun _ : Unit => cxOf (L2.CX P w) P w K mg base N_unlike_in "unlike_in" (defScope s_unlike_in) f cdv A outer s H E) i).prog ((fun _ : Unit => cxOf (L2.CX P w) P w K mg base N_unlike_in "unlike_in" (defScope s_unlike_in) f cdv A outer s H E) i).w) ((fun _ : Unit => cxOf (L2.CX P w) P w K mg base N_unlike_in "unlike_in" (defScope s_unlike_in) f cdv A outer s H E) i).A ((fun _ : Unit => cxOf (L2.CX P w) P w K mg base N_unlike_in "unlike_in" (defScope s_unlike_in) f cdv A outer s H E) i).env ((fun _ : Unit => cxOf (L2.CX P w) P w K mg base N_unlike_in "unlike_in" (defScope s_unlike_in) f cdv A outer s H E) i).xe := fun _ => passes_of rfl
    exact (ss_cons (sd_asg (fun i te tg he hg => ps_asg he hg) (ed_frz (ed_fn c (fun _ => h_slips_of_2) (by decide) (fun _ => by rfl) (am_cons (ed_var 0 (fun _ => pv 0)) (am_cons (ed_var 1 (fun _ => pv 1)) am_nil)) (al_cons (al_cons al_nil)))) (gd_name (i := 3) (fun j => pg_name (c.nd j) rfl (by first | exact Or.inl rfl | exact Or.inr rfl))))
  (ss_cons (sd_asg (fun i te tg he hg => ps_asg he hg) (ed_frz (ed_fn c (fun _ => h_slips_of_2) (by decide) (fun _ => by rfl) (am_cons (ed_var 0 (fun _ => pv 0)) (am_cons (ed_var 2 (fun _ => pv 2)) am_nil)) (al_cons (al_cons al_nil)))) (gd_name (i := 4) (fun j => pg_name (c.nd j) rfl (by first | exact Or.inl rfl | exact Or.inr rfl))))
  (ss_one (sd_ret (ed_tuple c (fun _ => by rfl) T.f_tuple (am_cons (ed_lc (own := [("member", 5)]) 6 c.calm c.nd (id_rg1 c (fun _ => by rfl) T.f_range (am_cons (ed_len c (fun _ => by rfl) T.f_len (am_cons (ed_var 0 (fun _ => pv 0)) am_nil)) am_nil)) (fun _ => blkOk_by (by kernel_rfl)) (gd_name (i := 5) (fun j => pg_name ((c.blk _).nd j) rfl (by first | exact Or.inl rfl | exact Or.inr rfl))) (ld_one (td_ne (c.blk _) (ed_ix (c.blk _) (ed_var 3 (fun _ => pv 3)) (ed_var 5 (fun _ => pv 5))) (ed_ix (c.blk _) (ed_var 4 (fun _ => pv 4)) (ed_var 5 (fun _ => pv 5))))) (ed_frz (ed_var 5 (fun _ => pv 5)))) am_nil))))))
abbrev s_is_own : Stmt := top 21
abbrev N_is_own : List Str := ["club", "picks", "row", "other", "lot"]
abbrev P_is_own : List Str := ["club", "picks", "row", "other"]
theorem sc_is_own : FnScope N_is_own P_is_own (defScope s_is_own) := ⟨rfl, rfl, rfl, by decide +kernel, rfl, by decide +kernel, by decide +kernel⟩
def b_is_own : SF := (sSeq (sAsg (eFrz (eCall F_unlike_in (aCons (eVar 0) (aCons (eVar 2) (aCons (eVar 3) aNil))) [] [])) (gSet 4))
  (sRet (eAnd (e2 eqD (eBi lenD (aCons (eVar 4) aNil)) (eC (.int 1))) (e2 neD (e2 eqD (e2 ixD (eVar 1) (eVar 2)) (e2 ixD (eVar 4) (eC (.int 0)))) (e2 eqD (e2 ixD (eVar 1) (eVar 3)) (e2 ixD (eVar 4) (eC (.int 0))))))))
def F_is_own : List D → Res D := runS [] 4 5 b_is_own
theorem ok_is_own (T : Txt K mg) (h_unlike_in_3 : FnD P w K mg base 2 "unlike_in" 3 [] F_unlike_in) {f : Addr} {fd : FuncData} (F : FunD K "is_own" "is_own" (defArgs s_is_own) (defBody s_is_own) (defScope s_is_own) [] [] f fd) : FnOk P w K mg base (L2.CX P w) 3 f fd P_is_own (spD ⟨K, mg⟩ P_is_own.length F_is_own) :=
  fnok_of (pr := []) F sc_is_own fun cdv A outer s H E hr => by
    have c := cf_of (P := P) (w := w) (K := K) (mg := mg) (base := base) (E := E) (H := H) (outer := outer) sc_is_own hr
    have po : ∀ i : Unit, PassesOwn (model ((fun _ : Unit => cxOf (L2.CX P w) P w K mg base N_is_own "is_own" (defScope s_is_own) f cdv A outer s H E) i).prog ((fun _ : Unit => cxOf (L2.CX P w) P w K mg base N_is_own "is_own" (defScope s_is_own) f cdv A outer s H E) i).w) ((fun _ : Unit => cxOf (L2.CX P w) P w K mg base N_is_own "is_own" (defScope s_is_own) f cdv A outer s H E) i).A ((fun _ : Unit => cxOf (L2.CX P w) P w K mg base N_is_own "is_own" (defScope s_is_own) f cdv A outer s H E) i).env ((fun _ : Unit => cxOf (L2.CX P w) P w K mg base N_is_own "is_own" (defScope s_is_own) f cdv A outer s H E) i).xe := fun _ => passes_of rfl
    exact (ss_cons (sd_asg (fun i te tg he hg => ps_asg he hg) (ed_frz (ed_fn c (fun _ => h_unlike_in_3) (by decide) (fun _ => by rfl) (am_cons (ed_var 0 (fun _ => pv 0)) (am_cons (ed_var 2 (fun _ => pv 2)) (am_cons (ed_var 3 (fun _ => pv 3)) am_nil))) (al_cons (al_cons (al_cons al_nil))))) (gd_name (i := 4) (fun j => pg_name (c.nd j) rfl (by first | exact Or.inl rfl | exact Or.inr rfl))))
  (ss_one (sd_ret (ed_and (ed_eq c (ed_len c (fun _ => by rfl) T.f_len (am_cons (ed_var 4 (fun _ => pv 4)) am_nil)) ed_int) (ed_one (ed_ne c (ed_eq c (ed_ix c (ed_var 1 (fun _ => pv 1)) (ed_var 2 (fun _ => pv 2))) (ed_ix c (ed_var 4 (fun _ => pv 4)) ed_int)) (ed_eq c (ed_ix c (ed_var 1 (fun _ => pv 1)) (ed_var 3 (fun _ => pv 3))) (ed_ix c (ed_var 4 (fun _ => pv 4)) ed_int))))))))
abbrev s_first_own : Stmt := top 22
abbrev N_first_own : List Str := ["club", "picks", "row", "other"]
abbrev P_first_own : List Str := ["club", "picks"]
theorem sc_first_own : FnScope N_first_own P_first_own (defScope s_first_own) := ⟨rfl, rfl, rfl, by decide +kernel, rfl, by decide +kernel, by decide +kernel⟩
def b_first_own : SF := (sSeq (sDrop (eCall F_check_club (aCons (eVar 0) aNil) [] []))
  (sSeq (sDrop (eCall F_check_picks (aCons (eVar 0) (aCons (eVar 1) aNil)) [] []))
  (sSeq (sFor (iRg1 (aCons (eBi lenD (aCons (eVar 1) aNil)) aNil)) (gSet 2) (sFor (iRg2 (aCons (e2 addD (eVar 2) (eC (.int 1))) (aCons (eBi lenD (aCons (eVar 1) aNil)) aNil))) (gSet 3) (sIf (mAnd (eB (e2 neD (e2 ixD (eVar 1) (eVar 2)) (e2 ixD (eVar 1) (eVar 3)))) (eB (eCall F_is_own (aCons (eVar 0) (aCons (eVar 1) (aCons (eVar 2) (aCons (eVar 3) aNil)))) [] []))) (sRet (eTup (aCons (eVar 2) (aCons (eVar 3) (aCons (e2 ixD (eCall F_unlike_in (aCons (eVar 0) (aCons (eVar 2) (aCons (eVar 3) aNil))) [] []) (eC (.int 0))) aNil))))) sNext)))
  (sRet (eC .non)))))
def F_first_own : List D → Res D := runS [] 2 4 b_first_own
theorem ok_first_own (T : Txt K mg) (h_check_club_1 : FnD P w K mg base 5 "check_club" 1 [] F_check_club) (h_check_picks_2 : FnD P w K mg base 3 "check_picks" 2 [] F_check_picks) (h_is_own_4 : FnD P w K mg base 3 "is_own" 4 [] F_is_own) (h_unlike_in_3 : FnD P w K mg base 2 "unlike_in" 3 [] F_unlike_in) {f : Addr} {fd : FuncData} (F : FunD K "first_own" "first_own" (defArgs s_first_own) (defBody s_first_own) (defScope s_first_own) [] [] f fd) : FnOk P w K mg base (L2.CX P w) 6 f fd P_first_own (spD ⟨K, mg⟩ P_first_own.length F_first_own) :=
  fnok_of (pr := []) F sc_first_own fun cdv A outer s H E hr => by
    have c := cf_of (P := P) (w := w) (K := K) (mg := mg) (base := base) (E := E) (H := H) (outer := outer) sc_first_own hr
    have po : ∀ i : Unit, PassesOwn (model ((fun _ : Unit => cxOf (L2.CX P w) P w K mg base N_first_own "first_own" (defScope s_first_own) f cdv A outer s H E) i).prog ((fun _ : Unit => cxOf (L2.CX P w) P w K mg base N_first_own "first_own" (defScope s_first_own) f cdv A outer s H E) i).w) ((fun _ : Unit => cxOf (L2.CX P w) P w K mg base N_first_own "first_own" (defScope s_first_own) f cdv A outer s H E) i).A ((fun _ : Unit => cxOf (L2.CX P w) P w K mg base N_first_own "first_own" (defScope s_first_own) f cdv A outer s H E) i).env ((fun _ : Unit => cxOf (L2.CX P w) P w K mg base N_first_own "first_own" (defScope s_first_own) f cdv A outer s H E) i).xe := fun _ => passes_of rfl
    exact (ss_cons (sd_expr (ed_fn c (fun _ => h_check_club_1) (by decide) (fun _ => by rfl) (am_cons (ed_var 0 (fun _ => pv 0)) am_nil) (al_cons al_nil)))
  (ss_cons (sd_expr (ed_fn c (fun _ => h_check_picks_2) (by decide) (fun _ => by rfl) (am_cons (ed_var 0 (fun _ => pv 0)) (am_cons (ed_var 1 (fun _ => pv 1)) am_nil)) (al_cons (al_cons al_nil))))
  (ss_cons (sd_for po c.calm (id_rg1 c (fun _ => by rfl) T.f_range (am_cons (ed_len c (fun _ => by rfl) T.f_len (am_cons (ed_var 1 (fun _ => pv 1)) am_nil)) am_nil)) (gd_name (i := 2) (fun j => pg_name (c.nd j) rfl (by first | exact Or.inl rfl | exact Or.inr rfl))) (ss_one (sd_for po c.calm (id_rg2 c (fun _ => by rfl) T.f_range (am_cons (ed_add c (ed_var 2 (fun _ => pv 2)) ed_int) (am_cons (ed_len c (fun _ => by rfl) T.f_len (am_cons (ed_var 1 (fun _ => pv 1)) am_nil)) am_nil))) (gd_name (i := 3) (fun j => pg_name (c.nd j) rfl (by first | exact Or.inl rfl | exact Or.inr rfl))) (ss_one (sd_if (td_of (wd_and (td_ne c (ed_ix c (ed_var 1 (fun _ => pv 1)) (ed_var 2 (fun _ => pv 2))) (ed_ix c (ed_var 1 (fun _ => pv 1)) (ed_var 3 (fun _ => pv 3)))) (wd_and1 (td_val (ed_fn c (fun _ => h_is_own_4) (by decide) (fun _ => by rfl) (am_cons (ed_var 0 (fun _ => pv 0)) (am_cons (ed_var 1 (fun _ => pv 1)) (am_cons (ed_var 2 (fun _ => pv 2)) (am_cons (ed_var 3 (fun _ => pv 3)) am_nil)))) (al_cons (al_cons (al_cons (al_cons al_nil))))))))) (ss_one (sd_ret (ed_tup (am_cons (ed_var 2 (fun _ => pv 2)) (am_cons (ed_var 3 (fun _ => pv 3)) (am_cons (ed_ix c (ed_fn c (fun _ => h_unlike_in_3) (by decide) (fun _ => by rfl) (am_cons (ed_var 0 (fun _ => pv 0)) (am_cons (ed_var 2 (fun _ => pv 2)) (am_cons (ed_var 3 (fun _ => pv 3)) am_nil))) (al_cons (al_cons (al_cons al_nil)))) ed_int) am_nil)))))) ss_nil)))))
  (ss_one (sd_ret ed_non)))))
abbrev s_law_chair : Stmt := top 38
abbrev N_law_chair : List Str := ["_law_club_here", "_law_picks_here", "_law_rows_here", "_law_member", "_law_named", "_law_row", "_law_picked", "_law_slip"]
abbrev P_law_chair : List Str := ["_law_club_here", "_law_picks_here"]
theorem sc_law_chair : FnScope N_law_chair P_law_chair (defScope s_law_chair) := ⟨rfl, rfl, rfl, by decide +kernel, rfl, by decide +kernel, by decide +kernel⟩
def b_law_chair : SF := (sSeq (sIf (eB (e2 eqD (e1 lenSetA (eVar 1)) (eC (.int 1)))) (sRet (eTup (aCons (eC (.str "one")) (aCons (e2 ixD (eVar 1) (eC (.int 0))) aNil)))) sNext)
  (sSeq (sAsg (eFrz (eCall F_law_rows (aCons (eVar 0) aNil) [] [])) (gSet 2))
  (sSeq (sFor (iRg1 (aCons (eC (.int 3)) aNil)) (gSet 3) (sSeq (sAsg (eLcL 8 (iRg1 (aCons (e2 ixD (eVar 0) (eVar 3)) aNil)) (gSet 7) mYes (eC .non) [7]) (gSet 4))
  (sSeq (sFor (iZipMD (aCons (eVar 2) (aCons (eVar 1) aNil))) (gTupD 2 (gsCons (gSet 5) (gsCons (gSet 6) gsNil))) (sSeq (sAsg (eFrz (e2 ixD (eVar 5) (eVar 3))) (gSet 7))
  (sAsg (eFrz (eIf (tBor (eB (e2 inD (e2 ixD (eVar 4) (eVar 7)) (eLst (aCons (eC .non) (aCons (eVar 6) aNil)))))) (eVar 6) (e1 negD (eC (.int 1))))) (gItem 4 (eVar 7)))))
  (sIf (tBor (mAnd (eB (e2 ninD (eVar 3) (eVar 4))) (mAnd (eB (e2 ninD (e1 negD (eC (.int 1))) (eVar 4))) (eB (e2 eqD (e1 lenSetA (eVar 4)) (eC (.int 2))))))) (sRet (eTup (aCons (eC (.str "chair")) (aCons (eVar 3) (aCons (eBi tupleD (aCons (eMove 4) aNil)) aNil))))) sNext))))
  (sRet (eC .non)))))
def F_law_chair : List D → Res D := runS [] 2 8 b_law_chair
theorem ok_law_chair (T : Txt K mg) (h_law_rows_1 : FnD P w K mg base 1 "_law_rows" 1 [] F_law_rows) {f : Addr} {fd : FuncData} (F : FunD K "_law_chair" "_law_chair" (defArgs s_law_chair) (defBody s_law_chair) (defScope s_law_chair) [] [] f fd) : FnOk P w K mg base (L2.CX P w) 2 f fd P_law_chair (spD ⟨K, mg⟩ P_law_chair.length F_law_chair) :=
  fnok_of (pr := []) F sc_law_chair fun cdv A outer s H E hr => by
    have c := cf_of (P := P) (w := w) (K := K) (mg := mg) (base := base) (E := E) (H := H) (outer := outer) sc_law_chair hr
    have po : ∀ i : Unit, PassesOwn (model ((fun _ : Unit => cxOf (L2.CX P w) P w K mg base N_law_chair "_law_chair" (defScope s_law_chair) f cdv A outer s H E) i).prog ((fun _ : Unit => cxOf (L2.CX P w) P w K mg base N_law_chair "_law_chair" (defScope s_law_chair) f cdv A outer s H E) i).w) ((fun _ : Unit => cxOf (L2.CX P w) P w K mg base N_law_chair "_law_chair" (defScope s_law_chair) f cdv A outer s H E) i).A ((fun _ : Unit => cxOf (L2.CX P w) P w K mg base N_law_chair "_law_chair" (defScope s_law_chair) f cdv A outer s H E) i).env ((fun _ : Unit => cxOf (L2.CX P w) P w K mg base N_law_chair "_law_chair" (defScope s_law_chair) f cdv A outer s H E) i).xe := fun _ => passes_of rfl
    exact (ss_cons (sd_if (td_eq c (ed_lenSetA c (fun _ => by rfl) T.f_len (fun _ => by rfl) T.f_set (ed_var 1 (fun _ => pv 1))) ed_int) (ss_one (sd_ret (ed_tup (am_cons ed_str (am_cons (ed_ix c (ed_var 1 (fun _ => pv 1)) ed_int) am_nil))))) ss_nil)
  (ss_cons (sd_asg (fun i te tg he hg => ps_asg he hg) (ed_frz (ed_fn c (fun _ => h_law_rows_1) (by decide) (fun _ => by rfl) (am_cons (ed_var 0 (fun _ => pv 0)) am_nil) (al_cons al_nil))) (gd_name (i := 2) (fun j => pg_name (c.nd j) rfl (by first | exact Or.inl rfl | exact Or.inr rfl))))
  (ss_cons (sd_for po c.calm (id_rg1 c (fun _ => by rfl) T.f_range (am_cons ed_int am_nil)) (gd_name (i := 3) (fun j => pg_name (c.nd j) rfl (by first | exact Or.inl rfl | exact Or.inr rfl))) (ss_cons (by first | exact (sd_setLc (own := [("_law_slip", 7)]) 8 c.calm c.nd (fun _ => rfl) (fun _ => rfl) (fun _ => rfl) (by kernel_rfl) (by kernel_rfl) (by decide) (id_rg1 c (fun _ => by rfl) T.f_range (am_cons (ed_ix c (ed_var 0 (fun _ => pv 0)) (ed_var 3 (fun _ => pv 3))) am_nil)) (fun _ => blkOk_by (by kernel_rfl)) (gd_name (i := 7) (fun j => pg_name ((c.blk _).nd j) rfl (by first | exact Or.inl rfl | exact Or.inr rfl))) ld_nil ed_non) | exact (sd_asg (fun i te tg he hg => ps_asg he hg) (ed_lc (own := [("_law_slip", 7)]) 8 c.calm c.nd (id_rg1 c (fun _ => by rfl) T.f_range (am_cons (ed_ix c (ed_var 0 (fun _ => pv 0)) (ed_var 3 (fun _ => pv 3))) am_nil)) (fun _ => blkOk_by (by kernel_rfl)) (gd_name (i := 7) (fun j => pg_name ((c.blk _).nd j) rfl (by first | exact Or.inl rfl | exact Or.inr rfl))) ld_nil ed_non) (gd_name (i := 4) (fun j => pg_name (c.nd j) rfl (by first | exact Or.inl rfl | exact Or.inr rfl)))))
  (ss_cons (sd_for po c.calm (id_zipM c (fun _ => by rfl) T.f_zip (am_cons (ed_var 2 (fun _ => pv 2)) (am_cons (ed_var 1 (fun _ => pv 1)) am_nil))) (gd_tup (n := 2) (t := gNil) (fun i t h => by rw [← c.kk i]; exact pg_tup (c.calm i) h) (gds_cons (gd_name (i := 5) (fun j => pg_name (c.nd j) rfl (by first | exact Or.inl rfl | exact Or.inr rfl))) (gds_cons (gd_name (i := 6) (fun j => pg_name (c.nd j) rfl (by first | exact Or.inl rfl | exact Or.inr rfl))) gds_nil))) (ss_cons (sd_asg (fun i te tg he hg => ps_asg he hg) (ed_frz (ed_ix c (ed_var 5 (fun _ => pv 5)) (ed_var 3 (fun _ => pv 3)))) (gd_name (i := 7) (fun j => pg_name (c.nd j) rfl (by first | exact Or.inl rfl | exact Or.inr rfl))))
  (ss_one (sd_asg (fun i te tg he hg => ps_asg he hg) (ed_frz (ed_if (td_bor (td_in c (ed_ix c (ed_var 4 (fun _ => pv 4)) (ed_var 7 (fun _ => pv 7))) (ed_lst (am_cons ed_non (am_cons (ed_var 6 (fun _ => pv 6)) am_nil))))) (ed_var 6 (fun _ => pv 6)) (ed_neg c ed_int))) (gd_item 4 c (fun _ => pv 4) (ed_var 7 (fun _ => pv 7)))))))
  (ss_one (sd_if (td_bor (td_of (wd_and (td_nin c (ed_var 3 (fun _ => pv 3)) (ed_var 4 (fun _ => pv 4))) (wd_and (td_nin c (ed_neg c ed_int) (ed_var 4 (fun _ => pv 4))) (wd_and1 (td_eq c (ed_lenSetA c (fun _ => by rfl) T.f_len (fun _ => by rfl) T.f_set (ed_var 4 (fun _ => pv 4))) ed_int)))))) (ss_one (sd_ret (ed_tup (am_cons ed_str (am_cons (ed_var 3 (fun _ => pv 3)) (am_cons (ed_tuple c (fun _ => by rfl) T.f_tuple (am_cons (ed_move 4 (fun _ => pv 4)) am_nil)) am_nil)))))) ss_nil)))))
  (ss_one (sd_ret ed_non)))))
abbrev s_law_right : Stmt := top 39
abbrev N_law_right : List Str := ["_law_club_here", "_law_picks_here", "_law_due", "_law_told"]
abbrev P_law_right : List Str := ["_law_club_here", "_law_picks_here"]
theorem sc_law_right : FnScope N_law_right P_law_right (defScope s_law_right) := ⟨rfl, rfl, rfl, by decide +kernel, rfl, by decide +kernel, by decide +kernel⟩
def b_law_right : SF := (sSeq (sAsg (eFrz (eCall F_law_first_own (aCons (eVar 0) (aCons (eVar 1) aNil)) [] [])) (gSet 2))
  (sSeq (sIf (eB (e2 neD (eCall F_first_own (aCons (eVar 0) (aCons (eVar 1) aNil)) [] []) (eVar 2))) (sRet (eC (.bl false))) sNext)
  (sSeq (sIf (eB (e2 neD (eBi lenD (aCons (eVar 0) aNil)) (eC (.int 3)))) (sRet (eC (.bl true))) sNext)
  (sSeq (sAsg (eFrz (eCall F_chair (aCons (eVar 0) (aCons (eVar 1) aNil)) [] [])) (gSet 3))
  (sSeq (sIf (mOr (eB (e2 neD (eVar 3) (eCall F_law_chair (aCons (eVar 0) (aCons (eVar 1) aNil)) [] []))) (eB (e2 neD (eIsN (eVar 3)) (eNotN (eVar 2))))) (sRet (eC (.bl false))) sNext)
  (sRet (eOr (eIsN (eVar 3)) (eInst .tuple (eVar 3)))))))))
def F_law_right : List D → Res D := runS [] 2 4 b_law_right
theorem ok_law_right (T : Txt K mg) (h_law_first_own_2 : FnD P w K mg base 2 "_law_first_own" 2 [] F_law_first_own) (h_first_own_2 : FnD P w K mg base 6 "first_own" 2 [] F_first_own) (h_chair_2 : FnD P w K mg base 7 "chair" 2 [] F_chair) (h_law_chair_2 : FnD P w K mg base 2 "_law_chair" 2 [] F_law_chair) {f : Addr} {fd : FuncData} (F : FunD K "_law_right" "_law_right" (defArgs s_law_right) (defBody s_law_right) (defScope s_law_right) [] [] f fd) : FnOk P w K mg base (L2.CX P w) 8 f fd P_law_right (spD ⟨K, mg⟩ P_law_right.length F_law_right) :=
  fnok_of (pr := []) F sc_law_right fun cdv A outer s H E hr => by
    have c := cf_of (P := P) (w := w) (K := K) (mg := mg) (base := base) (E := E) (H := H) (outer := outer) sc_law_right hr
    have po : ∀ i : Unit, PassesOwn (model ((fun _ : Unit => cxOf (L2.CX P w) P w K mg base N_law_right "_law_right" (defScope s_law_right) f cdv A outer s H E) i).prog ((fun _ : Unit => cxOf (L2.CX P w) P w K mg base N_law_right "_law_right" (defScope s_law_right) f cdv A outer s H E) i).w) ((fun _ : Unit => cxOf (L2.CX P w) P w K mg base N_law_right "_law_right" (defScope s_law_right) f cdv A outer s H E) i).A ((fun _ : Unit => cxOf (L2.CX P w) P w K mg base N_law_right "_law_right" (defScope s_law_right) f cdv A outer s H E) i).env ((fun _ : Unit => cxOf (L2.CX P w) P w K mg base N_law_right "_law_right" (defScope s_law_right) f cdv A outer s H E) i).xe := fun _ => passes_of rfl
    exact (ss_cons (sd_asg (fun i te tg he hg => ps_asg he hg) (ed_frz (ed_fn c (fun _ => h_law_first_own_2) (by decide) (fun _ => by rfl) (am_cons (ed_var 0 (fun _ => pv 0)) (am_cons (ed_var 1 (fun _ => pv 1)) am_nil)) (al_cons (al_cons al_nil)))) (gd_name (i := 2) (fun j => pg_name (c.nd j) rfl (by first | exact Or.inl rfl | exact Or.inr rfl))))
  (ss_cons (sd_if (td_ne c (ed_fn c (fun _ => h_first_own_2) (by decide) (fun _ => by rfl) (am_cons (ed_var 0 (fun _ => pv 0)) (am_cons (ed_var 1 (fun _ => pv 1)) am_nil)) (al_cons (al_cons al_nil))) (ed_var 2 (fun _ => pv 2))) (ss_one (sd_ret ed_bl)) ss_nil)
  (ss_cons (sd_if (td_ne c (ed_len c (fun _ => by rfl) T.f_len (am_cons (ed_var 0 (fun _ => pv 0)) am_nil)) ed_int) (ss_one (sd_ret ed_bl)) ss_nil)
  (ss_cons (sd_asg (fun i te tg he hg => ps_asg he hg) (ed_frz (ed_fn c (fun _ => h_chair_2) (by decide) (fun _ => by rfl) (am_cons (ed_var 0 (fun _ => pv 0)) (am_cons (ed_var 1 (fun _ => pv 1)) am_nil)) (al_cons (al_cons al_nil)))) (gd_name (i := 3) (fun j => pg_name (c.nd j) rfl (by first | exact Or.inl rfl | exact Or.inr rfl))))
  (ss_cons (sd_if (td_of (wd_or (td_ne c (ed_var 3 (fun _ => pv 3)) (ed_fn c (fun _ => h_law_chair_2) (by decide) (fun _ => by rfl) (am_cons (ed_var 0 (fun _ => pv 0)) (am_cons (ed_var 1 (fun _ => pv 1)) am_nil)) (al_cons (al_cons al_nil)))) (wd_or1 (td_ne c (ed_isN (ed_var 3 (fun _ => pv 3))) (ed_notN (ed_var 2 (fun _ => pv 2))))))) (ss_one (sd_ret ed_bl)) ss_nil)
  (ss_one (sd_ret (ed_or (ed_isN (ed_var 3 (fun _ => pv 3))) (ed_one (ed_inst .tuple c (fun _ => by rfl) T.f_isinstance (fun _ => by rfl) T.f_tuple (by decide +kernel) (ed_var 3 (fun _ => pv 3))))))))))))
abbrev s_law_club : Stmt := top 36
abbrev N_law_club : List Str := ["_law_dice_here", "_law_members", "_law_found", "_law_room", "_law_k", "_law_sorts"]
abbrev P_law_club : List Str := ["_law_dice_here", "_law_members"]
theorem sc_law_club : FnScope N_law_club P_law_club (defScope s_law_club) := ⟨rfl, rfl, rfl, by decide +kernel, rfl, by decide +kernel, by decide +kernel⟩
def b_law_club : SF := (sSeq (sAsg (eTup aNil) (gSet 2))
  (sSeq (sAsg (eC (.int 24)) (gSet 3))
  (sSeq (sFor (iRg1 (aCons (eVar 1) aNil)) (gSet 4) (sSeq (sAsg (eFrz (e2 addD (eC (.int 1)) (eCall F_law_draw (aCons (eMove 0) (aCons (eBi min2D (aCons (eC (.int 4)) (aCons (eVar 3) aNil))) aNil)) [] [(0, 0)]))) (gSet 5))
  (sSeq (sAsg (eFrz (e2 addD (eVar 2) (eTup (aCons (eVar 5) aNil)))) (gSet 2))
  (sAsg (e2 fdivD (eVar 3) (eVar 5)) (gSet 3)))))
  (sRet (eVar 2)))))
def F_law_club : List D → Res D := runS [0] 2 6 b_law_club
theorem ok_law_club (T : Txt K mg) (h_law_draw_2 : FnD P w K mg base 1 "_law_draw" 2 [] F_law_draw) {f : Addr} {fd : FuncData} (F : FunD K "_law_club" "_law_club" (defArgs s_law_club) (defBody s_law_club) (defScope s_law_club) [] [] f fd) : FnOk P w K mg base (L2.CX P w) 2 f fd P_law_club (spD ⟨K, mg⟩ P_law_club.length F_law_club) :=
  fnok_of (pr := [0]) F sc_law_club fun cdv A outer s H E hr => by
    have c := cf_of (P := P) (w := w) (K := K) (mg := mg) (base := base) (E := E) (H := H) (outer := outer) sc_law_club hr
    have po : ∀ i : Unit, PassesOwn (model ((fun _ : Unit => cxOf (L2.CX P w) P w K mg base N_law_club "_law_club" (defScope s_law_club) f cdv A outer s H E) i).prog ((fun _ : Unit => cxOf (L2.CX P w) P w K mg base N_law_club "_law_club" (defScope s_law_club) f cdv A outer s H E) i).w) ((fun _ : Unit => cxOf (L2.CX P w) P w K mg base N_law_club "_law_club" (defScope s_law_club) f cdv A outer s H E) i).A ((fun _ : Unit => cxOf (L2.CX P w) P w K mg base N_law_club "_law_club" (defScope s_law_club) f cdv A outer s H E) i).env ((fun _ : Unit => cxOf (L2.CX P w) P w K mg base N_law_club "_law_club" (defScope s_law_club) f cdv A outer s H E) i).xe := fun _ => passes_of rfl
    exact (ss_cons (sd_asg (fun i te tg he hg => ps_asg he hg) (ed_tup am_nil) (gd_name (i := 2) (fun j => pg_name (c.nd j) rfl (by first | exact Or.inl rfl | exact Or.inr rfl))))
  (ss_cons (sd_asg (fun i te tg he hg => ps_asg he hg) ed_int (gd_name (i := 3) (fun j => pg_name (c.nd j) rfl (by first | exact Or.inl rfl | exact Or.inr rfl))))
  (ss_cons (sd_for po c.calm (id_rg1 c (fun _ => by rfl) T.f_range (am_cons (ed_var 1 (fun _ => pv 1)) am_nil)) (gd_name (i := 4) (fun j => pg_name (c.nd j) rfl (by first | exact Or.inl rfl | exact Or.inr rfl))) (ss_cons (sd_asg (fun i te tg he hg => ps_asg he hg) (ed_frz (ed_add c ed_int (ed_fn c (fun _ => h_law_draw_2) (by decide) (fun _ => by rfl) (am_mv 0 (fun _ => pv 0) (am_cons (ed_min2 c (fun _ => by rfl) T.f_min (am_cons ed_int (am_cons (ed_var 3 (fun _ => pv 3)) am_nil))) am_nil)) (al_cons (al_cons al_nil))))) (gd_name (i := 5) (fun j => pg_name (c.nd j) rfl (by first | exact Or.inl rfl | exact Or.inr rfl))))
  (ss_cons (sd_asg (fun i te tg he hg => ps_asg he hg) (ed_frz (ed_add c (ed_var 2 (fun _ => pv 2)) (ed_tup (am_cons (ed_var 5 (fun _ => pv 5)) am_nil)))) (gd_name (i := 2) (fun j => pg_name (c.nd j) rfl (by first | exact Or.inl rfl | exact Or.inr rfl))))
  (ss_one (sd_asg (fun i te tg he hg => ps_asg he hg) (ed_fdiv c (ed_var 3 (fun _ => pv 3)) (ed_var 5 (fun _ => pv 5))) (gd_name (i := 3) (fun j => pg_name (c.nd j) rfl (by first | exact Or.inl rfl | exact Or.inr rfl))))))))
  (ss_one (sd_ret (ed_var 2 (fun _ => pv 2)))))))
abbrev s_law : Stmt := top 41
abbrev N_law : List Str := ["_law_script", "_law_dice_here", "_law_turn", "_law_club_here", "_law_picks_here"]
abbrev P_law : List Str := ["_law_script"]
theorem sc_law : FnScope N_law P_law (defScope s_law) := ⟨rfl, rfl, rfl, by decide +kernel, rfl, by decide +kernel, by decide +kernel⟩
def b_law : SF := (sSeq (sAsg (eCall F_law_dice (aCons (eVar 0) aNil) [] []) (gSet 1))
  (sSeq (sIf (eB (e2 eqD (eCall F_law_draw (aCons (eMove 1) (aCons (eC (.int 6)) aNil)) [] [(0, 1)]) (eC (.int 0)))) (sSeq (sAsg (eCall F_law_great (aCons (eMove 1) aNil) [] [(0, 1)]) (gTupD 2 (gsCons (gSet 3) (gsCons (gSet 4) gsNil))))
  (sRet (eCall F_law_right (aCons (eVar 3) (aCons (eVar 4) aNil)) [] []))) sNext)
  (sSeq (sFor (iRg1 (aCons (eC (.int 4)) aNil)) (gSet 2) (sSeq (sAsg (eFrz (eCall F_law_club (aMvL 1 (aCons (e2 ixD (eLst (aCons (eC (.int 3)) (aCons (eC (.int 3)) (aCons (eC (.int 3)) (aCons (eFrz (e2 addD (eC (.int 1)) (eCall F_law_draw (aCons (eMove 1) (aCons (eC (.int 4)) aNil)) [] [(0, 1)]))) aNil))))) (eVar 2)) aNil)) [] [(0, 1)])) (gSet 3))
  (sIf (mNot (eB (eCall F_law_right (aCons (eVar 3) (aCons (eFrz (eCall F_law_picks (aCons (eMove 1) (aCons (eVar 3) aNil)) [] [(0, 1)])) aNil)) [] []))) (sRet (eC (.bl false))) sNext)))
  (sRet (eC (.bl true))))))
def F_law : List D → Res D := runS [] 1 5 b_law
theorem ok_law (T : Txt K mg) (h_law_dice_1 : FnD P w K mg base 1 "_law_dice" 1 [] F_law_dice) (h_law_draw_2 : FnD P w K mg base 1 "_law_draw" 2 [] F_law_draw) (h_law_great_1 : FnD P w K mg base 14 "_law_great" 1 [] F_law_great) (h_law_right_2 : FnD P w K mg base 8 "_law_right" 2 [] F_law_right) (h_law_club_2 : FnD P w K mg base 2 "_law_club" 2 [] F_law_club) (h_law_picks_2 : FnD P w K mg base 2 "_law_picks" 2 [] F_law_picks) {f : Addr} {fd : FuncData} (F : FunD K "law" "law" (defArgs s_law) (defBody s_law) (defScope s_law) [] [] f fd) : FnOk P w K mg base (L2.CX P w) 15 f fd P_law (spD ⟨K, mg⟩ P_law.length F_law) :=
  fnok_of (pr := []) F sc_law fun cdv A outer s H E hr => by
    have c := cf_of (P := P) (w := w) (K := K) (mg := mg) (base := base) (E := E) (H := H) (outer := outer) sc_law hr
    have po : ∀ i : Unit, PassesOwn (model ((fun _ : Unit => cxOf (L2.CX P w) P w K mg base N_law "law" (defScope s_law) f cdv A outer s H E) i).prog ((fun _ : Unit => cxOf (L2.CX P w) P w K mg base N_law "law" (defScope s_law) f cdv A outer s H E) i).w) ((fun _ : Unit => cxOf (L2.CX P w) P w K mg base N_law "law" (defScope s_law) f cdv A outer s H E) i).A ((fun _ : Unit => cxOf (L2.CX P w) P w K mg base N_law "law" (defScope s_law) f cdv A outer s H E) i).env ((fun _ : Unit => cxOf (L2.CX P w) P w K mg base N_law "law" (defScope s_law) f cdv A outer s H E) i).xe := fun _ => passes_of rfl
    exact (ss_cons (sd_asg (fun i te tg he hg => ps_asg he hg) (ed_fn c (fun _ => h_law_dice_1) (by decide) (fun _ => by rfl) (am_cons (ed_var 0 (fun _ => pv 0)) am_nil) (al_cons al_nil)) (gd_name (i := 1) (fun j => pg_name (c.nd j) rfl (by first | exact Or.inl rfl | exact Or.inr rfl))))
  (ss_cons (sd_if (td_eq c (ed_fn c (fun _ => h_law_draw_2) (by decide) (fun _ => by rfl) (am_mv 1 (fun _ => pv 1) (am_cons ed_int am_nil)) (al_cons (al_cons al_nil))) ed_int) (ss_cons (sd_asg (fun i te tg he hg => ps_asg he hg) (ed_fn c (fun _ => h_law_great_1) (by decide) (fun _ => by rfl) (am_mv 1 (fun _ => pv 1) am_nil) (al_cons al_nil)) (gd_tup (n := 2) (t := gNil) (fun i t h => by rw [← c.kk i]; exact pg_tup (c.calm i) h) (gds_cons (gd_name (i := 3) (fun j => pg_name (c.nd j) rfl (by first | exact Or.inl rfl | exact Or.inr rfl))) (gds_cons (gd_name (i := 4) (fun j => pg_name (c.nd j) rfl (by first | exact Or.inl rfl | exact Or.inr rfl))) gds_nil))))
  (ss_one (sd_ret (ed_fn c (fun _ => h_law_right_2) (by decide) (fun _ => by rfl) (am_cons (ed_var 3 (fun _ => pv 3)) (am_cons (ed_var 4 (fun _ => pv 4)) am_nil)) (al_cons (al_cons al_nil)))))) ss_nil)
  (ss_cons (sd_for po c.calm (id_rg1 c (fun _ => by rfl) T.f_range (am_cons ed_int am_nil)) (gd_name (i := 2) (fun j => pg_name (c.nd j) rfl (by first | exact Or.inl rfl | exact Or.inr rfl))) (ss_cons (sd_asg (fun i te tg he hg => ps_asg he hg) (ed_frz (ed_fn c (fun _ => h_law_club_2) (by decide) (fun _ => by rfl) (am_mvL 1 (fun _ => pv 1) (am_cons (ed_ix c (ed_lst (am_cons ed_int (am_cons ed_int (am_cons ed_int (am_cons (ed_frz (ed_add c ed_int (ed_fn c (fun _ => h_law_draw_2) (by decide) (fun _ => by rfl) (am_mv 1 (fun _ => pv 1) (am_cons ed_int am_nil)) (al_cons (al_cons al_nil))))) am_nil))))) (ed_var 2 (fun _ => pv 2))) am_nil)) (by repeat (first | exact al_nil | apply al_cons | apply al_mvL)))) (gd_name (i := 3) (fun j => pg_name (c.nd j) rfl (by first | exact Or.inl rfl | exact Or.inr rfl))))
  (ss_one (sd_if (td_not (td_val (ed_fn c (fun _ => h_law_right_2) (by decide) (fun _ => by rfl) (am_cons (ed_var 3 (fun _ => pv 3)) (am_cons (ed_frz (ed_fn c (fun _ => h_law_picks_2) (by decide) (fun _ => by rfl) (am_mv 1 (fun _ => pv 1) (am_cons (ed_var 3 (fun _ => pv 3)) am_nil)) (al_cons (al_cons al_nil)))) am_nil)) (al_cons (al_cons al_nil))))) (ss_one (sd_ret ed_bl)) ss_nil))))
  (ss_one (sd_ret ed_bl)))))
def fal : List He.Fa := [.free "abs", .free "all", .free "bool", .free "enumerate", .free "int", .free "isinstance", .free "len", .free "list", .free "min", .free "range", .free "reversed", .free "set", .free "tuple", .free "zip", .int "CHAIRED" 3, .int "MOST_MEMBERS" 8, .int "MOST_ROWS" 256, .int "MOST_SORTS" 4, .glo "_law_dice", .glo "_law_draw", .glo "_law_power", .glo "_law_turned", .glo "_law_switched", .glo "_law_row_with", .glo "_law_coupling", .glo "_law_rows", .glo "_law_picks", .glo "_law_great", .glo "_law_first_own", .glo "is_integer", .glo "is_within", .glo "is_many", .glo "size_of", .glo "is_club", .glo "check_club", .glo "check_three", .glo "is_table", .glo "check_picks", .glo "slips_of", .glo "named_by", .glo "chair", .glo "unlike_in", .glo "is_own", .glo "first_own", .glo "_law_chair", .glo "_law_right", .glo "_law_club", .glo "law", .glo "NoClub", .exc "NoClub", .glo "NoPicks", .exc "NoPicks"]
def d_law_dice : He.DefD := ⟨("_law_dice", none), "_law_dice", "_law_dice", defArgs s_law_dice, defBody s_law_dice, defScope s_law_dice, [], []⟩
def d_law_draw : He.DefD := ⟨("_law_draw", none), "_law_draw", "_law_draw", defArgs s_law_draw, defBody s_law_draw, defScope s_law_draw, [], []⟩
def d_law_power : He.DefD := ⟨("_law_power", none), "_law_power", "_law_power", defArgs s_law_power, defBody s_law_power, defScope s_law_power, [], []⟩
def d_law_turned : He.DefD := ⟨("_law_turned", none), "_law_turned", "_law_turned", defArgs s_law_turned, defBody s_law_turned, defScope s_law_turned, [], []⟩
def d_law_switched : He.DefD := ⟨("_law_switched", none), "_law_switched", "_law_switched", defArgs s_law_switched, defBody s_law_switched, defScope s_law_switched, [], []⟩
def d_law_row_with : He.DefD := ⟨("_law_row_with", none), "_law_row_with", "_law_row_with", defArgs s_law_row_with, defBody s_law_row_with, defScope s_law_row_with, [], []⟩
def d_law_coupling : He.DefD := ⟨("_law_coupling", none), "_law_coupling", "_law_coupling", defArgs s_law_coupling, defBody s_law_coupling, defScope s_law_coupling, [], []⟩
def d_law_rows : He.DefD := ⟨("_law_rows", none), "_law_rows", "_law_rows", defArgs s_law_rows, defBody s_law_rows, defScope s_law_rows, [], []⟩
def d_law_picks : He.DefD := ⟨("_law_picks", none), "_law_picks", "_law_picks", defArgs s_law_picks, defBody s_law_picks, defScope s_law_picks, [], []⟩
def d_law_great : He.DefD := ⟨("_law_great", none), "_law_great", "_law_great", defArgs s_law_great, defBody s_law_great, defScope s_law_great, [], []⟩
def d_law_first_own : He.DefD := ⟨("_law_first_own", none), "_law_first_own", "_law_first_own", defArgs s_law_first_own, defBody s_law_first_own, defScope s_law_first_own, [], []⟩
def d_is_integer : He.DefD := ⟨("is_integer", none), "is_integer", "is_integer", defArgs s_is_integer, defBody s_is_integer, defScope s_is_integer, [], []⟩
def d_is_within : He.DefD := ⟨("is_within", none), "is_within", "is_within", defArgs s_is_within, defBody s_is_within, defScope s_is_within, [], []⟩
def d_is_many : He.DefD := ⟨("is_many", none), "is_many", "is_many", defArgs s_is_many, defBody s_is_many, defScope s_is_many, [], []⟩
def d_size_of : He.DefD := ⟨("size_of", none), "size_of", "size_of", defArgs s_size_of, defBody s_size_of, defScope s_size_of, [], []⟩
def d_is_club : He.DefD := ⟨("is_club", none), "is_club", "is_club", defArgs s_is_club, defBody s_is_club, defScope s_is_club, [], []⟩
def d_check_club : He.DefD := ⟨("check_club", none), "check_club", "check_club", defArgs s_check_club, defBody s_check_club, defScope s_check_club, [], []⟩
def d_check_three : He.DefD := ⟨("check_three", none), "check_three", "check_three", defArgs s_check_three, defBody s_check_three, defScope s_check_three, [], []⟩
def d_is_table : He.DefD := ⟨("is_table", none), "is_table", "is_table", defArgs s_is_table, defBody s_is_table, defScope s_is_table, [], []⟩
def d_check_picks : He.DefD := ⟨("check_picks", none), "check_picks", "check_picks", defArgs s_check_picks, defBody s_check_picks, defScope s_check_picks, [], []⟩
def d_slips_of : He.DefD := ⟨("slips_of", none), "slips_of", "slips_of", defArgs s_slips_of, defBody s_slips_of, defScope s_slips_of, [], []⟩
def d_named_by : He.DefD := ⟨("named_by", none), "named_by", "named_by", defArgs s_named_by, defBody s_named_by, defScope s_named_by, [], []⟩
def d_chair : He.DefD := ⟨("chair", none), "chair", "chair", defArgs s_chair, defBody s_chair, defScope s_chair, [], []⟩
def d_unlike_in : He.DefD := ⟨("unlike_in", none), "unlike_in", "unlike_in", defArgs s_unlike_in, defBody s_unlike_in, defScope s_unlike_in, [], []⟩
def d_is_own : He.DefD := ⟨("is_own", none), "is_own", "is_own", defArgs s_is_own, defBody s_is_own, defScope s_is_own, [], []⟩
def d_first_own : He.DefD := ⟨("first_own", none), "first_own", "first_own", defArgs s_first_own, defBody s_first_own, defScope s_first_own, [], []⟩
def d_law_chair : He.DefD := ⟨("_law_chair", none), "_law_chair", "_law_chair", defArgs s_law_chair, defBody s_law_chair, defScope s_law_chair, [], []⟩
def d_law_right : He.DefD := ⟨("_law_right", none), "_law_right", "_law_right", defArgs s_law_right, defBody s_law_right, defScope s_law_right, [], []⟩
def d_law_club : He.DefD := ⟨("_law_club", none), "_law_club", "_law_club", defArgs s_law_club, defBody s_law_club, defScope s_law_club, [], []⟩
def d_law : He.DefD := ⟨("law", none), "law", "law", defArgs s_law, defBody s_law, defScope s_law, [], []⟩
def fnl : List He.DefD := [d_law_dice, d_law_draw, d_law_power, d_law_turned, d_law_switched, d_law_row_with, d_law_coupling, d_law_rows, d_law_picks, d_law_great, d_law_first_own, d_is_integer, d_is_within, d_is_many, d_size_of, d_is_club, d_check_club, d_check_three, d_is_table, d_check_picks, d_slips_of, d_named_by, d_chair, d_unlike_in, d_is_own, d_first_own, d_law_chair, d_law_right, d_law_club, d_law]
def exl (K : PySem.W.Frag) : Bool := true
theorem txt {h : Heap} (X : K.In h) (G : h.Ns mainGlobals mg) (c : SaysE fal fnl exl K) : Txt K mg := by
  have d := c.d
  have e := c.e
  exact ⟨He.free_ok X G (d.fact 0 (f := .free "abs") rfl), He.free_ok X G (d.fact 1 (f := .free "all") rfl), He.free_ok X G (d.fact 2 (f := .free "bool") rfl), He.free_ok X G (d.fact 3 (f := .free "enumerate") rfl), He.free_ok X G (d.fact 4 (f := .free "int") rfl), He.free_ok X G (d.fact 5 (f := .free "isinstance") rfl), He.free_ok X G (d.fact 6 (f := .free "len") rfl), He.free_ok X G (d.fact 7 (f := .free "list") rfl), He.free_ok X G (d.fact 8 (f := .free "min") rfl), He.free_ok X G (d.fact 9 (f := .free "range") rfl), He.free_ok X G (d.fact 10 (f := .free "reversed") rfl), He.free_ok X G (d.fact 11 (f := .free "set") rfl), He.free_ok X G (d.fact 12 (f := .free "tuple") rfl), He.free_ok X G (d.fact 13 (f := .free "zip") rfl), He.int_ok X G (d.fact 14 (f := .int "CHAIRED" 3) rfl), He.int_ok X G (d.fact 15 (f := .int "MOST_MEMBERS" 8) rfl), He.int_ok X G (d.fact 16 (f := .int "MOST_ROWS" 256) rfl), He.int_ok X G (d.fact 17 (f := .int "MOST_SORTS" 4) rfl), exf_of X G (d.fact 48 (f := .glo "NoClub") rfl) (d.fact 49 (f := .exc "NoClub") rfl), exf_of X G (d.fact 50 (f := .glo "NoPicks") rfl) (d.fact 51 (f := .exc "NoPicks") rfl)⟩
theorem facts {P : Program} {w : World} {K : PySem.W.Frag} {h : Heap} {mg : Str → Option Value} {f : Addr} (X : K.In h) (G : h.Ns mainGlobals mg) (hfa : mg ("law" : Str) = some (.ref f)) (c : SaysE fal fnl exl K) :
    ∃ fd : FuncData, (∀ (s : Shared) (v : Value), BindsTo s fd ⟨[v], []⟩ [("_law_script", v)]) ∧ ∀ base : Heap, K.In base → base.Ns mainGlobals mg → FnOk P w K mg base (L2.CX P w) 15 f fd P_law (spD ⟨K, mg⟩ 1 F_law) := by
  have T := txt X G c
  have d := c.d
  obtain ⟨fd_law_dice, K_law_dice⟩ := d.def_ 0 (d := d_law_dice) rfl
  have g_law_dice := He.glo_ok X G (d.fact 18 (f := .glo "_law_dice") rfl)
  obtain ⟨fd_law_draw, K_law_draw⟩ := d.def_ 1 (d := d_law_draw) rfl
  have g_law_draw := He.glo_ok X G (d.fact 19 (f := .glo "_law_draw") rfl)
  obtain ⟨fd_law_power, K_law_power⟩ := d.def_ 2 (d := d_law_power) rfl
  have g_law_power := He.glo_ok X G (d.fact 20 (f := .glo "_law_power") rfl)
  obtain ⟨fd_law_turned, K_law_turned⟩ := d.def_ 3 (d := d_law_turned) rfl
  have g_law_turned := He.glo_ok X G (d.fact 21 (f := .glo "_law_turned") rfl)
  obtain ⟨fd_law_switched, K_law_switched⟩ := d.def_ 4 (d := d_law_switched) rfl
  have g_law_switched := He.glo_ok X G (d.fact 22 (f := .glo "_law_switched") rfl)
  obtain ⟨fd_law_row_with, K_law_row_with⟩ := d.def_ 5 (d := d_law_row_with) rfl
  have g_law_row_with := He.glo_ok X G (d.fact 23 (f := .glo "_law_row_with") rfl)
  obtain ⟨fd_law_coupling, K_law_coupling⟩ := d.def_ 6 (d := d_law_coupling) rfl
  have g_law_coupling := He.glo_ok X G (d.fact 24 (f := .glo "_law_coupling") rfl)
  obtain ⟨fd_law_rows, K_law_rows⟩ := d.def_ 7 (d := d_law_rows) rfl
  have g_law_rows := He.glo_ok X G (d.fact 25 (f := .glo "_law_rows") rfl)
  obtain ⟨fd_law_picks, K_law_picks⟩ := d.def_ 8 (d := d_law_picks) rfl
  have g_law_picks := He.glo_ok X G (d.fact 26 (f := .glo "_law_picks") rfl)
  obtain ⟨fd_law_great, K_law_great⟩ := d.def_ 9 (d := d_law_great) rfl
  have g_law_great := He.glo_ok X G (d.fact 27 (f := .glo "_law_great") rfl)
  obtain ⟨fd_law_first_own, K_law_first_own⟩ := d.def_ 10 (d := d_law_first_own) rfl
  have g_law_first_own := He.glo_ok X G (d.fact 28 (f := .glo "_law_first_own") rfl)
  obtain ⟨fd_is_integer, K_is_integer⟩ := d.def_ 11 (d := d_is_integer) rfl
  have g_is_integer := He.glo_ok X G (d.fact 29 (f := .glo "is_integer") rfl)
  obtain ⟨fd_is_within, K_is_within⟩ := d.def_ 12 (d := d_is_within) rfl
  have g_is_within := He.glo_ok X G (d.fact 30 (f := .glo "is_within") rfl)
  obtain ⟨fd_is_many, K_is_many⟩ := d.def_ 13 (d := d_is_many) rfl
  have g_is_many := He.glo_ok X G (d.fact 31 (f := .glo "is_many") rfl)
  obtain ⟨fd_size_of, K_size_of⟩ := d.def_ 14 (d := d_size_of) rfl
  have g_size_of := He.glo_ok X G (d.fact 32 (f := .glo "size_of") rfl)
  obtain ⟨fd_is_club, K_is_club⟩ := d.def_ 15 (d := d_is_club) rfl
  have g_is_club := He.glo_ok X G (d.fact 33 (f := .glo "is_club") rfl)
  obtain ⟨fd_check_club, K_check_club⟩ := d.def_ 16 (d := d_check_club) rfl
  have g_check_club := He.glo_ok X G (d.fact 34 (f := .glo "check_club") rfl)
  obtain ⟨fd_check_three, K_check_three⟩ := d.def_ 17 (d := d_check_three) rfl
  have g_check_three := He.glo_ok X G (d.fact 35 (f := .glo "check_three") rfl)
  obtain ⟨fd_is_table, K_is_table⟩ := d.def_ 18 (d := d_is_table) rfl
  have g_is_table := He.glo_ok X G (d.fact 36 (f := .glo "is_table") rfl)
  obtain ⟨fd_check_picks, K_check_picks⟩ := d.def_ 19 (d := d_check_picks) rfl
  have g_check_picks := He.glo_ok X G (d.fact 37 (f := .glo "check_picks") rfl)
  obtain ⟨fd_slips_of, K_slips_of⟩ := d.def_ 20 (d := d_slips_of) rfl
  have g_slips_of := He.glo_ok X G (d.fact 38 (f := .glo "slips_of") rfl)
  obtain ⟨fd_named_by, K_named_by⟩ := d.def_ 21 (d := d_named_by) rfl
  have g_named_by := He.glo_ok X G (d.fact 39 (f := .glo "named_by") rfl)
  obtain ⟨fd_chair, K_chair⟩ := d.def_ 22 (d := d_chair) rfl
  have g_chair := He.glo_ok X G (d.fact 40 (f := .glo "chair") rfl)
  obtain ⟨fd_unlike_in, K_unlike_in⟩ := d.def_ 23 (d := d_unlike_in) rfl
  have g_unlike_in := He.glo_ok X G (d.fact 41 (f := .glo "unlike_in") rfl)
  obtain ⟨fd_is_own, K_is_own⟩ := d.def_ 24 (d := d_is_own) rfl
  have g_is_own := He.glo_ok X G (d.fact 42 (f := .glo "is_own") rfl)
  obtain ⟨fd_first_own, K_first_own⟩ := d.def_ 25 (d := d_first_own) rfl
  have g_first_own := He.glo_ok X G (d.fact 43 (f := .glo "first_own") rfl)
  obtain ⟨fd_law_chair, K_law_chair⟩ := d.def_ 26 (d := d_law_chair) rfl
  have g_law_chair := He.glo_ok X G (d.fact 44 (f := .glo "_law_chair") rfl)
  obtain ⟨fd_law_right, K_law_right⟩ := d.def_ 27 (d := d_law_right) rfl
  have g_law_right := He.glo_ok X G (d.fact 45 (f := .glo "_law_right") rfl)
  obtain ⟨fd_law_club, K_law_club⟩ := d.def_ 28 (d := d_law_club) rfl
  have g_law_club := He.glo_ok X G (d.fact 46 (f := .glo "_law_club") rfl)
  obtain ⟨fd_law, K_law⟩ := d.def_ 29 (d := d_law) rfl
  have g_law := He.glo_ok X G (d.fact 47 (f := .glo "law") rfl)
  have e := hfa.symm.trans g_law
  cases e
  have b := FunD.bindsA (ps := P_law) K_law fun _ _ _ _ _ _ us hl => match us, hl with | [_], _ => rfl
  refine ⟨fd_law, fun s v => b s [v] rfl, fun base _ _ => ?_⟩
  have o_law_dice := ok_law_dice (P := P) (w := w) (base := base) T  K_law_dice
  have h_law_dice_1 : FnD P w K mg base 1 "_law_dice" 1 [] F_law_dice := fnd_n K_law_dice g_law_dice (FunD.bindsN (ps := P_law_dice) K_law_dice fun _ _ _ _ _ _ us hl => match us, hl with | [_], _ => rfl) o_law_dice
  have o_law_draw := ok_law_draw (P := P) (w := w) (base := base) T  K_law_draw
  have h_law_draw_2 : FnD P w K mg base 1 "_law_draw" 2 [] F_law_draw := fnd_n K_law_draw g_law_draw (FunD.bindsN (ps := P_law_draw) K_law_draw fun _ _ _ _ _ _ us hl => match us, hl with | [_, _], _ => rfl) o_law_draw
  have o_law_power := ok_law_power (P := P) (w := w) (base := base) T  K_law_power
  have h_law_power_1 : FnD P w K mg base 1 "_law_power" 1 [] F_law_power := fnd_n K_law_power g_law_power (FunD.bindsN (ps := P_law_power) K_law_power fun _ _ _ _ _ _ us hl => match us, hl with | [_], _ => rfl) o_law_power
  have o_law_turned := ok_law_turned (P := P) (w := w) (base := base) T h_law_power_1 K_law_turned
  have h_law_turned_3 : FnD P w K mg base 2 "_law_turned" 3 [] F_law_turned := fnd_n K_law_turned g_law_turned (FunD.bindsN (ps := P_law_turned) K_law_turned fun _ _ _ _ _ _ us hl => match us, hl with | [_, _, _], _ => rfl) o_law_turned
  have o_law_switched := ok_law_switched (P := P) (w := w) (base := base) T h_law_draw_2 h_law_turned_3 K_law_switched
  have h_law_switched_4 : FnD P w K mg base 3 "_law_switched" 4 [] F_law_switched := fnd_n K_law_switched g_law_switched (FunD.bindsN (ps := P_law_switched) K_law_switched fun _ _ _ _ _ _ us hl => match us, hl with | [_, _, _, _], _ => rfl) o_law_switched
  have o_law_row_with := ok_law_row_with (P := P) (w := w) (base := base) T h_law_power_1 K_law_row_with
  have h_law_row_with_4 : FnD P w K mg base 2 "_law_row_with" 4 [] F_law_row_with := fnd_n K_law_row_with g_law_row_with (FunD.bindsN (ps := P_law_row_with) K_law_row_with fun _ _ _ _ _ _ us hl => match us, hl with | [_, _, _, _], _ => rfl) o_law_row_with
  have o_law_coupling := ok_law_coupling (P := P) (w := w) (base := base) T h_law_draw_2 h_law_power_1 h_law_row_with_4 h_law_switched_4 K_law_coupling g_law_coupling (FunD.bindsN (ps := P_law_coupling) K_law_coupling fun _ _ _ _ _ _ us hl => match us, hl with | [_, _], _ => rfl) 10
  have h_law_coupling_2 : FnD P w K mg base 13 "_law_coupling" 2 [] F_law_coupling := fnd_n K_law_coupling g_law_coupling (FunD.bindsN (ps := P_law_coupling) K_law_coupling fun _ _ _ _ _ _ us hl => match us, hl with | [_, _], _ => rfl) o_law_coupling
  have o_law_rows := ok_law_rows (P := P) (w := w) (base := base) T  K_law_rows
  have h_law_rows_1 : FnD P w K mg base 1 "_law_rows" 1 [] F_law_rows := fnd_n K_law_rows g_law_rows (FunD.bindsN (ps := P_law_rows) K_law_rows fun _ _ _ _ _ _ us hl => match us, hl with | [_], _ => rfl) o_law_rows
  have o_law_picks := ok_law_picks (P := P) (w := w) (base := base) T h_law_rows_1 h_law_draw_2 K_law_picks
  have h_law_picks_2 : FnD P w K mg base 2 "_law_picks" 2 [] F_law_picks := fnd_n K_law_picks g_law_picks (FunD.bindsN (ps := P_law_picks) K_law_picks fun _ _ _ _ _ _ us hl => match us, hl with | [_, _], _ => rfl) o_law_picks
  have o_law_great := ok_law_great (P := P) (w := w) (base := base) T h_law_draw_2 h_law_picks_2 h_law_coupling_2 K_law_great
  have h_law_great_1 : FnD P w K mg base 14 "_law_great" 1 [] F_law_great := fnd_n K_law_great g_law_great (FunD.bindsN (ps := P_law_great) K_law_great fun _ _ _ _ _ _ us hl => match us, hl with | [_], _ => rfl) o_law_great
  have o_law_first_own := ok_law_first_own (P := P) (w := w) (base := base) T h_law_rows_1 K_law_first_own
  have h_law_first_own_2 : FnD P w K mg base 2 "_law_first_own" 2 [] F_law_first_own := fnd_n K_law_first_own g_law_first_own (FunD.bindsN (ps := P_law_first_own) K_law_first_own fun _ _ _ _ _ _ us hl => match us, hl with | [_, _], _ => rfl) o_law_first_own
  have o_is_integer := ok_is_integer (P := P) (w := w) (base := base) T  K_is_integer
  have h_is_integer_1 : FnD P w K mg base 1 "is_integer" 1 [] F_is_integer := fnd_n K_is_integer g_is_integer (FunD.bindsN (ps := P_is_integer) K_is_integer fun _ _ _ _ _ _ us hl => match us, hl with | [_], _ => rfl) o_is_integer
  have o_is_within := ok_is_within (P := P) (w := w) (base := base) T h_is_integer_1 K_is_within
  have h_is_within_3 : FnD P w K mg base 2 "is_within" 3 [] F_is_within := fnd_n K_is_within g_is_within (FunD.bindsN (ps := P_is_within) K_is_within fun _ _ _ _ _ _ us hl => match us, hl with | [_, _, _], _ => rfl) o_is_within
  have o_is_many := ok_is_many (P := P) (w := w) (base := base) T h_is_within_3 K_is_many
  have h_is_many_1 : FnD P w K mg base 3 "is_many" 1 [] F_is_many := fnd_n K_is_many g_is_many (FunD.bindsN (ps := P_is_many) K_is_many fun _ _ _ _ _ _ us hl => match us, hl with | [_], _ => rfl) o_is_many
  have o_size_of := ok_size_of (P := P) (w := w) (base := base) T  K_size_of
  have h_size_of_1 : FnD P w K mg base 1 "size_of" 1 [] F_size_of := fnd_n K_size_of g_size_of (FunD.bindsN (ps := P_size_of) K_size_of fun _ _ _ _ _ _ us hl => match us, hl with | [_], _ => rfl) o_size_of
  have o_is_club := ok_is_club (P := P) (w := w) (base := base) T h_is_many_1 h_size_of_1 h_is_within_3 K_is_club
  have h_is_club_1 : FnD P w K mg base 4 "is_club" 1 [] F_is_club := fnd_n K_is_club g_is_club (FunD.bindsN (ps := P_is_club) K_is_club fun _ _ _ _ _ _ us hl => match us, hl with | [_], _ => rfl) o_is_club
  have o_check_club := ok_check_club (P := P) (w := w) (base := base) T h_is_club_1 K_check_club
  have h_check_club_1 : FnD P w K mg base 5 "check_club" 1 [] F_check_club := fnd_n K_check_club g_check_club (FunD.bindsN (ps := P_check_club) K_check_club fun _ _ _ _ _ _ us hl => match us, hl with | [_], _ => rfl) o_check_club
  have o_check_three := ok_check_three (P := P) (w := w) (base := base) T h_check_club_1 K_check_three
  have h_check_three_1 : FnD P w K mg base 6 "check_three" 1 [] F_check_three := fnd_n K_check_three g_check_three (FunD.bindsN (ps := P_check_three) K_check_three fun _ _ _ _ _ _ us hl => match us, hl with | [_], _ => rfl) o_check_three
  have o_is_table := ok_is_table (P := P) (w := w) (base := base) T  K_is_table
  have h_is_table_2 : FnD P w K mg base 1 "is_table" 2 [] F_is_table := fnd_n K_is_table g_is_table (FunD.bindsN (ps := P_is_table) K_is_table fun _ _ _ _ _ _ us hl => match us, hl with | [_, _], _ => rfl) o_is_table
  have o_check_picks := ok_check_picks (P := P) (w := w) (base := base) T h_is_within_3 h_is_table_2 h_size_of_1 K_check_picks
  have h_check_picks_2 : FnD P w K mg base 3 "check_picks" 2 [] F_check_picks := fnd_n K_check_picks g_check_picks (FunD.bindsN (ps := P_check_picks) K_check_picks fun _ _ _ _ _ _ us hl => match us, hl with | [_, _], _ => rfl) o_check_picks
  have o_slips_of := ok_slips_of (P := P) (w := w) (base := base) T  K_slips_of
  have h_slips_of_2 : FnD P w K mg base 1 "slips_of" 2 [] F_slips_of := fnd_n K_slips_of g_slips_of (FunD.bindsN (ps := P_slips_of) K_slips_of fun _ _ _ _ _ _ us hl => match us, hl with | [_, _], _ => rfl) o_slips_of
  have o_named_by := ok_named_by (P := P) (w := w) (base := base) T h_slips_of_2 K_named_by
  have h_named_by_3 : FnD P w K mg base 2 "named_by" 3 [] F_named_by := fnd_n K_named_by g_named_by (FunD.bindsN (ps := P_named_by) K_named_by fun _ _ _ _ _ _ us hl => match us, hl with | [_, _, _], _ => rfl) o_named_by
  have o_chair := ok_chair (P := P) (w := w) (base := base) T h_check_three_1 h_check_picks_2 h_named_by_3 K_chair
  have h_chair_2 : FnD P w K mg base 7 "chair" 2 [] F_chair := fnd_n K_chair g_chair (FunD.bindsN (ps := P_chair) K_chair fun _ _ _ _ _ _ us hl => match us, hl with | [_, _], _ => rfl) o_chair
  have o_unlike_in := ok_unlike_in (P := P) (w := w) (base := base) T h_slips_of_2 K_unlike_in
  have h_unlike_in_3 : FnD P w K mg base 2 "unlike_in" 3 [] F_unlike_in := fnd_n K_unlike_in g_unlike_in (FunD.bindsN (ps := P_unlike_in) K_unlike_in fun _ _ _ _ _ _ us hl => match us, hl with | [_, _, _], _ => rfl) o_unlike_in
  have o_is_own := ok_is_own (P := P) (w := w) (base := base) T h_unlike_in_3 K_is_own
  have h_is_own_4 : FnD P w K mg base 3 "is_own" 4 [] F_is_own := fnd_n K_is_own g_is_own (FunD.bindsN (ps := P_is_own) K_is_own fun _ _ _ _ _ _ us hl => match us, hl with | [_, _, _, _], _ => rfl) o_is_own
  have o_first_own := ok_first_own (P := P) (w := w) (base := base) T h_check_club_1 h_check_picks_2 h_is_own_4 h_unlike_in_3 K_first_own
  have h_first_own_2 : FnD P w K mg base 6 "first_own" 2 [] F_first_own := fnd_n K_first_own g_first_own (FunD.bindsN (ps := P_first_own) K_first_own fun _ _ _ _ _ _ us hl => match us, hl with | [_, _], _ => rfl) o_first_own
  have o_law_chair := ok_law_chair (P := P) (w := w) (base := base) T h_law_rows_1 K_law_chair
  have h_law_chair_2 : FnD P w K mg base 2 "_law_chair" 2 [] F_law_chair := fnd_n K_law_chair g_law_chair (FunD.bindsN (ps := P_law_chair) K_law_chair fun _ _ _ _ _ _ us hl => match us, hl with | [_, _], _ => rfl) o_law_chair
  have o_law_right := ok_law_right (P := P) (w := w) (base := base) T h_law_first_own_2 h_first_own_2 h_chair_2 h_law_chair_2 K_law_right
  have h_law_right_2 : FnD P w K mg base 8 "_law_right" 2 [] F_law_right := fnd_n K_law_right g_law_right (FunD.bindsN (ps := P_law_right) K_law_right fun _ _ _ _ _ _ us hl => match us, hl with | [_, _], _ => rfl) o_law_right
  have o_law_club := ok_law_club (P := P) (w := w) (base := base) T h_law_draw_2 K_law_club
  have h_law_club_2 : FnD P w K mg base 2 "_law_club" 2 [] F_law_club := fnd_n K_law_club g_law_club (FunD.bindsN (ps := P_law_club) K_law_club fun _ _ _ _ _ _ us hl => match us, hl with | [_, _], _ => rfl) o_law_club
  exact ok_law T h_law_dice_1 h_law_draw_2 h_law_great_1 h_law_right_2 h_law_club_2 h_law_picks_2 K_law
def loose0 : List Str := ["CauseError", "NoClub", "NoPicks", "MOST_MEMBERS", "is_integer", "is_within", "is_table", "is_many", "MOST_SORTS", "MOST_ROWS", "size_of", "is_club", "check_club", "slips_of", "unlike_in", "CHAIRED", "check_picks", "is_own", "first_own", "check_three", "named_by", "chair", "_law_dice", "_law_draw", "_law_power", "_law_turned", "_law_switched", "_law_row_with", "_law_coupling", "_law_rows"]
def loose1 : List Str := ["_law_first_own", "_law_club", "_law_picks", "_law_chair", "_law_right", "_law_great"]
def loose : List Str := loose0 ++ loose1
abbrev R : PySem.W.OpenRow := PySem.W.OpenLaw.row PySem.Challenge.rw_owncause_k51_whole_chairs
abbrev hk : PySem.W.Hook := hookE 4 fal fnl exl
def ob (s : PySem.W.SharedT) : AlE := obsEG 4 fal fnl exl (HandSHeadRun.getT s)
theorem ob_eq (s : PySem.W.SharedT) : ob s = hk.obs s.abs := obsEG_eq (HandSHeadRun.getT_eq s)
theorem run (w : World) : HandSHeadRun.RunEq R (PySem.W.view R.prog [41]) hk ob 4000 loose w := by
  intro os
  kernel_rfl
end Lk51
end

set_option Elab.async false
set_option linter.all false
set_option maxRecDepth 100000
set_option maxHeartbeats 1000000
set_option exponentiation.threshold 9000
namespace Lk51
open PySem PySem.Spec L2 DL
abbrev S5 (cs : List Int) (i big mix cnt : Int) : D := .lst true [.lst false (cs.map .int), .int i, .int big, .int mix, .int cnt]
def Dice (B : Int) (d : D) : Prop := ∃ (cs : List Int) (i big mix cnt : Int), d = S5 cs i big mix cnt ∧ (∀ c ∈ cs, 0 ≤ c) ∧ cs.length ≤ 63 ∧ 0 ≤ i ∧ i ≤ 63 ∧ 0 ≤ big ∧ 0 ≤ mix ∧ mix < 2 ^ 31 ∧ 0 ≤ cnt ∧ cnt ≤ B
abbrev dE (cs : List Int) (i big mix cnt m : Int) (x2 x3 x4 : Option D) : DL.Env := [some (S5 cs i big mix cnt), some (.int m), x2, x3, x4]
def dr1 : SF := (sIf (tBor (mAnd (eB (e2 eqD (e2 ixD (eVar 0) (eC (.int 2))) (eC (.int 0)))) (eB (e2 ltD (e2 ixD (eVar 0) (eC (.int 1))) (eBi lenD (aCons (e2 ixD (eVar 0) (eC (.int 0))) aNil)))))) (sSeq (sAsg (eFrz (e2 ixD (eVix 0 (eC (.int 0))) (eVix 0 (eC (.int 1))))) (gSet 3))
  (sSeq (sAsg (eFrz (eBor (e2 addD (e2 ixD (eVar 0) (eC (.int 1))) (eC (.int 1))))) (gItem 0 (eC (.int 1))))
  (sIf (eB (e2 geD (eVar 3) (e2 powD (eC (.int 10)) (eC (.int 18))))) (sAsg (eFrz (eVar 3)) (gItem 0 (eC (.int 2)))) (sAsg (eBor (e2 modD (eBi intD (aCons (e2 addD (e2 addD (e2 mulD (e2 ixD (eVar 0) (eC (.int 3))) (eC (.int 69621))) (e2 mulD (eVar 3) (eC (.int 40692)))) (e2 ixD (eVar 0) (eC (.int 1)))) aNil)) (eC (.int 2147483647)))) (gItem 0 (eC (.int 3))))))) sNext)
theorem dr1_ok {cs : List Int} {i big mix cnt : Int} (m : Int) (h0 : ∀ c ∈ cs, 0 ≤ c) (hl : cs.length ≤ 63) (hi : 0 ≤ i ∧ i ≤ 63) (hb : 0 ≤ big) (hm : 0 ≤ mix ∧ mix < 2 ^ 31) :
    ∃ i' big' mix' x3, dr1 (dE cs i big mix cnt m none none none) = .nx (dE cs i' big' mix' cnt m none x3 none) ∧ 0 ≤ i' ∧ i' ≤ 63 ∧ 0 ≤ big' ∧ 0 ≤ mix' ∧ mix' < 2 ^ 31 := by
  let ρf : DL.Env := [some (.lst false [.lst false (frzL (cs.map .int)), .int i, .int big, .int mix, .int cnt]), some (.int m), none, none, none]
  have gx : e2 ixD (eVar 0) (eC (.int 2)) ρf = .ok (.int big) ρf := rfl
  have gy : e2 ixD (eVar 0) (eC (.int 1)) ρf = .ok (.int i) ρf := rfl
  have hE : e2 eqD (e2 ixD (eVar 0) (eC (.int 2))) (eC (.int 0)) ρf = .ok (.bl (decide (big = 0))) ρf := eqi_ok (i := big) (j := 0) gx rfl rfl
  have hn : eBi lenD (aCons (e2 ixD (eVar 0) (eC (.int 0))) aNil) ρf = .ok (.int cs.length) ρf := eBi_ok (ds := [.lst false (frzL (cs.map .int))]) (aCons_ok (e2_ok rfl rfl rfl) rfl) (by rw [len_lst, frzL_ints, List.length_map])
  have hL : e2 ltD (e2 ixD (eVar 0) (eC (.int 1))) (eBi lenD (aCons (e2 ixD (eVar 0) (eC (.int 0))) aNil)) ρf = .ok (.bl (decide (i < cs.length))) ρf := lt_ok (i := i) (j := cs.length) gy hn rfl
  by_cases c : big = 0 ∧ i < cs.length
  · have ht : tBor (mAnd (eB (e2 eqD (e2 ixD (eVar 0) (eC (.int 2))) (eC (.int 0)))) (eB (e2 ltD (e2 ixD (eVar 0) (eC (.int 1))) (eBi lenD (aCons (e2 ixD (eVar 0) (eC (.int 0))) aNil))))) (dE cs i big mix cnt m none none none) = .ok true (dE cs i big mix cnt m none none none) := by
      rw [decide_eq_true c.1] at hE
      rw [decide_eq_true c.2] at hL
      exact tBor_ok (ρ1 := ρf) (mAnd_t (eB_ok hE) (eB_ok hL))
    obtain ⟨n, rfl⟩ : ∃ n : Nat, i = n := ⟨i.toNat, by omega⟩
    have hn : n < cs.length := by omega
    obtain ⟨cell, hcell⟩ : ∃ z, z = cs[n] := ⟨_, rfl⟩
    have hc0 : 0 ≤ cell := by rw [hcell]; exact h0 _ (List.getElem_mem hn)
    have hix : ixD (.lst false (cs.map .int)) (.int n) = some (.int cell) := ix_l (by rw [List.getElem?_map, List.getElem?_eq_getElem hn, hcell]; rfl)
    have hget : eFrz (e2 ixD (eVix 0 (eC (.int 0))) (eVix 0 (eC (.int 1)))) (dE cs n big mix cnt m none none none) = .ok (.int cell) (dE cs n big mix cnt m none none none) := eFrz_int (ix_int (x := .lst false (cs.map .int)) (y := .int n) rfl rfl hix)
    have s1 : ∀ R : SF, sSeq (sAsg (eFrz (e2 ixD (eVix 0 (eC (.int 0))) (eVix 0 (eC (.int 1))))) (gSet 3)) R (dE cs n big mix cnt m none none none) = R (dE cs n big mix cnt m none (some (.int cell)) none) := fun R => seq_nx (sAsg_ok hget rfl)
    have s2 : ∀ R : SF, sSeq (sAsg (eFrz (eBor (e2 addD (e2 ixD (eVar 0) (eC (.int 1))) (eC (.int 1))))) (gItem 0 (eC (.int 1)))) R (dE cs n big mix cnt m none (some (.int cell)) none) = R (dE cs (n + 1) big mix cnt m none (some (.int cell)) none) := fun R => seq_nx (sAsg_ok (eFrz_int (eBor_int (add_ok (ix_int rfl rfl rfl) rfl))) rfl)
    have hp : powD (.int 10) (.int 18) = some (.int 1000000000000000000) := by kernel_rfl
    have hge : ∀ b, decide (1000000000000000000 ≤ cell) = b → eB (e2 geD (eVar 3) (e2 powD (eC (.int 10)) (eC (.int 18)))) (dE cs (n + 1) big mix cnt m none (some (.int cell)) none) = .ok b (dE cs (n + 1) big mix cnt m none (some (.int cell)) none) := fun b hb => eB_ok (ge_ok rfl (e2_ok rfl rfl hp) hb)
    by_cases c2 : 1000000000000000000 ≤ cell
    · refine ⟨n + 1, cell, mix, some (.int cell), ?_, by omega, by omega, hc0, hm.1, hm.2⟩
      unfold dr1
      refine (sIf_t ht).trans ?_
      rw [s1, s2]
      refine (sIf_t (hge true (decide_eq_true c2))).trans ?_
      exact sAsg_ok rfl rfl
    · have m1 : mulD (.int mix) (.int 69621) = some (.int (mix * 69621)) := mulD_ok2 (by omega) (by omega)
      have m2 : mulD (.int cell) (.int 40692) = some (.int (cell * 40692)) := mulD_ok2 (by omega) (by omega)
      obtain ⟨y, hy⟩ : ∃ y, y = (mix * 69621 + cell * 40692 + ((n : Int) + 1)) % 2147483647 := ⟨_, rfl⟩
      have hy2 : 0 ≤ y ∧ y < 2147483647 := by subst hy; exact ⟨Int.emod_nonneg _ (by omega), Int.emod_lt_of_pos _ (by omega)⟩
      have q1 : modD (.int (mix * 69621 + cell * 40692 + ((n : Int) + 1))) (.int 2147483647) = some (.int y) := by rw [hy]; exact modD_ok (by omega)
      refine ⟨n + 1, big, y, some (.int cell), ?_, by omega, by omega, hb, hy2.1, by omega⟩
      unfold dr1
      refine (sIf_t ht).trans ?_
      rw [s1, s2]
      refine (sIf_f (hge false (decide_eq_false c2))).trans ?_
      refine sAsg_ok (d := .int y) (ρ1 := dE cs (n + 1) big mix cnt m none (some (.int cell)) none) ?_ rfl
      exact eBor_int (mod_ok (int_ok (aCons_ok (add_ok (add_ok (mul_ok (ix_int rfl rfl rfl) rfl m1) (mul_ok rfl rfl m2)) (ix_int rfl rfl rfl)) rfl)) rfl q1)
  · refine ⟨i, big, mix, none, ?_, hi.1, hi.2, hb, hm.1, hm.2⟩
    have ht : tBor (mAnd (eB (e2 eqD (e2 ixD (eVar 0) (eC (.int 2))) (eC (.int 0)))) (eB (e2 ltD (e2 ixD (eVar 0) (eC (.int 1))) (eBi lenD (aCons (e2 ixD (eVar 0) (eC (.int 0))) aNil))))) (dE cs i big mix cnt m none none none) = .ok false (dE cs i big mix cnt m none none none) := by
      by_cases c1 : big = 0
      · have c2 : ¬ i < cs.length := fun z => c ⟨c1, z⟩
        rw [decide_eq_true c1] at hE
        rw [decide_eq_false c2] at hL
        exact tBor_ok (ρ1 := ρf) (mAnd_t (eB_ok hE) (eB_ok hL))
      · rw [decide_eq_false c1] at hE
        exact tBor_ok (ρ1 := ρf) (mAnd_f (eB_ok hE))
    exact (sIf_f (G := sNext) ht).trans rfl
theorem draw_ok {B m : Int} {s : D} (hs : Dice B s) (hB : B < 2 ^ 40) (hm : 0 < m) (hm2 : m < 2 ^ 60) : ∃ r s', F_law_draw [s, .int m] = .ok (.int r) [some s', none] ∧ 0 ≤ r ∧ r < m ∧ Dice (B + 1) s' := by
  obtain ⟨cs, i, big, mix, cnt, rfl, h0, hl, i0, i1, b0, m0, m1, c0, c1⟩ := hs
  obtain ⟨i', big', mix', x3, e1, i0', i1', b0', m0', m1'⟩ := dr1_ok (cnt := cnt) m h0 hl ⟨i0, i1⟩ b0 ⟨m0, m1⟩
  have gx : e2 ixD (eVar 0) (eC (.int 2)) ((dE cs i' big' mix' cnt m none x3 none).map (Option.map frz)) = .ok (.int big') ((dE cs i' big' mix' cnt m none x3 none).map (Option.map frz)) := rfl
  have hgt : ∀ b, decide (0 < big') = b → tBor (eB (e2 gtD (e2 ixD (eVar 0) (eC (.int 2))) (eC (.int 0)))) (dE cs i' big' mix' cnt m none x3 none) = .ok b (dE cs i' big' mix' cnt m none x3 none) := fun b hb => tBor_ok (eB_ok (gt_ok (i := big') (j := 0) gx rfl hb))
  by_cases c : 0 < big'
  · have q1 : modD (.int big') (.int m) = some (.int (big' % m)) := modD_ok hm
    have q2 : fdivD (.int big') (.int m) = some (.int (big' / m)) := fdivD_ok hm (by omega)
    refine ⟨big' % m, S5 cs i' (big' / m) mix' cnt, run_ok (b := b_law_draw) (ρ := dE cs i' (big' / m) mix' cnt m none x3 (some (.int (big' % m)))) (ρ0 := dE cs i big mix cnt m none none none) ?_ rfl (by simp) rfl, Int.emod_nonneg _ (by omega), Int.emod_lt_of_pos _ hm, cs, i', big' / m, mix', cnt, rfl, h0, hl, i0', i1', Int.ediv_nonneg b0' (by omega), m0', m1', c0, by omega⟩
    unfold b_law_draw
    refine Eq.trans (seq_nx e1) ?_
    refine seq_ret ((sIf_t (hgt true (decide_eq_true c))).trans ?_)
    refine Eq.trans (seq_nx (ρ1 := dE cs i' big' mix' cnt m none x3 (some (.int (big' % m)))) (sAsg_ok (eBor_int (mod_ok (int_ok (aCons_ok (ix_int rfl rfl rfl) rfl)) rfl q1)) rfl)) ?_
    refine Eq.trans (seq_nx (ρ1 := dE cs i' (big' / m) mix' cnt m none x3 (some (.int (big' % m)))) (sAsg_ok (eBor_int (fdiv_ok (int_ok (aCons_ok (ix_int rfl rfl rfl) rfl)) rfl q2)) rfl)) ?_
    exact sRet_ok rfl
  · have h1 : mulD (.int mix') (.int 48271) = some (.int (mix' * 48271)) := mulD_ok2 (by omega) (by omega)
    have h2 : mulD (.int (cnt + 1)) (.int 7919) = some (.int ((cnt + 1) * 7919)) := mulD_ok2 (by omega) (by omega)
    obtain ⟨x, hx⟩ : ∃ x, x = (mix' * 48271 + (cnt + 1) * 7919 + 1) % 2147483647 := ⟨_, rfl⟩
    have hx2 : 0 ≤ x ∧ x < 2147483647 := by subst hx; exact ⟨Int.emod_nonneg _ (by omega), Int.emod_lt_of_pos _ (by omega)⟩
    have q1 : modD (.int (mix' * 48271 + (cnt + 1) * 7919 + 1)) (.int 2147483647) = some (.int x) := by rw [hx]; exact modD_ok (by omega)
    have g1 : fdivD (.int x) (.int 1009) = some (.int (x / 1009)) := fdivD_ok (by omega) (by omega)
    have h3 : mulD (.int x) (.int (x / 1009 + 69623)) = some (.int (x * (x / 1009 + 69623))) := mulD_ok2 (by omega) (by omega)
    obtain ⟨y, hy⟩ : ∃ y, y = x * (x / 1009 + 69623) % 2147483399 := ⟨_, rfl⟩
    have hy2 : 0 ≤ y ∧ y < 2147483399 := by subst hy; exact ⟨Int.emod_nonneg _ (by omega), Int.emod_lt_of_pos _ (by omega)⟩
    have q2 : modD (.int (x * (x / 1009 + 69623))) (.int 2147483399) = some (.int y) := by rw [hy]; exact modD_ok (by omega)
    have g2 : fdivD (.int y) (.int 2003) = some (.int (y / 2003)) := fdivD_ok (by omega) (by omega)
    have h4 : mulD (.int y) (.int (y / 2003 + 40693)) = some (.int (y * (y / 2003 + 40693))) := mulD_ok2 (by omega) (by omega)
    obtain ⟨z, hz⟩ : ∃ z, z = y * (y / 2003 + 40693) % 2147483563 := ⟨_, rfl⟩
    have hz2 : 0 ≤ z ∧ z < 2147483563 := by subst hz; exact ⟨Int.emod_nonneg _ (by omega), Int.emod_lt_of_pos _ (by omega)⟩
    have q3 : modD (.int (y * (y / 2003 + 40693))) (.int 2147483563) = some (.int z) := by rw [hz]; exact modD_ok (by omega)
    have g3 : fdivD (.int z) (.int 16) = some (.int (z / 16)) := fdivD_ok (by omega) (by omega)
    have q4 : modD (.int (z / 16)) (.int m) = some (.int (z / 16 % m)) := modD_ok hm
    refine ⟨z / 16 % m, S5 cs i' big' x (cnt + 1), run_ok (b := b_law_draw) (ρ := dE cs i' big' x (cnt + 1) m (some (.int z)) x3 none) (ρ0 := dE cs i big mix cnt m none none none) ?_ rfl (by simp) rfl, Int.emod_nonneg _ (by omega), Int.emod_lt_of_pos _ hm, cs, i', big', x, cnt + 1, rfl, h0, hl, i0', i1', b0', hx2.1, by omega, by omega, by omega⟩
    unfold b_law_draw
    refine Eq.trans (seq_nx e1) ?_
    refine Eq.trans (seq_nx (ρ1 := dE cs i' big' mix' cnt m none x3 none) ((sIf_f (G := sNext) (hgt false (decide_eq_false c))).trans rfl)) ?_
    refine Eq.trans (seq_nx (ρ1 := dE cs i' big' mix' (cnt + 1) m none x3 none) (sAsg_ok (eFrz_int (eBor_int (add_ok (ix_int rfl rfl rfl) rfl))) rfl)) ?_
    refine Eq.trans (seq_nx (ρ1 := dE cs i' big' x (cnt + 1) m none x3 none) (sAsg_ok (eBor_int (mod_ok (int_ok (aCons_ok (add_ok (add_ok (mul_ok (ix_int rfl rfl rfl) rfl h1) (mul_ok (ix_int rfl rfl rfl) rfl h2)) rfl) rfl)) rfl q1)) rfl)) ?_
    refine Eq.trans (seq_nx (ρ1 := dE cs i' big' x (cnt + 1) m (some (.int y)) x3 none) (sAsg_ok (eBor_int (mod_ok (int_ok (aCons_ok (mul_ok (ix_int rfl rfl rfl) (add_ok (fdiv_ok (ix_int rfl rfl rfl) rfl g1) rfl) h3) rfl)) rfl q2)) rfl)) ?_
    refine Eq.trans (seq_nx (ρ1 := dE cs i' big' x (cnt + 1) m (some (.int z)) x3 none) (sAsg_ok (mod_ok (int_ok (aCons_ok (mul_ok rfl (add_ok (fdiv_ok rfl rfl g2) rfl) h4) rfl)) rfl q3) rfl)) ?_
    exact sRet_ok (mod_ok (int_ok (aCons_ok (fdiv_ok rfl rfl g3) rfl)) rfl q4)
theorem drw {B m : Int} {s : D} {i : Nat} {ρ : DL.Env} {f : M D} (hs : Dice B s) (hi : ρ[i]? = some (some s)) (hf : f (ρ.set i none) = .ok (.int m) (ρ.set i none)) (hB : B < 2 ^ 40) (hm : 0 < m) (hm2 : m < 2 ^ 60) : ∃ r s', eCall F_law_draw (aCons (eMove i) (aCons f aNil)) [] [(0, i)] ρ = .ok (.int r) (ρ.set i (some s')) ∧ 0 ≤ r ∧ r < m ∧ Dice (B + 1) s' := by
  obtain ⟨r, s', e, h⟩ := draw_ok hs hB hm hm2
  have hmv : eMove i ρ = .ok s (ρ.set i none) := by unfold eMove; rw [hi]
  exact ⟨r, s', eCall_of (aCons_ok hmv (aCons_ok hf rfl)) rfl e (by show (ρ.set i none).set i (some s') = _; rw [List.set_set]), h⟩
theorem dice_ok {ns : List Int} (hl : ns.length ≤ 63) : ∃ s, F_law_dice [.scr ns] = .ok s [none] ∧ Dice 0 s := by
  refine ⟨S5 (ns.map fun c => if c < 0 then -c else c) 0 0 1 0, run_ok (b := b_law_dice) (ρ := [some (.scr ns), none]) (ρ0 := [some (.scr ns), none]) ?_ rfl (by simp) rfl, _, _, _, _, _, rfl, ?_, by simpa using hl, by omega, by omega, by omega, by omega, by omega, by omega, by omega⟩
  · unfold b_law_dice
    have hc : cutD (ns.map D.int) none (some 63) = ns.map D.int := by
      unfold cutD
      have e1 : HT.sIx (ns.map D.int).length 0 none = 0 := rfl
      have e2 : HT.sIx (ns.map D.int).length (ns.map D.int).length (some 63) = (ns.map D.int).length := by
        rw [List.length_map]
        simp [HT.sIx]
        omega
      rw [e1, e2, List.drop_zero, Nat.sub_zero, List.take_length]
    have hs : eSl (eVar 0) pNone (pSome (eC (.int 63))) [some (.scr ns), none] = .ok (.lst true (ns.map D.int)) [some (.scr ns), none] := by
      show Res.ok (D.lst true (cutD (ns.map D.int) none (some 63))) _ = _
      rw [hc]
    let y : D → D := fun d => match d with | .int c => .int (if c < 0 then -c else c) | d => d
    have hlc : eLcL 2 (iSeq (eSl (eVar 0) pNone (pSome (eC (.int 63))))) (gSet 1) mYes (eBi absD (aCons (eBi intD (aCons (eVar 1) aNil)) aNil)) [1] [some (.scr ns), none] = .ok (.lst true ((ns.map D.int).map y)) [some (.scr ns), none] := by
      refine lc_map1 (i := 1) (ρ1 := [some (.scr ns), none]) (iSeq_ok hs (by show some (frzL (ns.map D.int)) = _; rw [frzL_ints])) (by rw [List.length_map]; omega) rfl rfl (by decide) ?_
      intro d hd
      obtain ⟨c, _, rfl⟩ := List.mem_map.mp hd
      rfl
    refine sRet_ok (eLst_ok (ds := [.lst false ((ns.map fun c => if c < 0 then -c else c).map D.int), .int 0, .int 0, .int 1, .int 0]) (aCons_ok ((eFrz_ok hlc).trans ?_) (aCons_ok rfl (aCons_ok rfl (aCons_ok rfl (aCons_ok rfl rfl))))) (by simp))
    have e : (ns.map D.int).map y = (ns.map fun c => if c < 0 then -c else c).map D.int := by rw [List.map_map, List.map_map]; rfl
    rw [e]
    show Res.ok (D.lst false (frzL _)) _ = _
    rw [frzL_ints]
  · intro c hc
    obtain ⟨a, _, rfl⟩ := List.mem_map.mp hc
    split <;> omega
end Lk51

set_option Elab.async false
set_option linter.all false
set_option maxRecDepth 100000
set_option maxHeartbeats 1000000
namespace Lk51
open PySem PySem.Spec L2 DL
abbrev T (l : List Int) : D := .tup (l.map .int)
theorem isint_ok (i : Int) : F_is_integer [.int i] = .ok (.bl true) [none] := by kernel_rfl
theorem within_ok (i a b : Int) : F_is_within [.int i, .int a, .int b] = .ok (.bl (decide (a ≤ i ∧ i ≤ b))) [none, none, none] := by
  have v0 : eVar 0 [some (.int i), some (.int a), some (.int b)] = .ok (.int i) [some (.int i), some (.int a), some (.int b)] := rfl
  have v1 : eVar 1 [some (.int i), some (.int a), some (.int b)] = .ok (.int a) [some (.int i), some (.int a), some (.int b)] := rfl
  have v2 : eVar 2 [some (.int i), some (.int a), some (.int b)] = .ok (.int b) [some (.int i), some (.int a), some (.int b)] := rfl
  have hc : eCall F_is_integer (aCons (eVar 0) aNil) [] [] [some (.int i), some (.int a), some (.int b)] = .ok (.bl true) [some (.int i), some (.int a), some (.int b)] := eCall_of (aCons_ok v0 rfl) rfl (isint_ok i) rfl
  refine run_ok (b := b_is_within) (ρ := [some (.int i), some (.int a), some (.int b)]) (ρ0 := [some (.int i), some (.int a), some (.int b)]) ?_ rfl (by simp) rfl
  unfold b_is_within
  exact sRet_ok (eAnd_t hc (chain_ok (l := 0) v1 v0 v2 rfl rfl))
theorem mem_T {l : List Int} {d : D} (h : d ∈ l.map D.int) : ∃ i, i ∈ l ∧ d = .int i := by
  obtain ⟨i, h1, h2⟩ := List.mem_map.mp h
  exact ⟨i, h1, h2.symm⟩
theorem prod_le : ∀ (l : List Int) (a : Int), (∀ x ∈ l, 1 ≤ x) → 0 ≤ a → a ≤ l.foldl (· * ·) a
  | [], a, _, _ => Int.le_refl a
  | x :: l, a, h, ha => by
    have hx := h x List.mem_cons_self
    have h1 : a ≤ a * x := by
      have := Int.mul_le_mul_of_nonneg_left hx ha
      omega
    exact Int.le_trans h1 (prod_le l (a * x) (fun y hy => h y (List.mem_cons_of_mem _ hy)) (Int.le_trans ha h1))
/-- size_of -/
theorem size_loop (c : D) : ∀ (l : List Int) (a : Int) (x : Option D), (∀ x ∈ l, 1 ≤ x ∧ x ≤ 4) → 1 ≤ a → l.foldl (· * ·) a ≤ 2 ^ 40 →
    ∃ y, forGo (gSet 2) (sAug 1 mulI (eVar 2)) (l.map D.int) [some c, some (.int a), x] = .nx [some c, some (.int (l.foldl (· * ·) a)), y]
  | [], a, x, _, _, _ => ⟨x, rfl⟩
  | s :: l, a, x, h, ha, hb => by
    have hs := h s List.mem_cons_self
    have h1 : a ≤ a * s := by
      have := Int.mul_le_mul_of_nonneg_left hs.1 (show (0:Int) ≤ a by omega)
      omega
    have h2 : a * s ≤ 2 ^ 40 := Int.le_trans (prod_le l (a * s) (fun y hy => (h y (List.mem_cons_of_mem _ hy)).1) (by omega)) hb
    obtain ⟨y, ih⟩ := size_loop c l (a * s) (some (.int s)) (fun y hy => h y (List.mem_cons_of_mem _ hy)) (by omega) hb
    refine ⟨y, ?_⟩
    have hm : mulI (.int a) (.int s) = some (.int (a * s)) := by
      have hx : CMulX a s := mulx_ok (a := 80) (b := 80) (by omega) (by omega) (by decide)
      simp [mulI, ii, hx]
    have hb1 : sAug 1 mulI (eVar 2) [some c, some (.int a), some (.int s)] = .nx [some c, some (.int (a * s)), some (.int s)] := by
      unfold sAug
      show sE (eVar 2) _ _ = _
      rw [sE_of (show eVar 2 [some c, some (.int a), some (.int s)] = .ok (.int s) [some c, some (.int a), some (.int s)] from rfl), hm]
      rfl
    show forGo (gSet 2) (sAug 1 mulI (eVar 2)) (.int s :: l.map D.int) _ = _
    unfold forGo
    show (match sAug 1 mulI (eVar 2) [some c, some (.int a), some (.int s)] with | .nx ρ' => forGo (gSet 2) (sAug 1 mulI (eVar 2)) (l.map D.int) ρ' | .cnt ρ' => forGo (gSet 2) (sAug 1 mulI (eVar 2)) (l.map D.int) ρ' | .brk ρ' => .nx ρ' | r => r) = _
    rw [hb1]
    exact ih
theorem size_ok {l : List Int} (h : ∀ x ∈ l, 1 ≤ x ∧ x ≤ 4) (hb : l.foldl (· * ·) 1 ≤ 2 ^ 40) : F_size_of [T l] = .ok (.int (l.foldl (· * ·) 1)) [none] := by
  obtain ⟨y, e⟩ := size_loop (T l) l 1 none h (by omega) hb
  refine run_ok (b := b_size_of) (ρ := [some (T l), some (.int (l.foldl (· * ·) 1)), y]) (ρ0 := [some (T l), none, none]) ?_ rfl (by simp) rfl
  unfold b_size_of
  refine Eq.trans (seq_nx (ρ1 := [some (T l), some (.int 1), none]) (by exact sAsg_ok rfl rfl)) ?_
  refine Eq.trans (seq_nx (ρ1 := [some (T l), some (.int (l.foldl (· * ·) 1)), y]) ?_) ?_
  · unfold sFor
    rw [sE_of (iSeq_ok (ds := l.map D.int) (show eVar 0 [some (T l), some (.int 1), none] = .ok (T l) [some (T l), some (.int 1), none] from rfl) rfl)]
    exact e
  · exact sRet_ok rfl
/-- the slips of a number, the last member's first -/
def slipsR : List Int → Int → List Int
  | [], _ => []
  | s :: r, n => n % s :: slipsR r (n / s)
theorem slipsR_len : ∀ (r : List Int) (n : Int), (slipsR r n).length = r.length
  | [], _ => rfl
  | s :: r, n => by show (slipsR r (n / s)).length + 1 = _; rw [slipsR_len r]; rfl
theorem slips_loop (c : D) : ∀ (r : List Int) (n : Int) (acc : List Int) (x : Option D), (∀ s ∈ r, 1 ≤ s ∧ s ≤ 4) → acc.length + r.length ≤ 1000 →
    ∃ n' y, forGo (gSet 3) (sSeq (sDrop (eApp 2 (e2 modD (eVar 1) (eVar 3)))) (sAsg (e2 fdivD (eVar 1) (eVar 3)) (gSet 1))) (r.map D.int) [some c, some (.int n), some (.lst true (acc.map D.int)), x] = .nx [some c, some (.int n'), some (.lst true ((acc ++ slipsR r n).map D.int)), y]
  | [], n, acc, x, _, _ => ⟨n, x, by rw [show slipsR [] n = [] from rfl, List.append_nil]; rfl⟩
  | s :: r, n, acc, x, h, hb => by
    have hs := h s List.mem_cons_self
    obtain ⟨n', y, ih⟩ := slips_loop c r (n / s) (acc ++ [n % s]) (some (.int s)) (fun y hy => h y (List.mem_cons_of_mem _ hy)) (by simp at hb ⊢; omega)
    refine ⟨n', y, ?_⟩
    have m1 : modD (.int n) (.int s) = some (.int (n % s)) := modD_ok (by omega)
    have m2 : fdivD (.int n) (.int s) = some (.int (n / s)) := fdivD_ok (by omega) (by omega)
    have hm : e2 modD (eVar 1) (eVar 3) [some c, some (.int n), some (.lst true (acc.map D.int)), some (.int s)] = .ok (.int (n % s)) [some c, some (.int n), some (.lst true (acc.map D.int)), some (.int s)] := mod_ok (i := n) (j := s) rfl rfl m1
    have ha : eApp 2 (e2 modD (eVar 1) (eVar 3)) [some c, some (.int n), some (.lst true (acc.map D.int)), some (.int s)] = .ok .non [some c, some (.int n), some (.lst true ((acc ++ [n % s]).map D.int)), some (.int s)] := by
      unfold eApp
      show mbind (e2 modD (eVar 1) (eVar 3)) _ _ = _
      rw [mbind_of hm]
      show (if (acc.map D.int).length < sizeLine then Res.ok D.non [some c, some (.int n), some (.lst true (acc.map D.int ++ [.int (n % s)])), some (.int s)] else .stuck) = _
      rw [if_pos (by rw [List.length_map, sizeLine_eq]; simp at hb; omega), List.map_append]
      rfl
    have hd : e2 fdivD (eVar 1) (eVar 3) [some c, some (.int n), some (.lst true ((acc ++ [n % s]).map D.int)), some (.int s)] = .ok (.int (n / s)) [some c, some (.int n), some (.lst true ((acc ++ [n % s]).map D.int)), some (.int s)] := fdiv_ok (i := n) (j := s) rfl rfl m2
    have hbdy : (sSeq (sDrop (eApp 2 (e2 modD (eVar 1) (eVar 3)))) (sAsg (e2 fdivD (eVar 1) (eVar 3)) (gSet 1))) [some c, some (.int n), some (.lst true (acc.map D.int)), some (.int s)] = .nx [some c, some (.int (n / s)), some (.lst true ((acc ++ [n % s]).map D.int)), some (.int s)] :=
      (seq_nx (sDrop_ok ha)).trans (sAsg_ok hd rfl)
    have e1 : acc ++ slipsR (s :: r) n = (acc ++ [n % s]) ++ slipsR r (n / s) := by
      show acc ++ (n % s :: slipsR r (n / s)) = _
      rw [List.append_assoc]
      rfl
    rw [e1]
    show forGo (gSet 3) _ (.int s :: r.map D.int) _ = _
    unfold forGo
    show (match (sSeq (sDrop (eApp 2 (e2 modD (eVar 1) (eVar 3)))) (sAsg (e2 fdivD (eVar 1) (eVar 3)) (gSet 1))) [some c, some (.int n), some (.lst true (acc.map D.int)), some (.int s)] with | .nx ρ' => forGo (gSet 3) _ (r.map D.int) ρ' | .cnt ρ' => forGo (gSet 3) _ (r.map D.int) ρ' | .brk ρ' => .nx ρ' | r => r) = _
    rw [hbdy]
    exact ih
theorem slips_ok {l : List Int} (h : ∀ x ∈ l, 1 ≤ x ∧ x ≤ 4) (hl : l.length ≤ 8) (n : Int) : F_slips_of [T l, .int n] = .ok (T (slipsR l.reverse n).reverse) [none, none] := by
  obtain ⟨n', y, e⟩ := slips_loop (T l) l.reverse n [] none (fun x hx => h x (List.mem_reverse.mp hx)) (by simp; omega)
  rw [List.nil_append] at e
  refine run_ok (b := b_slips_of) (ρ := [some (T l), some (.int n'), some (.lst false ((slipsR l.reverse n).map D.int)), y]) (ρ0 := [some (T l), some (.int n), none, none]) ?_ rfl (by simp) rfl
  unfold b_slips_of
  refine Eq.trans (seq_nx (ρ1 := [some (T l), some (.int n), some (.lst true []), none]) (by exact sAsg_ok (d := .lst true []) (eLst_ok rfl (by simp)) rfl)) ?_
  refine Eq.trans (seq_nx (ρ1 := [some (T l), some (.int n'), some (.lst true ((slipsR l.reverse n).map D.int)), y]) ?_) ?_
  · unfold sFor
    have hi : iRevD (eVar 0) [some (T l), some (.int n), some (.lst true []), none] = .ok (l.reverse.map D.int) [some (T l), some (.int n), some (.lst true []), none] := by
      unfold iRevD
      rw [mbind_of (show eVar 0 [some (T l), some (.int n), some (.lst true []), none] = .ok (T l) _ from rfl)]
      show Res.ok ((l.map D.int).reverse) _ = _
      rw [List.map_reverse]
    rw [sE_of hi]
    exact e
  · unfold sFrz
    have hf : frzAt 2 [some (T l), some (.int n'), some (.lst true ((slipsR l.reverse n).map D.int)), y] = [some (T l), some (.int n'), some (.lst false ((slipsR l.reverse n).map D.int)), y] := by
      show [some (T l), some (.int n'), some (.lst false (frzL ((slipsR l.reverse n).map D.int))), y] = _
      rw [frzL_ints]
    show sRet (eTupRev (eVar 2)) (frzAt 2 _) = _
    rw [hf]
    refine sRet_ok ?_
    unfold eTupRev
    rw [mbind_of (show eVar 2 [some (T l), some (.int n'), some (.lst false ((slipsR l.reverse n).map D.int)), y] = .ok (.lst false ((slipsR l.reverse n).map D.int)) _ from rfl)]
    show Res.ok (D.tup (frzL ((slipsR l.reverse n).map D.int)).reverse) _ = _
    rw [frzL_ints, ← List.map_reverse]
/-- the place of a row -/
def placeP : List Int → List Int → Int → Int
  | s :: r, c :: l, a => placeP r l (a * c + s)
  | _, _, a => a
def Row : List Int → List Int → Prop
  | [], [] => True
  | s :: r, c :: l => 0 ≤ s ∧ s < c ∧ c ≤ 4 ∧ Row r l
  | _, _ => False
/-- the number of rows -/
def NR : List Int → Nat
  | [] => 1
  | s :: m => NR m * s.toNat
theorem foldl_rev (m : List Int) : m.reverse.foldl (fun a b : Int => a * b) 1 = m.foldr (fun b a => a * b) 1 := by rw [List.foldl_reverse]
theorem NR_cast : ∀ m : List Int, (∀ x ∈ m, 1 ≤ x) → (NR m : Int) = m.foldr (fun b a => a * b) 1
  | [], _ => rfl
  | s :: m, h => by
    have hs := h s List.mem_cons_self
    show ((NR m * s.toNat : Nat) : Int) = (m.foldr (fun b a => a * b) 1) * s
    rw [Int.natCast_mul, NR_cast m (fun x hx => h x (List.mem_cons_of_mem _ hx)), Int.toNat_of_nonneg (by omega)]
def Pr (l : List Int) : Int := l.foldl (· * ·) 1
theorem NR_Pr {l : List Int} (h : ∀ x ∈ l, 1 ≤ x) : (NR l.reverse : Int) = Pr l := by
  rw [NR_cast _ (fun x hx => h x (List.mem_reverse.mp hx))]
  show _ = l.foldl (fun a b : Int => a * b) 1
  rw [← foldl_rev, List.reverse_reverse]
structure Club (l : List Int) : Prop where
  s : ∀ x ∈ l, 1 ≤ x ∧ x ≤ 4
  n1 : 1 ≤ l.length
  n8 : l.length ≤ 8
  p : Pr l ≤ 256
def N (l : List Int) : Nat := NR l.reverse
theorem Club.N {l : List Int} (c : Club l) : (Lk51.N l : Int) = Pr l := NR_Pr fun x hx => (c.s x hx).1
theorem Club.Nle {l : List Int} (c : Club l) : Lk51.N l ≤ 256 := by have := c.N; have := c.p; omega
def slips (l : List Int) (k : Int) : List Int := (slipsR l.reverse k).reverse
theorem slips_len (l : List Int) (k : Int) : (slips l k).length = l.length := by unfold slips; rw [List.length_reverse, slipsR_len, List.length_reverse]
theorem many_ok {i : Int} (h : 1 ≤ i ∧ i ≤ 8) : F_is_many [.int i] = .ok (.bl true) [none] := by
  have hw : F_is_within [.int i, .int 1, .int 8] = .ok (.bl true) [none, none, none] := (within_ok i 1 8).trans (by rw [decide_eq_true h])
  refine run_ok (b := b_is_many) (ρ := [some (.int i)]) (ρ0 := [some (.int i)]) ?_ rfl (by simp) rfl
  unfold b_is_many
  exact sRet_ok (eCall_of (aCons_ok rfl (aCons_ok rfl (aCons_ok rfl rfl))) rfl hw rfl)
theorem size_ok2 {l : List Int} (c : Club l) : F_size_of [T l] = .ok (.int (N l)) [none] := by
  rw [c.N]
  exact size_ok c.s (Int.le_trans c.p (by decide))
theorem club_ok {l : List Int} (c : Club l) : F_is_club [T l] = .ok (.bl true) [none] := by
  have hN := c.Nle
  refine run_ok (b := b_is_club) (ρ := [some (T l), none]) (ρ0 := [some (T l), none]) ?_ rfl (by simp) rfl
  unfold b_is_club
  have hm : eCall F_is_many (aCons (eBi lenD (aCons (eVar 0) aNil)) aNil) [] [] [some (T l), none] = .ok (.bl true) [some (T l), none] := eCall_of (aCons_ok (eBi_ok (aCons_ok rfl rfl) (len_TI l)) rfl) rfl (many_ok ⟨by have := c.n1; omega, by have := c.n8; omega⟩) rfl
  have ht : (mOr (mNot (eB (eInst .tuple (eVar 0)))) (mNot (eB (eCall F_is_many (aCons (eBi lenD (aCons (eVar 0) aNil)) aNil) [] [])))) [some (T l), none] = .ok false [some (T l), none] :=
    mOr_f (mNot_ok (b := true) (eB_ok (eInst_ok rfl rfl))) (mNot_ok (b := true) (eB_ok hm))
  refine Eq.trans (seq_nx (ρ1 := [some (T l), none]) (Eq.trans (sIf_f (G := sNext) ht) rfl)) ?_
  refine sRet_ok (eAnd_t (ρ1 := [some (T l), none]) ?_ ?_)
  · refine all_t (o := true) (ys := (l.map D.int).map fun _ => .bl true) (aCons_ok (lc_map1 (i := 1) (ρ1 := [some (T l), none]) (iSeq_ok rfl rfl) (by rw [List.length_map]; have := c.n8; omega) rfl rfl (by decide) ?_) rfl) ?_
    · intro d hd
      obtain ⟨i, hi, rfl⟩ := mem_T hd
      have hw : F_is_within [.int i, .int 1, .int 4] = .ok (.bl true) [none, none, none] := (within_ok i 1 4).trans (by rw [decide_eq_true (c.s i hi)])
      show eFrz _ [some (T l), some (.int i)] = .ok (.bl true) [some (T l), some (.int i)]
      exact eFrz_ok (d := .bl true) (eCall_of (ρ1 := [some (T l), some (.int i)]) (aCons_ok rfl (aCons_ok rfl (aCons_ok rfl rfl))) rfl hw rfl)
    · intro y hy
      obtain ⟨_, _, rfl⟩ := List.mem_map.mp hy
      rfl
  · exact le_ok (eCall_of (ρ1 := [some (T l), none]) (aCons_ok rfl rfl) rfl (size_ok2 c) rfl) rfl (decide_eq_true (by omega))
theorem check_ok {l : List Int} (c : Club l) : F_check_club [T l] = .ok .non [none] := by
  refine run_nx (b := b_check_club) (ρ := [some (T l)]) (ρ0 := [some (T l)]) ?_ rfl (by simp) rfl
  unfold b_check_club
  exact Eq.trans (sIf_f (G := sNext) (mNot_ok (b := true) (eB_ok (eCall_of (aCons_ok rfl rfl) rfl (club_ok c) rfl)))) rfl
theorem slips_ok2 {l : List Int} (c : Club l) (k : Int) : F_slips_of [T l, .int k] = .ok (T (slips l k)) [none, none] := slips_ok c.s c.n8 k
/-- all rows -/
def rowsL (l : List Int) : List (List Int) := (List.range (N l)).map fun k : Nat => slips l (k : Int)
theorem rowsL_len (l : List Int) : (rowsL l).length = N l := by unfold rowsL; rw [List.length_map, List.length_range]
theorem rowsL_get {l : List Int} {k : Nat} (h : k < N l) : ((rowsL l).map T)[k]? = some (T (slips l k)) := by
  unfold rowsL
  rw [List.getElem?_map, List.getElem?_map, List.getElem?_range h]
  rfl
/-! rows and their numbers -/
theorem Row_snoc : ∀ {r l : List Int} {x s : Int}, Row r l → 0 ≤ x → x < s → s ≤ 4 → Row (r ++ [x]) (l ++ [s])
  | [], [], x, s, _, h1, h2, h3 => ⟨h1, h2, h3, trivial⟩
  | [], _ :: _, _, _, h, _, _, _ => h.elim
  | _ :: _, [], _, _, h, _, _, _ => h.elim
  | a :: r, b :: l, x, s, h, h1, h2, h3 => ⟨h.1, h.2.1, h.2.2.1, Row_snoc h.2.2.2 h1 h2 h3⟩
theorem placeP_snoc : ∀ {r l : List Int} {x s a : Int}, Row r l → placeP (r ++ [x]) (l ++ [s]) a = placeP r l a * s + x
  | [], [], x, s, a, _ => rfl
  | [], _ :: _, _, _, _, h => h.elim
  | _ :: _, [], _, _, _, h => h.elim
  | p :: r, b :: l, x, s, a, h => placeP_snoc (r := r) (l := l) (a := a * b + p) h.2.2.2
theorem row_of : ∀ (m : List Int) (k : Int), (∀ x ∈ m, 1 ≤ x ∧ x ≤ 4) → 0 ≤ k → k < NR m → Row (slipsR m k).reverse m.reverse ∧ placeP (slipsR m k).reverse m.reverse 0 = k
  | [], k, _, h0, h1 => ⟨trivial, by have : NR [] = 1 := rfl; rw [this] at h1; show (0 : Int) = k; omega⟩
  | s :: m, k, h, h0, h1 => by
    have hs := h s List.mem_cons_self
    have e : NR (s :: m) = NR m * s.toNat := rfl
    rw [e, Int.natCast_mul, Int.toNat_of_nonneg (by omega)] at h1
    obtain ⟨i1, i2⟩ := row_of m (k / s) (fun x hx => h x (List.mem_cons_of_mem _ hx)) (Int.ediv_nonneg h0 (by omega)) (Int.ediv_lt_of_lt_mul (by omega) h1)
    show Row (k % s :: slipsR m (k / s)).reverse (s :: m).reverse ∧ placeP (k % s :: slipsR m (k / s)).reverse (s :: m).reverse 0 = k
    rw [List.reverse_cons, List.reverse_cons, placeP_snoc i1, i2]
    exact ⟨Row_snoc i1 (Int.emod_nonneg _ (by omega)) (Int.emod_lt_of_pos _ (by omega)) hs.2, by rw [Int.mul_comm]; exact Int.mul_ediv_add_emod k s⟩
theorem Club.row {l : List Int} (c : Club l) {k : Nat} (h : k < Lk51.N l) : Row (slips l k) l ∧ placeP (slips l k) l 0 = k := by
  have z := row_of l.reverse k (fun x hx => c.s x (List.mem_reverse.mp hx)) (by omega) (by have : Lk51.N l = NR l.reverse := rfl; omega)
  rw [List.reverse_reverse] at z
  exact z
theorem Row.len : ∀ {r l : List Int}, Row r l → r.length = l.length
  | [], [], _ => rfl
  | [], _ :: _, h => h.elim
  | _ :: _, [], h => h.elim
  | _ :: r, _ :: l, h => by rw [List.length_cons, List.length_cons, Row.len h.2.2.2]
/-- the places at which two lists are unlike -/
def apart (n : Nat) (a b : List Int) : List Int := ((List.range n).filter fun k => !decide (a.getD k 0 = b.getD k 0)).map fun k : Nat => (k : Int)
def pap (a b : List Int) : D → Bool
  | .int k => !decide (a.getD k.toNat 0 = b.getD k.toNat 0)
  | _ => false
theorem apart_eq (n : Nat) (a b : List Int) : ((rgD 0 (n : Int)).filter (pap a b)).map (fun d => d) = (apart n a b).map D.int := by
  rw [rgD_0, List.map_id', List.filter_map]
  unfold apart
  rw [List.map_map]
  rfl
theorem apart_self (n : Nat) (a : List Int) : apart n a a = [] := by
  unfold apart
  rw [List.filter_eq_nil_iff.mpr (by simp)]
  rfl
theorem apart_comm (n : Nat) (a b : List Int) : apart n a b = apart n b a := by
  unfold apart
  congr 2
  funext k
  rw [decide_eq_decide.mpr ⟨Eq.symm, Eq.symm⟩]
theorem apart_len (n : Nat) (a b : List Int) : (apart n a b).length ≤ n := by
  unfold apart
  rw [List.length_map]
  exact Nat.le_trans (List.length_filter_le _ _) (Nat.le_of_eq List.length_range)
theorem tup_ints {o : Bool} {g : M (List D)} {ρ ρ1 : DL.Env} {l : List Int} (h : g ρ = .ok [.lst o (l.map D.int)] ρ1) : eBi tupleD g ρ = .ok (T l) ρ1 := eBi_ok h (by
  show some (D.tup (frzL (l.map D.int))) = _
  rw [frzL_ints])
theorem unlike_in_ok {l : List Int} (c : Club l) (j k : Int) : F_unlike_in [T l, .int j, .int k] = .ok (T (apart l.length (slips l j) (slips l k))) [none, none, none] := by
  refine run_ok (b := b_unlike_in) (ρ := [some (T l), some (.int j), some (.int k), some (T (slips l j)), some (T (slips l k)), none]) (ρ0 := [some (T l), some (.int j), some (.int k), none, none, none]) ?_ rfl (by simp) rfl
  unfold b_unlike_in
  refine Eq.trans (seq_nx (ρ1 := [some (T l), some (.int j), some (.int k), some (T (slips l j)), none, none]) (sAsg_ok (eFrz_ok (eCall_of (ρ1 := [some (T l), some (.int j), some (.int k), none, none, none]) (aCons_ok rfl (aCons_ok rfl rfl)) rfl (slips_ok2 c j) rfl)) rfl)) ?_
  refine Eq.trans (seq_nx (ρ1 := [some (T l), some (.int j), some (.int k), some (T (slips l j)), some (T (slips l k)), none]) (sAsg_ok (eFrz_ok (eCall_of (ρ1 := [some (T l), some (.int j), some (.int k), some (T (slips l j)), none, none]) (aCons_ok rfl (aCons_ok rfl rfl)) rfl (slips_ok2 c k) rfl)) rfl)) ?_
  refine sRet_ok (tup_ints (o := true) (aCons_ok ?_ rfl))
  rw [← apart_eq]
  refine lc_filter1 (i := 5) (ρ1 := [some (T l), some (.int j), some (.int k), some (T (slips l j)), some (T (slips l k)), none]) (iRg1_ok (n := l.length) (aCons_ok (eBi_ok (aCons_ok rfl rfl) (len_TI l)) rfl) (by have := c.n8; omega)) (by rw [rgD_len]; have := c.n8; omega) rfl rfl (by decide) ?_ ?_
  · intro d hd
    obtain ⟨i, rfl, h1, h2⟩ := rgD_mem hd
    obtain ⟨n, rfl⟩ : ∃ n : Nat, i = n := ⟨i.toNat, by omega⟩
    refine eB_ok (ne_ok (x := .int ((slips l j).getD n 0)) (y := .int ((slips l k).getD n 0)) (e2_ok (x := T (slips l j)) (y := .int n) rfl rfl (ix_TI (by rw [slips_len]; omega))) (e2_ok (x := T (slips l k)) (y := .int n) rfl rfl (ix_TI (by rw [slips_len]; omega))) (eqB_int _ _))
  · intro d hd _
    obtain ⟨i, rfl, h1, h2⟩ := rgD_mem hd
    exact eFrz_ok rfl
end Lk51

set_option Elab.async false
set_option linter.all false
set_option maxRecDepth 100000
set_option maxHeartbeats 2000000
namespace Lk51
open PySem PySem.Spec L2 DL
/-- it ends well: goes on or returns -/
def Ends (I : DL.Env → Prop) (r : RS) : Prop := (∃ ρ, r = .nx ρ ∧ I ρ) ∨ ∃ d ρ, r = .ret d ρ ∧ I ρ
theorem Ends.seq {I : DL.Env → Prop} {F G : SF} {ρ : DL.Env} (h : Ends I (F ρ)) (h2 : ∀ ρ', I ρ' → Ends I (G ρ')) : Ends I (sSeq F G ρ) := by
  rcases h with ⟨ρ', e, hI⟩ | ⟨d, ρ', e, hI⟩
  · rw [seq_nx e]; exact h2 ρ' hI
  · rw [seq_ret e]; exact .inr ⟨d, ρ', rfl, hI⟩
theorem Ends.go {I : DL.Env → Prop} {g : D → DL.Env → Option DL.Env} {b : SF} : ∀ (ds : List D) (ρ : DL.Env), (∀ d ∈ ds, ∀ ρ, I ρ → ∃ ρ1, g d ρ = some ρ1 ∧ Ends I (b ρ1)) → I ρ → Ends I (forGo g b ds ρ)
  | [], ρ, _, hI => .inl ⟨ρ, rfl, hI⟩
  | d :: ds, ρ, h, hI => by
    obtain ⟨ρ1, e1, he⟩ := h d List.mem_cons_self ρ hI
    rcases he with ⟨ρ2, e2, hI2⟩ | ⟨x, ρ2, e2, hI2⟩
    · rw [forGo_cons e1 e2]
      exact Ends.go ds ρ2 (fun d hd => h d (List.mem_cons_of_mem _ hd)) hI2
    · refine .inr ⟨x, ρ2, ?_, hI2⟩
      unfold forGo
      simp only [e1, e2]
theorem Ends.for {I : DL.Env → Prop} {fi : M (List D)} {g : D → DL.Env → Option DL.Env} {b : SF} {ds : List D} {ρ ρ1 : DL.Env} (h1 : fi ρ = .ok ds ρ1) (hI : I ρ1) (h : ∀ d ∈ ds, ∀ ρ, I ρ → ∃ ρ1, g d ρ = some ρ1 ∧ Ends I (b ρ1)) : Ends I (sFor fi g b ρ) := by
  rw [sFor_of h1]; exact Ends.go ds ρ1 h hI
theorem sDrop_exc {f : M D} {ρ ρ1 : DL.Env} {cn : Str} {fs : List (Str × D)} (h1 : f ρ = .exc cn fs ρ1) : sDrop f ρ = .exc cn fs ρ1 := by unfold sDrop sE; rw [h1]
theorem Ends.mono {I J : DL.Env → Prop} {r : RS} (h : Ends I r) (hij : ∀ ρ, I ρ → J ρ) : Ends J r := by
  rcases h with ⟨ρ, e, hI⟩ | ⟨d, ρ, e, hI⟩
  · exact .inl ⟨ρ, e, hij ρ hI⟩
  · exact .inr ⟨d, ρ, e, hij ρ hI⟩
/-! picks -/
structure Picks (l ps : List Int) : Prop where
  c : Club l
  n : ps.length = N l
  b : ∀ x ∈ ps, 0 ≤ x ∧ x < l.length
theorem Club.N1 {l : List Int} (c : Club l) : 0 < Lk51.N l := by
  have := c.N
  have h1 : (1 : Int) ≤ Pr l := prod_le l 1 (fun x hx => (c.s x hx).1) (by decide)
  omega
theorem table_ok (l : List Int) {n : Nat} (h : l.length = n) : F_is_table [T l, .int n] = .ok (.bl true) [none, none] := by
  refine run_ok (b := b_is_table) (ρ := [some (T l), some (.int n)]) (ρ0 := [some (T l), some (.int n)]) ?_ rfl (by simp) rfl
  unfold b_is_table
  have hl : eBi lenD (aCons (eVar 0) aNil) [some (T l), some (.int n)] = .ok (.int l.length) [some (T l), some (.int n)] := eBi_ok (aCons_ok rfl rfl) (len_TI l)
  exact sRet_ok (eAnd_t (ρ1 := [some (T l), some (.int n)]) (eInst_ok rfl rfl) (eqi_ok (i := l.length) (j := n) hl rfl (decide_eq_true (by omega))))
theorem check_picks_ok {l ps : List Int} (h : Picks l ps) : F_check_picks [T l, T ps] = .ok .non [none, none] := by
  have hN := h.c.Nle
  refine run_nx (b := b_check_picks) (ρ := [some (T l), some (T ps), none]) (ρ0 := [some (T l), some (T ps), none]) ?_ rfl (by simp) rfl
  unfold b_check_picks
  let ρ : DL.Env := [some (T l), some (T ps), none]
  have hs : eFrz (eCall F_size_of (aCons (eVar 0) aNil) [] []) ρ = .ok (.int (N l)) ρ := eFrz_int (eCall_of (ρ1 := ρ) (aCons_ok rfl rfl) rfl (size_ok2 h.c) rfl)
  have h1 : eCall F_is_table (aCons (eVar 1) (aCons (eFrz (eCall F_size_of (aCons (eVar 0) aNil) [] [])) aNil)) [] [] ρ = .ok (.bl true) ρ := eCall_of (ρ1 := ρ) (aCons_ok rfl (aCons_ok hs rfl)) rfl (table_ok ps h.n) rfl
  have h2 : eBi allD (aCons (eLcL 3 (iSeq (eVar 1)) (gSet 2) mYes (eFrz (eCall F_is_within (aCons (eVar 2) (aCons (eC (.int 0)) (aCons (e2 subD (eBi lenD (aCons (eVar 0) aNil)) (eC (.int 1))) aNil))) [] [])) [2]) aNil) ρ = .ok (.bl true) ρ := by
    refine all_t (o := true) (ys := (ps.map D.int).map fun _ => .bl true) (aCons_ok (lc_map1 (i := 2) (ρ1 := ρ) (iSeq_ok (d := T ps) rfl rfl) (by rw [List.length_map, h.n]; omega) rfl rfl (by decide) ?_) rfl) ?_
    · intro d hd
      obtain ⟨i, hi, rfl⟩ := mem_T hd
      have hb := h.b i hi
      have hw : F_is_within [.int i, .int 0, .int (l.length - 1)] = .ok (.bl true) [none, none, none] := (within_ok i 0 (l.length - 1)).trans (by rw [decide_eq_true (by omega)])
      show eFrz _ [some (T l), some (T ps), some (.int i)] = .ok (.bl true) [some (T l), some (T ps), some (.int i)]
      have hl : eBi lenD (aCons (eVar 0) aNil) [some (T l), some (T ps), some (.int i)] = .ok (.int l.length) [some (T l), some (T ps), some (.int i)] := eBi_ok (aCons_ok rfl rfl) (len_TI l)
      exact eFrz_ok (d := .bl true) (eCall_of (ρ1 := [some (T l), some (T ps), some (.int i)]) (aCons_ok rfl (aCons_ok rfl (aCons_ok (sub_ok hl rfl) rfl))) rfl hw rfl)
    · intro y hy
      obtain ⟨_, _, rfl⟩ := List.mem_map.mp hy
      rfl
  exact (sIf_f (G := sNext) (mOr_f (mNot_ok (b := true) (eB_ok h1)) (mNot_ok (b := true) (eB_ok h2)))).trans rfl
theorem pick_ix {l ps : List Int} (h : Picks l ps) {k : Nat} (hk : k < N l) : ixD (T ps) (.int k) = some (.int (ps.getD k 0)) := ix_TI (by rw [h.n]; exact hk)
theorem getD_mem {ps : List Int} {k : Nat} (h : k < ps.length) : ps.getD k 0 ∈ ps := by
  rw [List.getD_eq_getElem?_getD, List.getElem?_eq_getElem h]
  exact List.getElem_mem h
theorem eqB_bl (a b : Bool) : eqB (.bl a) (.bl b) = some (a == b) := by cases a <;> cases b <;> kernel_rfl
theorem is_own_ok {l ps : List Int} (h : Picks l ps) {r o : Nat} (hr : r < N l) (ho : o < N l) : ∃ b, F_is_own [T l, T ps, .int r, .int o] = .ok (.bl b) [none, none, none, none] ∧ (b = true → ∃ m, apart l.length (slips l r) (slips l o) = [m]) := by
  obtain ⟨p, hp⟩ : ∃ p, p = apart l.length (slips l r) (slips l o) := ⟨_, rfl⟩
  let ρ : DL.Env := [some (T l), some (T ps), some (.int r), some (.int o), none]
  let ρ2 : DL.Env := [some (T l), some (T ps), some (.int r), some (.int o), some (T p)]
  have hu : F_unlike_in [T l, .int r, .int o] = .ok (T p) [none, none, none] := by rw [hp]; exact unlike_in_ok h.c r o
  have e1 : sAsg (eFrz (eCall F_unlike_in (aCons (eVar 0) (aCons (eVar 2) (aCons (eVar 3) aNil))) [] [])) (gSet 4) ρ = .nx ρ2 := sAsg_ok (eFrz_ok (eCall_of (ρ1 := ρ) (aCons_ok rfl (aCons_ok rfl (aCons_ok rfl rfl))) rfl hu rfl)) rfl
  have hl : eBi lenD (aCons (eVar 4) aNil) ρ2 = .ok (.int p.length) ρ2 := eBi_ok (aCons_ok rfl rfl) (len_TI p)
  have hlen : ∀ b, decide ((p.length : Int) = 1) = b → e2 eqD (eBi lenD (aCons (eVar 4) aNil)) (eC (.int 1)) ρ2 = .ok (.bl b) ρ2 := fun b hb => eqi_ok hl rfl hb
  by_cases c : (p.length : Int) = 1
  · obtain ⟨m, rfl⟩ : ∃ m, p = [m] := by
      match p, c with
      | [m], _ => exact ⟨m, rfl⟩
    have i1 : e2 ixD (eVar 1) (eVar 2) ρ2 = .ok (.int (ps.getD r 0)) ρ2 := e2_ok (x := T ps) (y := .int r) rfl rfl (pick_ix h hr)
    have i2 : e2 ixD (eVar 1) (eVar 3) ρ2 = .ok (.int (ps.getD o 0)) ρ2 := e2_ok (x := T ps) (y := .int o) rfl rfl (pick_ix h ho)
    have i3 : e2 ixD (eVar 4) (eC (.int 0)) ρ2 = .ok (.int m) ρ2 := rfl
    have q := ne_ok (eqi_ok i1 i3 rfl) (eqi_ok i2 i3 rfl) (eqB_bl (decide (ps.getD r 0 = m)) (decide (ps.getD o 0 = m)))
    refine ⟨!(decide (ps.getD r 0 = m) == decide (ps.getD o 0 = m)), run_ok (b := b_is_own) (ρ := ρ2) (ρ0 := ρ) ?_ rfl (by simp [ρ2]) rfl, fun _ => ⟨m, hp.symm⟩⟩
    unfold b_is_own
    refine Eq.trans (seq_nx e1) ?_
    exact sRet_ok (eAnd_t (hlen true (decide_eq_true c)) q)
  · refine ⟨false, run_ok (b := b_is_own) (ρ := ρ2) (ρ0 := ρ) ?_ rfl (by simp [ρ2]) rfl, fun z => by cases z⟩
    unfold b_is_own
    refine Eq.trans (seq_nx e1) ?_
    exact sRet_ok (eAnd_f (hlen false (decide_eq_false c)))
def foB : SF := sIf (mAnd (eB (e2 neD (e2 ixD (eVar 1) (eVar 2)) (e2 ixD (eVar 1) (eVar 3)))) (eB (eCall F_is_own (aCons (eVar 0) (aCons (eVar 1) (aCons (eVar 2) (aCons (eVar 3) aNil)))) [] []))) (sRet (eTup (aCons (eVar 2) (aCons (eVar 3) (aCons (e2 ixD (eCall F_unlike_in (aCons (eVar 0) (aCons (eVar 2) (aCons (eVar 3) aNil))) [] []) (eC (.int 0))) aNil))))) sNext
def FR (l ps : List Int) (r : Nat) (ρ : DL.Env) : Prop := ∃ x3, ρ = [some (T l), some (T ps), some (.int r), x3]
def FI (l ps : List Int) (ρ : DL.Env) : Prop := ∃ x2 x3, ρ = [some (T l), some (T ps), x2, x3]
theorem foB_ok {l ps : List Int} (h : Picks l ps) {r o : Nat} (hr : r < N l) (ho : o < N l) : Ends (FR l ps r) (foB [some (T l), some (T ps), some (.int r), some (.int o)]) := by
  let ρ : DL.Env := [some (T l), some (T ps), some (.int r), some (.int o)]
  have hI : FR l ps r ρ := ⟨_, rfl⟩
  have i1 : e2 ixD (eVar 1) (eVar 2) ρ = .ok (.int (ps.getD r 0)) ρ := e2_ok (x := T ps) (y := .int r) rfl rfl (pick_ix h hr)
  have i2 : e2 ixD (eVar 1) (eVar 3) ρ = .ok (.int (ps.getD o 0)) ρ := e2_ok (x := T ps) (y := .int o) rfl rfl (pick_ix h ho)
  obtain ⟨b, eb, hb⟩ := is_own_ok h hr ho
  have hcall : eCall F_is_own (aCons (eVar 0) (aCons (eVar 1) (aCons (eVar 2) (aCons (eVar 3) aNil)))) [] [] ρ = .ok (.bl b) ρ := eCall_of (ρ1 := ρ) (aCons_ok rfl (aCons_ok rfl (aCons_ok rfl (aCons_ok rfl rfl)))) rfl eb rfl
  show Ends (FR l ps r) (foB ρ)
  unfold foB
  cases c : !decide (ps.getD r 0 = ps.getD o 0) with
  | false =>
    refine .inl ⟨ρ, ?_, hI⟩
    exact (sIf_f (G := sNext) (mAnd_f (eB_ok (nei_ok i1 i2 c)))).trans rfl
  | true =>
    have ht := mAnd_t (eB_ok (nei_ok i1 i2 c)) (eB_ok hcall)
    cases b with
    | false => exact .inl ⟨ρ, (sIf_f (G := sNext) ht).trans rfl, hI⟩
    | true =>
      obtain ⟨m, hm⟩ := hb rfl
      have hu : F_unlike_in [T l, .int r, .int o] = .ok (T [m]) [none, none, none] := by rw [← hm]; exact unlike_in_ok h.c r o
      have hc : eCall F_unlike_in (aCons (eVar 0) (aCons (eVar 2) (aCons (eVar 3) aNil))) [] [] ρ = .ok (T [m]) ρ := eCall_of (ρ1 := ρ) (aCons_ok rfl (aCons_ok rfl (aCons_ok rfl rfl))) rfl hu rfl
      have hx : e2 ixD (eCall F_unlike_in (aCons (eVar 0) (aCons (eVar 2) (aCons (eVar 3) aNil))) [] []) (eC (.int 0)) ρ = .ok (.int m) ρ := e2_ok hc rfl rfl
      exact .inr ⟨_, ρ, (sIf_t ht).trans (sRet_ok (eTup_ok (ds := [.int r, .int o, .int m]) (aCons_ok rfl (aCons_ok rfl (aCons_ok hx rfl))) (by simp))), hI⟩
theorem Ends.run {I : DL.Env → Prop} {pr : List Nat} {n L : Nat} {b : SF} {ds : List D} {ρ0 : DL.Env} {os : DL.Env} (h : Ends I (b ρ0)) (h0 : ds.map some ++ List.replicate (L - ds.length) none = ρ0) (hl : ∀ ρ, I ρ → n ≤ ρ.length ∧ outs pr n ρ = os) : ∃ d, runS pr n L b ds = .ok d os := by
  rcases h with ⟨ρ, e, hI⟩ | ⟨d, ρ, e, hI⟩
  · exact ⟨.non, run_nx e h0 (hl ρ hI).1 (hl ρ hI).2⟩
  · exact ⟨d, run_ok e h0 (hl ρ hI).1 (hl ρ hI).2⟩
theorem first_own_ok {l ps : List Int} (h : Picks l ps) : ∃ d, F_first_own [T l, T ps] = .ok d [none, none] := by
  have hN := h.c.Nle
  have hlen : ∀ x2 x3, eBi lenD (aCons (eVar 1) aNil) [some (T l), some (T ps), x2, x3] = .ok (.int (N l)) [some (T l), some (T ps), x2, x3] := fun x2 x3 => eBi_ok (aCons_ok rfl rfl) (by rw [len_TI, h.n])
  refine Ends.run (I := FI l ps) (b := b_first_own) (ρ0 := [some (T l), some (T ps), none, none]) ?_ rfl ?_
  · unfold b_first_own
    have g1 : ∀ R : SF, sSeq (sDrop (eCall F_check_club (aCons (eVar 0) aNil) [] [])) R [some (T l), some (T ps), none, none] = R [some (T l), some (T ps), none, none] := fun R => seq_nx (sDrop_ok (eCall_of (ρ1 := [some (T l), some (T ps), none, none]) (aCons_ok rfl rfl) rfl (check_ok h.c) rfl))
    have g2 : ∀ R : SF, sSeq (sDrop (eCall F_check_picks (aCons (eVar 0) (aCons (eVar 1) aNil)) [] [])) R [some (T l), some (T ps), none, none] = R [some (T l), some (T ps), none, none] := fun R => seq_nx (sDrop_ok (eCall_of (ρ1 := [some (T l), some (T ps), none, none]) (aCons_ok rfl (aCons_ok rfl rfl)) rfl (check_picks_ok h) rfl))
    rw [g1, g2]
    refine Ends.seq (Ends.for (ds := rgD 0 (N l)) (iRg1_ok (n := N l) (aCons_ok (hlen _ _) rfl) (by omega)) ⟨_, _, rfl⟩ ?_) ?_
    · intro d hd ρ hI
      obtain ⟨x2, x3, rfl⟩ := hI
      obtain ⟨i, rfl, h0, h1⟩ := rgD_mem hd
      obtain ⟨r, rfl⟩ : ∃ r : Nat, i = r := ⟨i.toNat, by omega⟩
      refine ⟨[some (T l), some (T ps), some (.int r), x3], rfl, Ends.mono (I := FR l ps r) ?_ fun ρ ⟨y, e⟩ => ⟨_, _, e⟩⟩
      refine Ends.for (I := FR l ps r) (ds := rgD ((r : Int) + 1) (N l)) (ρ1 := [some (T l), some (T ps), some (.int r), x3]) ?_ ⟨_, rfl⟩ ?_
      · have ha : e2 addD (eVar 2) (eC (.int 1)) [some (T l), some (T ps), some (.int r), x3] = .ok (.int ((r : Int) + 1)) [some (T l), some (T ps), some (.int r), x3] := add_ok rfl rfl
        exact iRg2_ok (m := (r : Int) + 1) (n := N l) (aCons_ok ha (aCons_ok (hlen _ _) rfl)) (by omega)
      · rintro d hd ρ ⟨y, rfl⟩
        obtain ⟨i, rfl, h2, h3⟩ := rgD_mem hd
        obtain ⟨o, rfl⟩ : ∃ o : Nat, i = o := ⟨i.toNat, by omega⟩
        exact ⟨[some (T l), some (T ps), some (.int r), some (.int o)], rfl, foB_ok h (by omega) (by omega)⟩
    · intro ρ hI
      exact .inr ⟨.non, ρ, rfl, hI⟩
  · rintro ρ ⟨x2, x3, rfl⟩
    exact ⟨by simp, rfl⟩
end Lk51

set_option Elab.async false
set_option linter.all false
set_option maxRecDepth 100000
set_option maxHeartbeats 2000000
namespace Lk51
open PySem PySem.Spec L2 DL
/-- nothing or an int -/
def Plain (F : List D) : Prop := ∀ d ∈ F, d = .non ∨ ∃ i : Int, d = .int i
theorem Plain.frz : ∀ {F : List D}, Plain F → frzL F = F
  | [], _ => rfl
  | d :: F, h => by
    have h1 := h d List.mem_cons_self
    show DL.frz d :: frzL F = _
    rw [Plain.frz (F := F) fun x hx => h x (List.mem_cons_of_mem _ hx)]
    rcases h1 with rfl | ⟨i, rfl⟩ <;> rfl
def pd : D → PyData
  | .int i => .int i
  | _ => .none
theorem Plain.py : ∀ {F : List D}, Plain F → toPyL F = some (F.map pd)
  | [], _ => rfl
  | d :: F, h => by
    have h1 := h d List.mem_cons_self
    show (toPy d).bind (fun p => (toPyL F).map fun ps => p :: ps) = _
    rw [Plain.py (F := F) fun x hx => h x (List.mem_cons_of_mem _ hx)]
    rcases h1 with rfl | ⟨i, rfl⟩ <;> rfl
theorem Plain.lay : ∀ {F : List D}, Plain F → PyData.canLayAll0 (F.map pd) = true
  | [], _ => by simp only [List.map_nil, PyData.canLayAll0]
  | d :: F, h => by
    have h1 := h d List.mem_cons_self
    have ih := Plain.lay (F := F) fun x hx => h x (List.mem_cons_of_mem _ hx)
    rcases h1 with rfl | ⟨i, rfl⟩ <;> simp only [List.map_cons, pd, PyData.canLayAll0, PyData.canLay0, ih, Bool.and_self]
theorem Plain.dep : ∀ {F : List D}, Plain F → PyData.depthAll (F.map pd) = 0
  | [], _ => by simp only [List.map_nil, PyData.depthAll]
  | d :: F, h => by
    have h1 := h d List.mem_cons_self
    have ih := Plain.dep (F := F) fun x hx => h x (List.mem_cons_of_mem _ hx)
    rcases h1 with rfl | ⟨i, rfl⟩ <;> simp only [List.map_cons, pd, PyData.depthAll, PyData.depth, ih, Nat.max_self]
theorem Plain.shaped {F : List D} (h : Plain F) : SeqAt.shaped (.tuple (F.map pd)) = true := by
  unfold SeqAt.shaped
  simp only [PyData.canLay0, h.lay, PyData.depth, h.dep]
  rfl
theorem Plain.nin {F : List D} (h : Plain F) (m : Int) : ∃ b, ninD (.int m) (.tup F) = some (.bl b) := by
  have h1 : toPy (.tup F) = some (.tuple (F.map pd)) := by
    show (toPyL F).map PyData.tuple = _
    rw [h.py]; rfl
  unfold ninD inB
  rw [h1, show toPy (.int m) = some (.int m) from rfl]
  simp only [Option.bind_some, seqP, h.shaped, shaped_int, and_self, if_true]
  exact ⟨_, rfl⟩
theorem Plain.set {F : List D} (h : Plain F) (n : Nat) (i : Int) : Plain (F.set n (.int i)) := by
  intro d hd
  rcases List.mem_or_eq_of_mem_set hd with hd | rfl
  · exact h d hd
  · exact .inr ⟨i, rfl⟩
/-- as Ends, with what it returns -/
def EndsJ (I : DL.Env → Prop) (J : D → Prop) (r : RS) : Prop := (∃ ρ, r = .nx ρ ∧ I ρ) ∨ ∃ d ρ, r = .ret d ρ ∧ I ρ ∧ J d
theorem EndsJ.seq {I : DL.Env → Prop} {J : D → Prop} {F G : SF} {ρ : DL.Env} (h : EndsJ I J (F ρ)) (h2 : ∀ ρ', I ρ' → EndsJ I J (G ρ')) : EndsJ I J (sSeq F G ρ) := by
  rcases h with ⟨ρ', e, hI⟩ | ⟨d, ρ', e, hI⟩
  · rw [seq_nx e]; exact h2 ρ' hI
  · rw [seq_ret e]; exact .inr ⟨d, ρ', rfl, hI⟩
theorem EndsJ.go {I : DL.Env → Prop} {J : D → Prop} {g : D → DL.Env → Option DL.Env} {b : SF} : ∀ (ds : List D) (ρ : DL.Env), (∀ d ∈ ds, ∀ ρ, I ρ → ∃ ρ1, g d ρ = some ρ1 ∧ EndsJ I J (b ρ1)) → I ρ → EndsJ I J (forGo g b ds ρ)
  | [], ρ, _, hI => .inl ⟨ρ, rfl, hI⟩
  | d :: ds, ρ, h, hI => by
    obtain ⟨ρ1, e1, he⟩ := h d List.mem_cons_self ρ hI
    rcases he with ⟨ρ2, e2, hI2⟩ | ⟨x, ρ2, e2, hI2⟩
    · rw [forGo_cons e1 e2]
      exact EndsJ.go ds ρ2 (fun d hd => h d (List.mem_cons_of_mem _ hd)) hI2
    · refine .inr ⟨x, ρ2, ?_, hI2⟩
      unfold forGo
      simp only [e1, e2]
theorem enum_mem {d : D} : ∀ {ps : List Int} {n : Nat}, d ∈ enumD n (ps.map D.int) → ∃ (k : Nat) (p : Int), d = .tup [.int k, .int p] ∧ n ≤ k ∧ k < n + ps.length
  | [], _, h => by cases h
  | p :: ps, n, h => by
    rcases List.mem_cons.mp h with rfl | h
    · exact ⟨n, p, rfl, Nat.le_refl _, by simp⟩
    · obtain ⟨k, q, e, h1, h2⟩ := enum_mem (ps := ps) h
      exact ⟨k, q, e, by omega, by rw [List.length_cons]; omega⟩
theorem Row.at : ∀ {r l : List Int} {m : Nat}, Row r l → m < l.length → 0 ≤ r.getD m 0 ∧ r.getD m 0 < l.getD m 0
  | [], [], m, _, h => by cases h
  | [], _ :: _, _, h, _ => h.elim
  | _ :: _, [], _, h, _ => h.elim
  | a :: r, b :: l, 0, h, _ => ⟨h.1, h.2.1⟩
  | a :: r, b :: l, m + 1, h, hm => by
    have := Row.at (r := r) (l := l) (m := m) h.2.2.2 (by simpa using hm)
    simpa using this
def nbB : SF := (sSeq (sAsg (eFrz (e2 ixD (eCall F_slips_of (aCons (eVar 0) (aCons (eVar 4) aNil)) [] []) (eVar 2))) (gSet 6))
  (sSeq (sIf (tBor (eB (eIsN (e2 ixD (eVar 3) (eVar 6))))) (sAsg (eFrz (eVar 5)) (gItem 3 (eVar 6))) sNext)
  (sIf (tBor (eB (e2 neD (e2 ixD (eVar 3) (eVar 6)) (eVar 5)))) (sRet (eC .non)) sNext)))
abbrev nE (l ps : List Int) (m : Int) (F : List D) (x4 x5 x6 : Option D) : DL.Env := [some (T l), some (T ps), some (.int m), some (.lst true F), x4, x5, x6]
def NI (l ps : List Int) (m : Int) (c : Nat) (ρ : DL.Env) : Prop := ∃ F x4 x5 x6, ρ = nE l ps m F x4 x5 x6 ∧ Plain F ∧ F.length = c
theorem frz_nE {l ps : List Int} {m k p s : Int} {F : List D} (h : Plain F) : (nE l ps m F (some (.int k)) (some (.int p)) (some (.int s))).map (Option.map frz) = [some (T l), some (T ps), some (.int m), some (.lst false F), some (.int k), some (.int p), some (.int s)] := by
  show [some (T l), some (T ps), some (.int m), some (.lst false (frzL F)), some (.int k), some (.int p), some (.int s)] = _
  rw [h.frz]
theorem nbB_ok {l ps : List Int} (c : Club l) {m k : Nat} (hm : m < l.length) (hk : k < N l) (p : Int) (F : List D) (hF : Plain F) (hl : (F.length : Int) = l.getD m 0) (x6 : Option D) : EndsJ (NI l ps m F.length) (fun d => d = .non) (nbB (nE l ps m F (some (.int k)) (some (.int p)) x6)) := by
  obtain ⟨q1, q2⟩ := (c.row hk).1.at hm
  obtain ⟨s, hs⟩ : ∃ s : Nat, (slips l k).getD m 0 = (s : Int) := ⟨((slips l k).getD m 0).toNat, by omega⟩
  rw [hs] at q1 q2
  have hsF : s < F.length := by omega
  have hc : eCall F_slips_of (aCons (eVar 0) (aCons (eVar 4) aNil)) [] [] (nE l ps m F (some (.int k)) (some (.int p)) x6) = .ok (T (slips l k)) (nE l ps m F (some (.int k)) (some (.int p)) x6) := eCall_of (aCons_ok rfl (aCons_ok rfl rfl)) rfl (slips_ok2 c k) rfl
  have hv2 : eVar 2 (nE l ps m F (some (.int k)) (some (.int p)) x6) = .ok (.int m) (nE l ps m F (some (.int k)) (some (.int p)) x6) := rfl
  have hi : e2 ixD (eCall F_slips_of (aCons (eVar 0) (aCons (eVar 4) aNil)) [] []) (eVar 2) (nE l ps m F (some (.int k)) (some (.int p)) x6) = .ok (.int s) (nE l ps m F (some (.int k)) (some (.int p)) x6) := e2_ok hc hv2 (by rw [← hs]; exact ix_TI (by rw [slips_len]; exact hm))
  have s1 : ∀ R : SF, sSeq (sAsg (eFrz (e2 ixD (eCall F_slips_of (aCons (eVar 0) (aCons (eVar 4) aNil)) [] []) (eVar 2))) (gSet 6)) R (nE l ps m F (some (.int k)) (some (.int p)) x6) = R (nE l ps m F (some (.int k)) (some (.int p)) (some (.int s))) := fun R => seq_nx (sAsg_ok (eFrz_int hi) rfl)
  -- the first look
  have look : ∀ G : List D, Plain G → s < G.length → ∀ x, G[s]? = some x → e2 ixD (eVar 3) (eVar 6) [some (T l), some (T ps), some (.int m), some (.lst false G), some (.int k), some (.int p), some (.int s)] = .ok x [some (T l), some (T ps), some (.int m), some (.lst false G), some (.int k), some (.int p), some (.int s)] := fun G hG hl x hx => e2_ok (x := .lst false G) (y := .int s) rfl rfl (ix_l hx)
  -- the second one, of a list that has an int there
  have last : ∀ G : List D, Plain G → G.length = F.length → ∀ i : Int, G[s]? = some (.int i) → EndsJ (NI l ps m F.length) (fun d => d = .non) (sIf (tBor (eB (e2 neD (e2 ixD (eVar 3) (eVar 6)) (eVar 5)))) (sRet (eC .non)) sNext (nE l ps m G (some (.int k)) (some (.int p)) (some (.int s)))) := by
    intro G hG hGl i hi
    have ht : ∀ b, (!decide (i = p)) = b → tBor (eB (e2 neD (e2 ixD (eVar 3) (eVar 6)) (eVar 5))) (nE l ps m G (some (.int k)) (some (.int p)) (some (.int s))) = .ok b (nE l ps m G (some (.int k)) (some (.int p)) (some (.int s))) := by
      intro b hb
      refine tBor_ok (ρ1 := [some (T l), some (T ps), some (.int m), some (.lst false G), some (.int k), some (.int p), some (.int s)]) ?_
      rw [frz_nE hG]
      have v5 : eVar 5 [some (T l), some (T ps), some (.int m), some (.lst false G), some (.int k), some (.int p), some (.int s)] = .ok (.int p) [some (T l), some (T ps), some (.int m), some (.lst false G), some (.int k), some (.int p), some (.int s)] := rfl
      exact eB_ok (nei_ok (i := i) (j := p) (look G hG (by omega) _ hi) v5 hb)
    cases c : !decide (i = p) with
    | true => exact .inr ⟨.non, _, (sIf_t (ht true c)).trans (sRet_ok rfl), ⟨G, _, _, _, rfl, hG, hGl⟩, rfl⟩
    | false => exact .inl ⟨_, (sIf_f (G := sNext) (ht false c)).trans rfl, ⟨G, _, _, _, rfl, hG, hGl⟩⟩
  have hx : F[s]? = some F[s] := List.getElem?_eq_getElem hsF
  have ht : ∀ b, isN F[s] = b → tBor (eB (eIsN (e2 ixD (eVar 3) (eVar 6)))) (nE l ps m F (some (.int k)) (some (.int p)) (some (.int s))) = .ok b (nE l ps m F (some (.int k)) (some (.int p)) (some (.int s))) := by
    intro b hb
    refine tBor_ok (ρ1 := [some (T l), some (T ps), some (.int m), some (.lst false F), some (.int k), some (.int p), some (.int s)]) ?_
    rw [frz_nE hF]
    refine eB_ok ?_
    unfold eIsN
    rw [mbind_of (look F hF hsF _ hx), hb]
    rfl
  unfold nbB
  rw [s1]
  rcases hF F[s] (List.getElem_mem hsF) with hn | ⟨i, hn⟩
  · have hix : ixN F.length (s : Int) = some s := by unfold ixN; simp [hsF]
    have s2 : ∀ R : SF, sSeq (sIf (tBor (eB (eIsN (e2 ixD (eVar 3) (eVar 6))))) (sAsg (eFrz (eVar 5)) (gItem 3 (eVar 6))) sNext) R (nE l ps m F (some (.int k)) (some (.int p)) (some (.int s))) = R (nE l ps m (F.set s (.int p)) (some (.int k)) (some (.int p)) (some (.int s))) := fun R => seq_nx ((sIf_t (ht true (by rw [hn]; rfl))).trans (sAsg_ok (d := .int p) (ρ1 := nE l ps m F (some (.int k)) (some (.int p)) (some (.int s))) rfl (put_ok (i := 3) (j := s) (n := s) (ds := F) (ρ1 := nE l ps m F (some (.int k)) (some (.int p)) (some (.int s))) rfl rfl rfl rfl hix)))
    rw [s2]
    exact last _ (hF.set s p) List.length_set p (by rw [List.getElem?_set_self hsF])
  · have s2 : ∀ R : SF, sSeq (sIf (tBor (eB (eIsN (e2 ixD (eVar 3) (eVar 6))))) (sAsg (eFrz (eVar 5)) (gItem 3 (eVar 6))) sNext) R (nE l ps m F (some (.int k)) (some (.int p)) (some (.int s))) = R (nE l ps m F (some (.int k)) (some (.int p)) (some (.int s))) := fun R => seq_nx ((sIf_f (G := sNext) (ht false (by rw [hn]; rfl))).trans rfl)
    rw [s2]
    exact last F hF rfl i (by rw [hx, hn])
theorem rep_plain (n : Int) (hn : 1 ≤ n ∧ n ≤ 4) : ∃ F, mulD (.lst true [.non]) (.int n) = some (.lst true F) ∧ Plain F ∧ (F.length : Int) = n := by
  have cs : n = 1 ∨ n = 2 ∨ n = 3 ∨ n = 4 := by omega
  rcases cs with rfl | rfl | rfl | rfl
  · exact ⟨[.non], by kernel_rfl, by simp [Plain], rfl⟩
  · exact ⟨[.non, .non], by kernel_rfl, by simp [Plain], rfl⟩
  · exact ⟨[.non, .non, .non], by kernel_rfl, by simp [Plain], rfl⟩
  · exact ⟨[.non, .non, .non, .non], by kernel_rfl, by simp [Plain], rfl⟩
theorem named_ok {l ps : List Int} (h : Picks l ps) {m : Nat} (hm : m < l.length) : ∃ d, F_named_by [T l, T ps, .int m] = .ok d [none, none, none] ∧ (d = .non ∨ ∃ F, d = .tup F ∧ Plain F) := by
  obtain ⟨F, e1, hF, hl⟩ := rep_plain (l.getD m 0) (h.c.s _ (getD_mem hm))
  let ρ0 : DL.Env := [some (T l), some (T ps), some (.int m), none, none, none, none]
  have hix : e2 ixD (eVar 0) (eVar 2) ρ0 = .ok (.int (l.getD m 0)) ρ0 := e2_ok (x := T l) (y := .int m) rfl rfl (ix_TI hm)
  have s1 : ∀ R : SF, sSeq (sAsg (e2 mulD (eLst (aCons (eC .non) aNil)) (e2 ixD (eVar 0) (eVar 2))) (gSet 3)) R ρ0 = R (nE l ps m F none none none) := fun R => seq_nx (sAsg_ok (d := .lst true F) (ρ1 := ρ0) (e2_ok (eLst_ok (ds := [.non]) (aCons_ok rfl rfl) (by simp)) hix e1) rfl)
  have hi : iEnuA (aCons (eVar 1) aNil) (nE l ps m F none none none) = .ok (enumD 0 (ps.map D.int)) (nE l ps m F none none none) := by
    unfold iEnuA
    have ha : aCons (eVar 1) aNil (nE l ps m F none none none) = .ok [T ps] (nE l ps m F none none none) := aCons_ok rfl rfl
    rw [mbind_of ha]
    rfl
  have loop : EndsJ (NI l ps m F.length) (fun d => d = .non) (sFor (iEnuA (aCons (eVar 1) aNil)) (gTupD 2 (gsCons (gSet 4) (gsCons (gSet 5) gsNil))) nbB (nE l ps m F none none none)) := by
    rw [sFor_of hi]
    refine EndsJ.go _ _ ?_ ⟨F, _, _, _, rfl, hF, rfl⟩
    rintro d hd ρ ⟨G, x4, x5, x6, rfl, hG, hGl⟩
    obtain ⟨k, p, rfl, _, hk⟩ := enum_mem hd
    rw [h.n, Nat.zero_add] at hk
    refine ⟨nE l ps m G (some (.int k)) (some (.int p)) x6, rfl, ?_⟩
    rw [← hGl]
    exact nbB_ok h.c hm hk p G hG (by rw [hGl]; exact hl) x6
  rcases loop with ⟨ρ, e, G, x4, x5, x6, rfl, hG, hGl⟩ | ⟨d, ρ, e, ⟨G, x4, x5, x6, rfl, hG, hGl⟩, rfl⟩
  · refine ⟨.tup G, run_ok (b := b_named_by) (ρ := [some (T l), some (T ps), some (.int m), some (.lst false G), x4, x5, x6]) (ρ0 := ρ0) ?_ rfl (by simp) rfl, .inr ⟨G, rfl, hG⟩⟩
    unfold b_named_by
    rw [s1]
    refine Eq.trans (seq_nx e) ?_
    have hz : frzAt 3 (nE l ps m G x4 x5 x6) = [some (T l), some (T ps), some (.int m), some (.lst false G), x4, x5, x6] := by
      show [some (T l), some (T ps), some (.int m), some (.lst false (frzL G)), x4, x5, x6] = _
      rw [hG.frz]
    show sRet _ (frzAt 3 _) = _
    rw [hz]
    refine sRet_ok (eBi_ok (ds := [.lst false G]) (aCons_ok rfl rfl) ?_)
    show some (D.tup (frzL G)) = _
    rw [hG.frz]
  · refine ⟨.non, run_ok (b := b_named_by) (ρ := nE l ps m G x4 x5 x6) (ρ0 := ρ0) ?_ rfl (by simp) rfl, .inl rfl⟩
    unfold b_named_by
    rw [s1]
    exact seq_ret e
theorem three_ok {l : List Int} (c : Club l) (h : l.length = 3) : F_check_three [T l] = .ok .non [none] := by
  refine run_nx (b := b_check_three) (ρ := [some (T l)]) (ρ0 := [some (T l)]) ?_ rfl (by simp) rfl
  unfold b_check_three
  refine Eq.trans (seq_nx (ρ1 := [some (T l)]) (sDrop_ok (eCall_of (aCons_ok rfl rfl) rfl (check_ok c) rfl))) ?_
  have hl : eBi lenD (aCons (eVar 0) aNil) [some (T l)] = .ok (.int l.length) [some (T l)] := eBi_ok (aCons_ok rfl rfl) (len_TI l)
  exact (sIf_f (G := sNext) (eB_ok (nei_ok (i := l.length) (j := 3) hl rfl (by simp [h])))).trans rfl
end Lk51

set_option Elab.async false
set_option linter.all false
set_option maxRecDepth 100000
set_option maxHeartbeats 2000000
namespace Lk51
open PySem PySem.Spec L2 DL
theorem ev {ρ : DL.Env} {i : Nat} {d : D} (h : ρ[i]? = some (some d)) (hf : fro d = true) : eVar i ρ = .ok d ρ := by
  unfold eVar; rw [h]; simp only [hf, if_true]
theorem all_f {g : M (List D)} {o : Bool} {ys : List D} {ρ ρ1 : DL.Env} (h1 : g ρ = .ok [.lst o ys] ρ1) (h : ∀ y ∈ ys, ∃ b, y = .bl b) (hf : D.bl false ∈ ys) : eBi allD g ρ = .ok (.bl false) ρ1 := by
  let tb : D → Bool := fun d => match d with | .bl b => b | _ => true
  have e : ys = (ys.map tb).map D.bl := by
    rw [List.map_map]
    exact (List.map_id ys).symm.trans (List.map_congr_left fun y hy => by obtain ⟨b, rfl⟩ := h y hy; rfl)
  have hall : (ys.map tb).all id = false := by
    rw [List.all_eq_false]
    exact ⟨false, List.mem_map.mpr ⟨.bl false, hf, rfl⟩, by simp⟩
  rw [e] at h1
  exact (all_ok h1).trans (by rw [hall])
theorem go_any {I : DL.Env → Prop} {J : D → Prop} {c : D → Bool} {g : D → DL.Env → Option DL.Env} {b : SF} : ∀ (ds : List D) (ρ : DL.Env), I ρ → (∀ d ∈ ds, ∀ ρ, I ρ → ∃ ρ1, g d ρ = some ρ1 ∧ (c d = false → ∃ ρ2, b ρ1 = .nx ρ2 ∧ I ρ2) ∧ (c d = true → ∃ x ρ2, b ρ1 = .ret x ρ2 ∧ I ρ2 ∧ J x)) →
    (ds.any c = false → ∃ ρ', forGo g b ds ρ = .nx ρ' ∧ I ρ') ∧ (ds.any c = true → ∃ x ρ', forGo g b ds ρ = .ret x ρ' ∧ I ρ' ∧ J x)
  | [], ρ, hI, _ => ⟨fun _ => ⟨ρ, rfl, hI⟩, fun z => (by cases z)⟩
  | d :: ds, ρ, hI, h => by
    obtain ⟨ρ1, e1, h1, h2⟩ := h d List.mem_cons_self ρ hI
    cases hc : c d with
    | false =>
      obtain ⟨ρ2, e2, hI2⟩ := h1 hc
      have ih := go_any ds ρ2 hI2 fun d hd => h d (List.mem_cons_of_mem _ hd)
      rw [List.any_cons, hc, Bool.false_or, forGo_cons e1 e2]
      exact ih
    | true =>
      obtain ⟨x, ρ2, e2, hI2, hJ⟩ := h2 hc
      rw [List.any_cons, hc, Bool.true_or]
      refine ⟨fun z => (by cases z), fun _ => ⟨x, ρ2, ?_, hI2, hJ⟩⟩
      unfold forGo
      simp only [e1, e2]
abbrev LL (ls : List (List Int)) : List D := ls.map T
theorem ix_rows {l : List Int} {k : Nat} (h : k < N l) : ixD (.lst false (LL (rowsL l))) (.int k) = some (T (slips l k)) := ix_l (by
  unfold LL rowsL
  rw [List.getElem?_map, List.getElem?_map, List.getElem?_range h]
  rfl)
def one1 (f : Int → Bool) : List Int → Bool
  | [m] => f m
  | _ => false
theorem one1_no {f : Int → Bool} : ∀ {p : List Int}, ¬ (p.length : Int) = 1 → one1 f p = false
  | [], _ => rfl
  | [_], h => absurd rfl h
  | _ :: _ :: _, _ => rfl
def c1 (l ps : List Int) (r o : Nat) : Bool := one1 (fun m => !(decide (ps.getD r 0 = m) == decide (ps.getD o 0 = m))) (apart l.length (slips l r) (slips l o))
abbrev loE (l ps : List Int) (r o : Nat) (x5 : Option D) : DL.Env := [some (T l), some (T ps), some (.lst false (LL (rowsL l))), some (.int r), some (.int o), x5, none]
def loB : SF := (sSeq (sAsg (eFrz (eLcL 7 (iRg1 (aCons (eBi lenD (aCons (eVar 0) aNil)) aNil)) (gSet 6) (eB (e2 neD (e2 ixD (e2 ixD (eVar 2) (eVar 3)) (eVar 6)) (e2 ixD (e2 ixD (eVar 2) (eVar 4)) (eVar 6)))) (eFrz (eVar 6)) [6])) (gSet 5))
  (sIf (mAnd (eB (e2 eqD (eBi lenD (aCons (eVar 5) aNil)) (eC (.int 1)))) (eB (e2 neD (e2 eqD (e2 ixD (eVar 1) (eVar 3)) (e2 ixD (eVar 5) (eC (.int 0)))) (e2 eqD (e2 ixD (eVar 1) (eVar 4)) (e2 ixD (eVar 5) (eC (.int 0))))))) (sRet (eTup (aCons (eVar 3) (aCons (eVar 4) (aCons (e2 ixD (eVar 5) (eC (.int 0))) aNil))))) sNext))
theorem loB_ok {l ps : List Int} (h : Picks l ps) {r o : Nat} (hr : r < N l) (ho : o < N l) (x5 : Option D) : ∃ y5, (c1 l ps r o = false → loB (loE l ps r o x5) = .nx (loE l ps r o y5)) ∧ (c1 l ps r o = true → loB (loE l ps r o x5) = .ret (.tup [.int r, .int o, .int ((apart l.length (slips l r) (slips l o)).getD 0 0)]) (loE l ps r o y5)) := by
  have hn8 := h.c.n8
  obtain ⟨p, hp⟩ : ∃ p, p = apart l.length (slips l r) (slips l o) := ⟨_, rfl⟩
  let ρ := loE l ps r o x5
  let ρ2 := loE l ps r o (some (.lst false (p.map .int)))
  have hl : eLcL 7 (iRg1 (aCons (eBi lenD (aCons (eVar 0) aNil)) aNil)) (gSet 6) (eB (e2 neD (e2 ixD (e2 ixD (eVar 2) (eVar 3)) (eVar 6)) (e2 ixD (e2 ixD (eVar 2) (eVar 4)) (eVar 6)))) (eFrz (eVar 6)) [6] ρ = .ok (.lst true (p.map .int)) ρ := by
    rw [hp, ← apart_eq]
    have hlen : eBi lenD (aCons (eVar 0) aNil) ρ = .ok (.int l.length) ρ := eBi_ok (aCons_ok rfl rfl) (len_TI l)
    refine lc_filter1 (i := 6) (ρ1 := ρ) (iRg1_ok (n := l.length) (aCons_ok hlen rfl) (by omega)) (by rw [rgD_len]; omega) rfl rfl (by decide) ?_ ?_
    · intro d hd
      obtain ⟨i, rfl, h1, h2⟩ := rgD_mem hd
      obtain ⟨n, rfl⟩ : ∃ n : Nat, i = n := ⟨i.toNat, by omega⟩
      let ρ6 : DL.Env := [some (T l), some (T ps), some (.lst false (LL (rowsL l))), some (.int r), some (.int o), x5, some (.int n)]
      have a1 : e2 ixD (eVar 2) (eVar 3) ρ6 = .ok (T (slips l r)) ρ6 := e2_ok (ev rfl rfl) (ev rfl rfl) (ix_rows hr)
      have a2 : e2 ixD (eVar 2) (eVar 4) ρ6 = .ok (T (slips l o)) ρ6 := e2_ok (ev rfl rfl) (ev rfl rfl) (ix_rows ho)
      have v6 : eVar 6 ρ6 = .ok (.int n) ρ6 := rfl
      have b1 : e2 ixD (e2 ixD (eVar 2) (eVar 3)) (eVar 6) ρ6 = .ok (.int ((slips l r).getD n 0)) ρ6 := e2_ok a1 v6 (ix_TI (by rw [slips_len]; omega))
      have b2 : e2 ixD (e2 ixD (eVar 2) (eVar 4)) (eVar 6) ρ6 = .ok (.int ((slips l o).getD n 0)) ρ6 := e2_ok a2 v6 (ix_TI (by rw [slips_len]; omega))
      exact eB_ok (ne_ok b1 b2 (eqB_int _ _))
    · intro d hd _
      obtain ⟨i, rfl, h1, h2⟩ := rgD_mem hd
      exact eFrz_ok rfl
  have s1 : ∀ R : SF, sSeq (sAsg (eFrz (eLcL 7 (iRg1 (aCons (eBi lenD (aCons (eVar 0) aNil)) aNil)) (gSet 6) (eB (e2 neD (e2 ixD (e2 ixD (eVar 2) (eVar 3)) (eVar 6)) (e2 ixD (e2 ixD (eVar 2) (eVar 4)) (eVar 6)))) (eFrz (eVar 6)) [6])) (gSet 5)) R ρ = R ρ2 := fun R => seq_nx (sAsg_ok (d := .lst false (p.map .int)) (ρ1 := ρ) ((eFrz_ok hl).trans (by show Res.ok (D.lst false (frzL (p.map .int))) ρ = _; rw [frzL_ints])) rfl)
  have hlp : eBi lenD (aCons (eVar 5) aNil) ρ2 = .ok (.int p.length) ρ2 := eBi_ok (aCons_ok (ev rfl rfl) rfl) (by rw [len_lst, List.length_map])
  have hlen : ∀ b, decide ((p.length : Int) = 1) = b → eB (e2 eqD (eBi lenD (aCons (eVar 5) aNil)) (eC (.int 1))) ρ2 = .ok b ρ2 := fun b hb => eB_ok (eqi_ok hlp rfl hb)
  refine ⟨some (.lst false (p.map .int)), ?_⟩
  show (c1 l ps r o = false → loB ρ = .nx ρ2) ∧ (c1 l ps r o = true → loB ρ = .ret (.tup [.int r, .int o, .int ((apart l.length (slips l r) (slips l o)).getD 0 0)]) ρ2)
  unfold loB c1
  rw [← hp, s1]
  by_cases c : (p.length : Int) = 1
  · obtain ⟨m, rfl⟩ : ∃ m, p = [m] := by
      match p, c with
      | [m], _ => exact ⟨m, rfl⟩
    have v3 : eVar 3 ρ2 = .ok (.int r) ρ2 := rfl
    have v4 : eVar 4 ρ2 = .ok (.int o) ρ2 := rfl
    have i1 : e2 ixD (eVar 1) (eVar 3) ρ2 = .ok (.int (ps.getD r 0)) ρ2 := e2_ok (ev rfl rfl) v3 (pick_ix h hr)
    have i2 : e2 ixD (eVar 1) (eVar 4) ρ2 = .ok (.int (ps.getD o 0)) ρ2 := e2_ok (ev rfl rfl) v4 (pick_ix h ho)
    have i3 : e2 ixD (eVar 5) (eC (.int 0)) ρ2 = .ok (.int m) ρ2 := rfl
    have q := ne_ok (eqi_ok i1 i3 rfl) (eqi_ok i2 i3 rfl) (eqB_bl (decide (ps.getD r 0 = m)) (decide (ps.getD o 0 = m)))
    have ht := mAnd_t (hlen true (decide_eq_true c)) (eB_ok q)
    refine ⟨fun z => ?_, fun z => ?_⟩
    · have z : (!(decide (ps.getD r 0 = m) == decide (ps.getD o 0 = m))) = false := z
      rw [z] at ht
      exact (sIf_f (G := sNext) ht).trans rfl
    · have z : (!(decide (ps.getD r 0 = m) == decide (ps.getD o 0 = m))) = true := z
      rw [z] at ht
      exact (sIf_t ht).trans (sRet_ok (eTup_ok (ds := [.int r, .int o, .int m]) (aCons_ok v3 (aCons_ok v4 (aCons_ok i3 rfl))) (by simp)))
  · have hz := one1_no (f := fun m => !(decide (ps.getD r 0 = m) == decide (ps.getD o 0 = m))) c
    rw [hz]
    exact ⟨fun _ => (sIf_f (G := sNext) (mAnd_f (hlen false (decide_eq_false c)))).trans rfl, fun z => (by cases z)⟩
/-- a comprehension that draws -/
theorem lc_draw {E : D → Option D → DL.Env} {v : Nat} {te : M D} {P : Int → Prop} (hw : ∀ s x, wipeE (E s x) [v] = E s none) (hg : ∀ d s, gSet v d (E s none) = some (E s (some d))) (ht : ∀ B s d, Dice B s → B < 2 ^ 30 → ∃ r s', te (E s (some d)) = .ok (.int r) (E s' (some d)) ∧ P r ∧ Dice (B + 1) s') : ∀ (ds : List D) (B : Int) (s : D) (x : Option D), Dice B s → B + ds.length < 2 ^ 30 →
    ∃ (rs : List Int) (s' : D), lcGo (gSet v) mYes te [v] ds (E s x) = .ok (rs.map D.int) (E s' none) ∧ rs.length = ds.length ∧ (∀ r ∈ rs, P r) ∧ Dice (B + ds.length) s'
  | [], B, s, x, hs, _ => ⟨[], s, by show Res.ok [] (wipeE (E s x) [v]) = _; rw [hw]; rfl, rfl, fun r hr => (by cases hr), by simpa using hs⟩
  | d :: ds, B, s, x, hs, hB => by
    rw [List.length_cons] at hB
    obtain ⟨r, s1, e1, hr, hs1⟩ := ht B s d hs (by omega)
    obtain ⟨rs, s2, e2, h1, h2, h3⟩ := lc_draw hw hg ht ds (B + 1) s1 (some d) hs1 (by omega)
    refine ⟨r :: rs, s2, ?_, by simp [h1], fun q hq => ?_, ?_⟩
    · unfold lcGo
      rw [hw, hg]
      show mbind te _ _ = _
      rw [mbind_of e1, mbind_of e2]
      rfl
    · rcases List.mem_cons.mp hq with rfl | hq
      · exact hr
      · exact h2 q hq
    · rw [List.length_cons, show B + ((ds.length + 1 : Nat) : Int) = B + 1 + ds.length by omega]
      exact h3
theorem mem_ix {o : Bool} {ds : List D} {r : Int} (h0 : 0 ≤ r) (h1 : r < ds.length) : ∃ d ∈ ds, ixD (.lst o ds) (.int r) = some d := by
  obtain ⟨n, rfl⟩ : ∃ n : Nat, r = n := ⟨r.toNat, by omega⟩
  have hn : n < ds.length := by omega
  exact ⟨ds[n], List.getElem_mem hn, ix_l (List.getElem?_eq_getElem hn)⟩
theorem cut_to (ds : List D) (n : Nat) (h : n ≤ ds.length) : cutD ds none (some (n : Int)) = ds.take n := by
  unfold cutD
  have e1 : HT.sIx ds.length 0 none = 0 := rfl
  have e3 : HT.sIx ds.length ds.length (some (n : Int)) = n := by
    rw [HT.sIx_nat]
    exact Nat.min_eq_left h
  rw [e1, e3, List.drop_zero, Nat.sub_zero]
theorem cut_from (ds : List D) (n : Nat) (h : n ≤ ds.length) : cutD ds (some (n : Int)) none = ds.drop n := by
  unfold cutD
  have e1 : HT.sIx ds.length ds.length none = ds.length := rfl
  have e3 : HT.sIx ds.length 0 (some (n : Int)) = n := by
    rw [HT.sIx_nat]
    exact Nat.min_eq_left h
  rw [e1, e3]
  exact List.take_of_length_le (by rw [List.length_drop]; exact Nat.le_refl _)
theorem add_tup {xs ys : List D} (h : xs.length + ys.length ≤ 100000) : addD (.tup xs) (.tup ys) = some (.tup (xs ++ ys)) := by
  show (if xs.length + ys.length ≤ sizeLine then some (D.tup (xs ++ ys)) else none) = _
  rw [if_pos (Nat.le_trans h (by rw [sizeLine_eq]; decide))]
theorem frz_cut {d : D} {ds : List D} {i : Nat} : frz (.tup ds) = .tup ds := rfl
/-- x[:a] + (b,) + x[a + 1:] -/
theorem swap_ok {ρ : DL.Env} {i j k : Nat} {ds : List D} {a : Nat} {b : D} (hi : eVar i ρ = .ok (.tup ds) ρ) (hj : eVar j ρ = .ok (.int a) ρ) (hk : eVar k ρ = .ok b ρ) (hf : frz b = b) (ha : a < ds.length) (hl : ds.length ≤ 10000) :
    e2 addD (e2 addD (eSl (eVar i) pNone (pSome (eVar j))) (eTup (aCons (eVar k) aNil))) (eSl (eVar i) (pSome (e2 addD (eVar j) (eC (.int 1)))) pNone) ρ = .ok (.tup (ds.take a ++ [b] ++ ds.drop (a + 1))) ρ := by
  have h1 : eSl (eVar i) pNone (pSome (eVar j)) ρ = .ok (.tup (ds.take a)) ρ := by
    have hp : pSome (eVar j) ρ = .ok (some (a : Int)) ρ := by
      unfold pSome
      rw [mbind_of hj]
      rfl
    unfold eSl
    rw [mbind_of hi, mbind_of (show pNone ρ = .ok none ρ from rfl), mbind_of hp]
    show Res.ok (D.tup (cutD ds none (some (a : Int)))) ρ = _
    rw [cut_to ds a (by omega)]
  have h2 : eTup (aCons (eVar k) aNil) ρ = .ok (.tup [b]) ρ := by
    refine (eTup_ok (ds := [b]) (aCons_ok hk rfl) (by simp)).trans ?_
    show Res.ok (D.tup [frz b]) ρ = _
    rw [hf]
  have h3 : eSl (eVar i) (pSome (e2 addD (eVar j) (eC (.int 1)))) pNone ρ = .ok (.tup (ds.drop (a + 1))) ρ := by
    have hadd : e2 addD (eVar j) (eC (.int 1)) ρ = .ok (.int ((a + 1 : Nat) : Int)) ρ := add_ok hj (show eC (.int 1) ρ = _ from rfl)
    have hp : pSome (e2 addD (eVar j) (eC (.int 1))) ρ = .ok (some ((a + 1 : Nat) : Int)) ρ := by
      unfold pSome
      rw [mbind_of hadd]
      rfl
    unfold eSl
    rw [mbind_of hi, mbind_of hp, mbind_of (show pNone ρ = .ok none ρ from rfl)]
    show Res.ok (D.tup (cutD ds (some ((a + 1 : Nat) : Int)) none)) ρ = _
    rw [cut_from ds (a + 1) (by omega)]
  exact e2_ok (e2_ok h1 h2 (add_tup (by rw [List.length_take, List.length_singleton]; omega))) h3 (add_tup (by rw [List.length_append, List.length_take, List.length_singleton, List.length_drop]; omega))
theorem from1_ok {ρ : DL.Env} {i : Nat} {ds : List D} (hi : eVar i ρ = .ok (.tup ds) ρ) (hl : 1 ≤ ds.length) : eSl (eVar i) (pSome (eC (.int 1))) pNone ρ = .ok (.tup (ds.drop 1)) ρ := by
  unfold eSl
  rw [mbind_of hi, mbind_of (show pSome (eC (.int 1)) ρ = .ok (some ((1 : Nat) : Int)) ρ from rfl), mbind_of (show pNone ρ = .ok none ρ from rfl)]
  show Res.ok (D.tup (cutD ds (some ((1 : Nat) : Int)) none)) ρ = _
  rw [cut_from ds 1 hl]
end Lk51

set_option Elab.async false
set_option linter.all false
set_option maxRecDepth 100000
set_option maxHeartbeats 2000000
namespace Lk51
open PySem PySem.Spec L2 DL
def isIm (m : Int) : D → Bool
  | .int i => decide (i = m)
  | _ => false
theorem eqv_pd {d : D} (h : d = .non ∨ ∃ i : Int, d = .int i) (m : Int) : PyData.eqv (pd d) (.int m) = isIm m d := by
  rcases h with rfl | ⟨i, rfl⟩
  · rw [show pd .non = .none from rfl, PyData.eqv]; rfl
  · rw [show pd (.int i) = .int i from rfl, PyData.eqv]; rfl
theorem any_pd {m : Int} : ∀ {F : List D}, Plain F → ((F.map pd).any fun z => PyData.eqv z (.int m)) = F.any (isIm m)
  | [], _ => rfl
  | d :: F, h => by
    rw [List.map_cons, List.any_cons, List.any_cons, eqv_pd (h d List.mem_cons_self), any_pd fun x hx => h x (List.mem_cons_of_mem _ hx)]
theorem Plain.ninV {F : List D} (h : Plain F) (m : Int) : ninD (.int m) (.tup F) = some (.bl !(F.any (isIm m))) := by
  have h1 : toPy (.tup F) = some (.tuple (F.map pd)) := by
    show (toPyL F).map PyData.tuple = _
    rw [h.py]; rfl
  unfold ninD inB
  rw [h1, show toPy (.int m) = some (.int m) from rfl]
  simp only [Option.bind_some, seqP, h.shaped, shaped_int, and_self, if_true]
  rw [any_pd h]
  rfl
def nbGo (l : List Int) (m : Nat) : Nat → List Int → List D → Option (List D)
  | _, [], F => some F
  | k, p :: ps, F => match F[((slips l (k : Int)).getD m 0).toNat]? with
    | some (.int q) => if q = p then nbGo l m (k + 1) ps F else none
    | _ => nbGo l m (k + 1) ps (F.set ((slips l (k : Int)).getD m 0).toNat (.int p))
theorem nbX {l ps : List Int} (c : Club l) {m k : Nat} (hm : m < l.length) (hk : k < N l) (p : Int) (F : List D) (hF : Plain F) (hl : (F.length : Int) = l.getD m 0) (x6 : Option D) {s : Nat} (hs : (slips l k).getD m 0 = (s : Int)) :
    s < F.length ∧ (∀ q, F[s]? = some (.int q) → (q = p → nbB (nE l ps m F (some (.int k)) (some (.int p)) x6) = .nx (nE l ps m F (some (.int k)) (some (.int p)) (some (.int s)))) ∧ (q ≠ p → nbB (nE l ps m F (some (.int k)) (some (.int p)) x6) = .ret .non (nE l ps m F (some (.int k)) (some (.int p)) (some (.int s))))) ∧
      (F[s]? = some .non → nbB (nE l ps m F (some (.int k)) (some (.int p)) x6) = .nx (nE l ps m (F.set s (.int p)) (some (.int k)) (some (.int p)) (some (.int s)))) := by
  obtain ⟨q1, q2⟩ := (c.row hk).1.at hm
  rw [hs] at q1 q2
  have hsF : s < F.length := by omega
  have hc : eCall F_slips_of (aCons (eVar 0) (aCons (eVar 4) aNil)) [] [] (nE l ps m F (some (.int k)) (some (.int p)) x6) = .ok (T (slips l k)) (nE l ps m F (some (.int k)) (some (.int p)) x6) := eCall_of (aCons_ok rfl (aCons_ok rfl rfl)) rfl (slips_ok2 c k) rfl
  have hv2 : eVar 2 (nE l ps m F (some (.int k)) (some (.int p)) x6) = .ok (.int m) (nE l ps m F (some (.int k)) (some (.int p)) x6) := rfl
  have hi : e2 ixD (eCall F_slips_of (aCons (eVar 0) (aCons (eVar 4) aNil)) [] []) (eVar 2) (nE l ps m F (some (.int k)) (some (.int p)) x6) = .ok (.int s) (nE l ps m F (some (.int k)) (some (.int p)) x6) := e2_ok hc hv2 (by rw [← hs]; exact ix_TI (by rw [slips_len]; exact hm))
  have s1 : ∀ R : SF, sSeq (sAsg (eFrz (e2 ixD (eCall F_slips_of (aCons (eVar 0) (aCons (eVar 4) aNil)) [] []) (eVar 2))) (gSet 6)) R (nE l ps m F (some (.int k)) (some (.int p)) x6) = R (nE l ps m F (some (.int k)) (some (.int p)) (some (.int s))) := fun R => seq_nx (sAsg_ok (eFrz_int hi) rfl)
  have look : ∀ G : List D, Plain G → s < G.length → ∀ x, G[s]? = some x → e2 ixD (eVar 3) (eVar 6) [some (T l), some (T ps), some (.int m), some (.lst false G), some (.int k), some (.int p), some (.int s)] = .ok x [some (T l), some (T ps), some (.int m), some (.lst false G), some (.int k), some (.int p), some (.int s)] := fun G hG hl x hx => e2_ok (x := .lst false G) (y := .int s) rfl rfl (ix_l hx)
  have ht2 : ∀ G : List D, Plain G → G.length = F.length → ∀ i : Int, G[s]? = some (.int i) → ∀ b, (!decide (i = p)) = b → tBor (eB (e2 neD (e2 ixD (eVar 3) (eVar 6)) (eVar 5))) (nE l ps m G (some (.int k)) (some (.int p)) (some (.int s))) = .ok b (nE l ps m G (some (.int k)) (some (.int p)) (some (.int s))) := by
    intro G hG hGl i hi b hb
    refine tBor_ok (ρ1 := [some (T l), some (T ps), some (.int m), some (.lst false G), some (.int k), some (.int p), some (.int s)]) ?_
    rw [frz_nE hG]
    have v5 : eVar 5 [some (T l), some (T ps), some (.int m), some (.lst false G), some (.int k), some (.int p), some (.int s)] = .ok (.int p) [some (T l), some (T ps), some (.int m), some (.lst false G), some (.int k), some (.int p), some (.int s)] := rfl
    exact eB_ok (nei_ok (i := i) (j := p) (look G hG (by omega) _ hi) v5 hb)
  have ht : ∀ x, F[s]? = some x → ∀ b, isN x = b → tBor (eB (eIsN (e2 ixD (eVar 3) (eVar 6)))) (nE l ps m F (some (.int k)) (some (.int p)) (some (.int s))) = .ok b (nE l ps m F (some (.int k)) (some (.int p)) (some (.int s))) := by
    intro x hx b hb
    refine tBor_ok (ρ1 := [some (T l), some (T ps), some (.int m), some (.lst false F), some (.int k), some (.int p), some (.int s)]) ?_
    rw [frz_nE hF]
    refine eB_ok ?_
    unfold eIsN
    rw [mbind_of (look F hF hsF _ hx), hb]
    rfl
  refine ⟨hsF, fun q hq => ?_, fun hq => ?_⟩
  · have s2 : ∀ R : SF, sSeq (sIf (tBor (eB (eIsN (e2 ixD (eVar 3) (eVar 6))))) (sAsg (eFrz (eVar 5)) (gItem 3 (eVar 6))) sNext) R (nE l ps m F (some (.int k)) (some (.int p)) (some (.int s))) = R (nE l ps m F (some (.int k)) (some (.int p)) (some (.int s))) := fun R => seq_nx ((sIf_f (G := sNext) (ht _ hq false rfl)).trans rfl)
    unfold nbB
    rw [s1, s2]
    exact ⟨fun e => (sIf_f (G := sNext) (ht2 F hF rfl q hq false (by simp [e]))).trans rfl, fun e => (sIf_t (ht2 F hF rfl q hq true (by simp [e]))).trans (sRet_ok rfl)⟩
  · have hix : ixN F.length (s : Int) = some s := by unfold ixN; simp [hsF]
    have s2 : ∀ R : SF, sSeq (sIf (tBor (eB (eIsN (e2 ixD (eVar 3) (eVar 6))))) (sAsg (eFrz (eVar 5)) (gItem 3 (eVar 6))) sNext) R (nE l ps m F (some (.int k)) (some (.int p)) (some (.int s))) = R (nE l ps m (F.set s (.int p)) (some (.int k)) (some (.int p)) (some (.int s))) := fun R => seq_nx ((sIf_t (ht _ hq true rfl)).trans (sAsg_ok (d := .int p) (ρ1 := nE l ps m F (some (.int k)) (some (.int p)) (some (.int s))) rfl (put_ok (i := 3) (j := s) (n := s) (ds := F) (ρ1 := nE l ps m F (some (.int k)) (some (.int p)) (some (.int s))) rfl rfl rfl rfl hix)))
    unfold nbB
    rw [s1, s2]
    exact (sIf_f (G := sNext) (ht2 _ (hF.set s p) List.length_set p (by rw [List.getElem?_set_self hsF]) false (by simp))).trans rfl
theorem nb_loop {l ps : List Int} (c : Club l) {m : Nat} (hm : m < l.length) : ∀ (qs : List Int) (k : Nat) (F : List D) (x4 x5 x6 : Option D), k + qs.length ≤ N l → Plain F → (F.length : Int) = l.getD m 0 →
    (∀ G, nbGo l m k qs F = some G → ∃ y4 y5 y6, forGo (gTupD 2 (gsCons (gSet 4) (gsCons (gSet 5) gsNil))) nbB (enumD k (qs.map D.int)) (nE l ps m F x4 x5 x6) = .nx (nE l ps m G y4 y5 y6) ∧ Plain G) ∧
    (nbGo l m k qs F = none → ∃ G y4 y5 y6, forGo (gTupD 2 (gsCons (gSet 4) (gsCons (gSet 5) gsNil))) nbB (enumD k (qs.map D.int)) (nE l ps m F x4 x5 x6) = .ret .non (nE l ps m G y4 y5 y6))
  | [], k, F, x4, x5, x6, _, hF, _ => ⟨fun G e => by cases e; exact ⟨_, _, _, rfl, hF⟩, fun e => by cases e⟩
  | p :: qs, k, F, x4, x5, x6, hk, hF, hl => by
    rw [List.length_cons] at hk
    have hkN : k < N l := by omega
    obtain ⟨q1, q2⟩ := (c.row hkN).1.at hm
    obtain ⟨s, hs⟩ : ∃ s : Nat, (slips l k).getD m 0 = (s : Int) := ⟨((slips l k).getD m 0).toNat, by omega⟩
    obtain ⟨hsF, a1, a2⟩ := nbX (ps := ps) c hm hkN p F hF hl x6 hs
    have e0 : enumD k ((p :: qs).map D.int) = .tup [.int k, .int p] :: enumD (k + 1) (qs.map D.int) := rfl
    have g0 : gTupD 2 (gsCons (gSet 4) (gsCons (gSet 5) gsNil)) (.tup [.int k, .int p]) (nE l ps m F x4 x5 x6) = some (nE l ps m F (some (.int k)) (some (.int p)) x6) := rfl
    have hx : F[s]? = some F[s] := List.getElem?_eq_getElem hsF
    have en : nbGo l m k (p :: qs) F = match F[s]? with
      | some (.int q) => if q = p then nbGo l m (k + 1) qs F else none
      | _ => nbGo l m (k + 1) qs (F.set s (.int p)) := by
      show (match F[((slips l (k : Int)).getD m 0).toNat]? with | some (.int q) => if q = p then nbGo l m (k + 1) qs F else none | _ => nbGo l m (k + 1) qs (F.set ((slips l (k : Int)).getD m 0).toNat (.int p))) = _
      rw [hs, Int.toNat_natCast]
    rw [en, e0]
    rcases hF F[s] (List.getElem_mem hsF) with hn | ⟨i, hn⟩
    · rw [hn] at hx
      rw [hx]
      have ih := nb_loop (ps := ps) c hm qs (k + 1) (F.set s (.int p)) (some (.int k)) (some (.int p)) (some (.int s)) (by omega) (hF.set s p) (by rw [List.length_set]; exact hl)
      rw [forGo_cons g0 (a2 hx)]
      exact ih
    · rw [hn] at hx
      rw [hx]
      dsimp only
      by_cases e : i = p
      · rw [if_pos e, forGo_cons g0 ((a1 i hx).1 e)]
        exact nb_loop (ps := ps) c hm qs (k + 1) F (some (.int k)) (some (.int p)) (some (.int s)) (by omega) hF hl
      · rw [if_neg e]
        refine ⟨fun G z => (by cases z), fun _ => ⟨F, some (.int k), some (.int p), some (.int s), ?_⟩⟩
        unfold forGo
        simp only [g0, (a1 i hx).2 e]
def nb (l ps : List Int) (m : Nat) : Option (List D) := nbGo l m 0 ps (List.replicate (l.getD m 0).toNat .non)
def ndD : Option (List D) → D
  | some F => .tup F
  | none => .non
theorem rep_val (n : Int) (hn : 1 ≤ n ∧ n ≤ 4) : mulD (.lst true [.non]) (.int n) = some (.lst true (List.replicate n.toNat .non)) := by
  have cs : n = 1 ∨ n = 2 ∨ n = 3 ∨ n = 4 := by omega
  rcases cs with rfl | rfl | rfl | rfl <;> kernel_rfl
theorem named_val {l ps : List Int} (h : Picks l ps) {m : Nat} (hm : m < l.length) : F_named_by [T l, T ps, .int m] = .ok (ndD (nb l ps m)) [none, none, none] ∧ ∀ F, nb l ps m = some F → Plain F := by
  have hb := h.c.s _ (getD_mem hm)
  have e1 := rep_val (l.getD m 0) hb
  let F0 : List D := List.replicate (l.getD m 0).toNat .non
  have hF0 : Plain F0 := fun d hd => .inl (List.eq_of_mem_replicate hd)
  have hl0 : (F0.length : Int) = l.getD m 0 := by show ((List.replicate _ _).length : Int) = _; rw [List.length_replicate]; omega
  let ρ0 : DL.Env := [some (T l), some (T ps), some (.int m), none, none, none, none]
  have hix : e2 ixD (eVar 0) (eVar 2) ρ0 = .ok (.int (l.getD m 0)) ρ0 := e2_ok (x := T l) (y := .int m) rfl rfl (ix_TI hm)
  have s1 : ∀ R : SF, sSeq (sAsg (e2 mulD (eLst (aCons (eC .non) aNil)) (e2 ixD (eVar 0) (eVar 2))) (gSet 3)) R ρ0 = R (nE l ps m F0 none none none) := fun R => seq_nx (sAsg_ok (d := .lst true F0) (ρ1 := ρ0) (e2_ok (eLst_ok (ds := [.non]) (aCons_ok rfl rfl) (by simp)) hix e1) rfl)
  have hi : iEnuA (aCons (eVar 1) aNil) (nE l ps m F0 none none none) = .ok (enumD 0 (ps.map D.int)) (nE l ps m F0 none none none) := by
    unfold iEnuA
    have ha : aCons (eVar 1) aNil (nE l ps m F0 none none none) = .ok [T ps] (nE l ps m F0 none none none) := aCons_ok rfl rfl
    rw [mbind_of ha]
    rfl
  have loop := nb_loop (ps := ps) h.c hm ps 0 F0 none none none (by rw [h.n]; omega) hF0 hl0
  have enb : nb l ps m = nbGo l m 0 ps F0 := rfl
  rw [enb]
  cases e : nbGo l m 0 ps F0 with
  | some G =>
    obtain ⟨y4, y5, y6, e2, hG⟩ := loop.1 G e
    refine ⟨run_ok (b := b_named_by) (ρ := [some (T l), some (T ps), some (.int m), some (.lst false G), y4, y5, y6]) (ρ0 := ρ0) ?_ rfl (by simp) rfl, fun F hF => by cases hF; exact hG⟩
    unfold b_named_by
    rw [s1]
    refine Eq.trans (seq_nx ((sFor_of hi).trans e2)) ?_
    have hz : frzAt 3 (nE l ps m G y4 y5 y6) = [some (T l), some (T ps), some (.int m), some (.lst false G), y4, y5, y6] := by
      show [some (T l), some (T ps), some (.int m), some (.lst false (frzL G)), y4, y5, y6] = _
      rw [hG.frz]
    show sRet _ (frzAt 3 _) = _
    rw [hz]
    refine sRet_ok (eBi_ok (ds := [.lst false G]) (aCons_ok rfl rfl) ?_)
    show some (D.tup (frzL G)) = _
    rw [hG.frz]
    rfl
  | none =>
    obtain ⟨G, y4, y5, y6, e2⟩ := loop.2 e
    refine ⟨run_ok (b := b_named_by) (ρ := nE l ps m G y4 y5 y6) (ρ0 := ρ0) ?_ rfl (by simp) rfl, fun F hF => by cases hF⟩
    unfold b_named_by
    rw [s1]
    exact seq_ret ((sFor_of hi).trans e2)
def chm (l ps : List Int) : D → Bool
  | .int m => match nb l ps m.toNat with
    | some F => !(F.any (isIm m))
    | none => false
  | _ => false
end Lk51

set_option Elab.async false
set_option linter.all false
set_option maxRecDepth 100000
set_option maxHeartbeats 2000000
namespace Lk51
open PySem PySem.Spec L2 DL
theorem go_find {I : DL.Env → Prop} {c : D → Option D} {g : D → DL.Env → Option DL.Env} {b : SF} : ∀ (ds : List D) (ρ : DL.Env), I ρ → (∀ d ∈ ds, ∀ ρ, I ρ → ∃ ρ1, g d ρ = some ρ1 ∧ (c d = none → ∃ ρ2, b ρ1 = .nx ρ2 ∧ I ρ2) ∧ (∀ x, c d = some x → ∃ ρ2, b ρ1 = .ret x ρ2 ∧ I ρ2)) →
    (ds.findSome? c = none → ∃ ρ', forGo g b ds ρ = .nx ρ' ∧ I ρ') ∧ (∀ x, ds.findSome? c = some x → ∃ ρ', forGo g b ds ρ = .ret x ρ' ∧ I ρ')
  | [], ρ, hI, _ => ⟨fun _ => ⟨ρ, rfl, hI⟩, fun x z => (by cases z)⟩
  | d :: ds, ρ, hI, h => by
    obtain ⟨ρ1, e1, h1, h2⟩ := h d List.mem_cons_self ρ hI
    cases hc : c d with
    | none =>
      obtain ⟨ρ2, e2, hI2⟩ := h1 hc
      have ih := go_find ds ρ2 hI2 fun d hd => h d (List.mem_cons_of_mem _ hd)
      rw [List.findSome?_cons_of_isNone (by rw [hc]; rfl), forGo_cons e1 e2]
      exact ih
    | some y =>
      obtain ⟨ρ2, e2, hI2⟩ := h2 y hc
      rw [List.findSome?_cons_of_isSome (by rw [hc]; rfl), hc]
      refine ⟨fun z => (by cases z), fun x z => ⟨ρ2, ?_, hI2⟩⟩
      cases z
      unfold forGo
      simp only [e1, e2]
/-! all rows, by the law -/
def step (rs : List (List Int)) (s : Int) : List (List Int) := rs.flatMap fun r => (List.range s.toNat).map fun i : Nat => r ++ [(i : Int)]
theorem step_cons (r : List Int) (rs : List (List Int)) (s : Int) : step (r :: rs) s = ((List.range s.toNat).map fun i : Nat => r ++ [(i : Int)]) ++ step rs s := rfl
theorem step_len : ∀ (rs : List (List Int)) (s : Int), (step rs s).length = rs.length * s.toNat
  | [], s => by simp [step]
  | r :: rs, s => by rw [step_cons, List.length_append, step_len rs s, List.length_map, List.length_range, List.length_cons, Nat.succ_mul, Nat.add_comm]
theorem ext_ok {ρ ρ1 : DL.Env} {f : M D} {i : Nat} {ds es : List D} {o : Bool} (h0 : ∃ es, ρ[i]? = some (some (.lst true es))) (h1 : f ρ = .ok (.lst o es) ρ1) (h2 : ρ1[i]? = some (some (.lst true ds))) (hl : ds.length + es.length ≤ 1000000) : eExt i f ρ = .ok .non (ρ1.set i (some (.lst true (ds ++ es)))) := by
  obtain ⟨es', e⟩ := h0
  unfold eExt
  rw [e]
  show mbind f _ ρ = _
  rw [mbind_of h1]
  simp only [h2]
  rw [if_pos hl]
def rowB : SF := (sDrop (eExt 3 (eLcL 6 (iRg1 (aCons (eVar 2) aNil)) (gSet 5) mYes (eFrz (e2 addD (eVar 4) (eTup (aCons (eVar 5) aNil)))) [5])))
def sucY (r : List Int) : D → D
  | .int i => T (r ++ [i])
  | d => d
theorem rowB_ok (c f : Option D) {s : Int} (hs : 1 ≤ s ∧ s ≤ 4) (acc : List (List Int)) (r : List Int) (hr : r.length ≤ 100) (ha : acc.length ≤ 1000) : rowB [c, f, some (.int s), some (.lst true (LL acc)), some (T r), none] = .nx [c, f, some (.int s), some (.lst true (LL (acc ++ (List.range s.toNat).map fun i : Nat => r ++ [(i : Int)]))), some (T r), none] := by
  let ρ : DL.Env := [c, f, some (.int s), some (.lst true (LL acc)), some (T r), none]
  have hi : iRg1 (aCons (eVar 2) aNil) ρ = .ok (rgD 0 s) ρ := iRg1_ok (n := s) (aCons_ok rfl rfl) (by omega)
  have hlc : eLcL 6 (iRg1 (aCons (eVar 2) aNil)) (gSet 5) mYes (eFrz (e2 addD (eVar 4) (eTup (aCons (eVar 5) aNil)))) [5] ρ = .ok (.lst true ((rgD 0 s).map (sucY r))) ρ := by
    refine lc_map1 (i := 5) (ρ1 := ρ) hi (by rw [rgD_len]; omega) rfl rfl (by decide) ?_
    intro d hd
    obtain ⟨i, rfl, _, _⟩ := rgD_mem hd
    let ρd : DL.Env := [c, f, some (.int s), some (.lst true (LL acc)), some (T r), some (.int i)]
    show eFrz _ ρd = .ok (T (r ++ [i])) ρd
    have h1 : eTup (aCons (eVar 5) aNil) ρd = .ok (.tup [.int i]) ρd := eTup_ok (ds := [.int i]) (aCons_ok (ev rfl rfl) rfl) (by simp)
    have h2 : e2 addD (eVar 4) (eTup (aCons (eVar 5) aNil)) ρd = .ok (T (r ++ [i])) ρd := by
      refine DL.e2_ok (ev rfl rfl) h1 ((add_tup (by rw [List.length_map, List.length_singleton]; omega)).trans ?_)
      show _ = some (D.tup ((r ++ [i]).map D.int))
      rw [List.map_append]
      rfl
    exact eFrz_ok h2
  have em : (rgD 0 s).map (sucY r) = LL ((List.range s.toNat).map fun i : Nat => r ++ [(i : Int)]) := by
    obtain ⟨n, rfl⟩ : ∃ n : Nat, s = n := ⟨s.toNat, by omega⟩
    rw [rgD_0, Int.toNat_natCast]
    unfold LL
    rw [List.map_map, List.map_map]
    rfl
  rw [em] at hlc
  have := ext_ok (i := 3) (ds := LL acc) ⟨_, rfl⟩ hlc rfl (by simp; omega)
  refine (sDrop_ok this).trans ?_
  show RS.nx [c, f, some (.int s), some (.lst true (LL acc ++ LL _)), some (T r), none] = _
  unfold LL
  rw [List.map_append]
theorem row_loop (c f : Option D) (s : Int) (hs : 1 ≤ s ∧ s ≤ 4) : ∀ (rs acc : List (List Int)) (x4 : Option D), (∀ r ∈ rs, r.length ≤ 100) → acc.length + rs.length * s.toNat ≤ 1000 →
    ∃ y4, forGo (gSet 4) rowB (LL rs) [c, f, some (.int s), some (.lst true (LL acc)), x4, none] = .nx [c, f, some (.int s), some (.lst true (LL (acc ++ step rs s))), y4, none]
  | [], acc, x4, _, _ => ⟨x4, by rw [show step [] s = [] from rfl, List.append_nil]; rfl⟩
  | r :: rs, acc, x4, hr, hb => by
    have hb' : acc.length + (rs.length * s.toNat + s.toNat) ≤ 1000 := by rw [List.length_cons, Nat.succ_mul] at hb; exact hb
    obtain ⟨y4, ih⟩ := row_loop c f s hs rs (acc ++ ((List.range s.toNat).map fun i : Nat => r ++ [(i : Int)])) (some (T r)) (fun r hx => hr r (List.mem_cons_of_mem _ hx)) (by rw [List.length_append, List.length_map, List.length_range]; omega)
    refine ⟨y4, ?_⟩
    have hb2 := rowB_ok c f hs acc r (hr r List.mem_cons_self) (by omega)
    show forGo (gSet 4) rowB (T r :: LL rs) _ = _
    rw [forGo_cons rfl hb2, ih, step_cons, List.append_assoc]
def sortB : SF := sSeq (sAsg (eLst aNil) (gSet 3)) (sSeq (sFor (iSeq (eVar 1)) (gSet 4) rowB) (sAsg (eFrz (eMove 3)) (gSet 1)))
theorem step_rlen {rs : List (List Int)} {s : Int} {n : Nat} (h : ∀ r ∈ rs, r.length ≤ n) : ∀ r ∈ step rs s, r.length ≤ n + 1 := by
  intro r hr
  obtain ⟨q, hq, hr⟩ := List.mem_flatMap.mp hr
  obtain ⟨i, _, rfl⟩ := List.mem_map.mp hr
  have := h q hq
  rw [List.length_append]
  exact Nat.succ_le_succ this
theorem sort_loop (c : Option D) : ∀ (m : List Int) (rs : List (List Int)) (n : Nat) (x2 x4 : Option D), (∀ x ∈ m, 1 ≤ x ∧ x ≤ 4) → (∀ r ∈ rs, r.length ≤ n) → n + m.length ≤ 50 → m.foldl (· * ·) (rs.length : Int) ≤ 256 →
    ∃ y2 y4, forGo (gSet 2) sortB (m.map D.int) [c, some (.lst false (LL rs)), x2, none, x4, none] = .nx [c, some (.lst false (LL (m.foldl step rs))), y2, none, y4, none]
  | [], rs, n, x2, x4, _, _, _, _ => ⟨x2, x4, rfl⟩
  | s :: m, rs, n, x2, x4, h, hr, hn, hb => by
    have hs := h s List.mem_cons_self
    have hm := fun x hx => h x (List.mem_cons_of_mem s hx)
    have hn' : n + m.length + 1 ≤ 50 := hn
    have el : ((step rs s).length : Int) = rs.length * s := by rw [step_len, Int.natCast_mul, Int.toNat_of_nonneg (by omega)]
    have hb2 : m.foldl (· * ·) ((step rs s).length : Int) ≤ 256 := by rw [el]; exact hb
    have hb3 : ((step rs s).length : Int) ≤ 256 := Int.le_trans (prod_le m _ (fun x hx => (hm x hx).1) (by omega)) hb2
    obtain ⟨z4, e1⟩ := row_loop c (some (.lst false (LL rs))) s hs rs [] x4 (fun r hx => by have := hr r hx; omega) (by rw [← step_len]; simp; omega)
    obtain ⟨y2, y4, ih⟩ := sort_loop c m (step rs s) (n + 1) (some (.int s)) z4 hm (step_rlen hr) (by omega) hb2
    refine ⟨y2, y4, ?_⟩
    have hbd : sortB [c, some (.lst false (LL rs)), some (.int s), none, x4, none] = .nx [c, some (.lst false (LL (step rs s))), some (.int s), none, z4, none] := by
      unfold sortB
      refine Eq.trans (seq_nx (ρ1 := [c, some (.lst false (LL rs)), some (.int s), some (.lst true []), x4, none]) (sAsg_ok (d := .lst true []) (eLst_ok rfl (by simp)) rfl)) ?_
      refine Eq.trans (seq_nx (ρ1 := [c, some (.lst false (LL rs)), some (.int s), some (.lst true (LL (step rs s))), z4, none]) ((sFor_of (iSeq_ok (d := .lst false (LL rs)) (ds := LL rs) rfl (by show some (frzL (LL rs)) = _; rw [frzL_TI]))).trans (by rw [List.nil_append] at e1; exact e1))) ?_
      refine sAsg_ok (d := .lst false (LL (step rs s))) (ρ1 := [c, some (.lst false (LL rs)), some (.int s), none, z4, none]) ?_ rfl
      refine (eFrz_ok (d := .lst true (LL (step rs s))) (ρ1 := [c, some (.lst false (LL rs)), some (.int s), none, z4, none]) rfl).trans ?_
      show Res.ok (D.lst false (frzL (LL (step rs s)))) _ = _
      rw [frzL_TI]
    rw [List.map_cons, forGo_cons rfl hbd]
    exact ih
theorem range_mul (a b : Nat) : List.range (a * b) = (List.range a).flatMap fun q => (List.range b).map fun i => q * b + i := by
  induction a with
  | zero => simp
  | succ a ih => rw [Nat.succ_mul, List.range_add, ih, List.range_succ, List.flatMap_append]; simp
theorem step_slips (m : List Int) (s : Int) (hs : 1 ≤ s) : step ((List.range (NR m)).map fun k : Nat => (slipsR m (k : Int)).reverse) s = (List.range (NR (s :: m))).map fun k : Nat => (slipsR (s :: m) (k : Int)).reverse := by
  have e : NR (s :: m) = NR m * s.toNat := rfl
  rw [e, range_mul, List.map_flatMap]
  unfold step
  rw [List.flatMap_map]
  congr 1
  funext q
  rw [List.map_map]
  refine List.map_congr_left fun i hi => ?_
  have hi := List.mem_range.mp hi
  obtain ⟨t, rfl⟩ : ∃ t : Nat, s = t := ⟨s.toNat, by omega⟩
  rw [Int.toNat_natCast] at hi ⊢
  show _ = (slipsR ((t : Int) :: m) ((q * t + i : Nat) : Int)).reverse
  show _ = (((q * t + i : Nat) : Int) % (t : Int) :: slipsR m (((q * t + i : Nat) : Int) / (t : Int))).reverse
  rw [List.reverse_cons, ← Int.natCast_emod, ← Int.natCast_ediv, Nat.mul_comm q t, Nat.mul_add_mod, Nat.mod_eq_of_lt hi, Nat.mul_add_div (by omega), Nat.div_eq_of_lt hi, Nat.add_zero]
theorem lex_eq : ∀ m : List Int, (∀ x ∈ m, 1 ≤ x) → m.foldr (fun s rs => step rs s) [[]] = (List.range (NR m)).map fun k : Nat => (slipsR m (k : Int)).reverse
  | [], _ => rfl
  | s :: m, h => by
    show step (m.foldr (fun s rs => step rs s) [[]]) s = _
    rw [lex_eq m (fun x hx => h x (List.mem_cons_of_mem _ hx)), step_slips m s (h s List.mem_cons_self)]
theorem law_rows_ok {l : List Int} (c : Club l) : F_law_rows [T l] = .ok (.lst false (LL (rowsL l))) [none] := by
  obtain ⟨y2, y4, e⟩ := sort_loop (some (T l)) l [[]] 0 none none c.s (by simp) (by have := c.n8; omega) c.p
  have el : l.foldl step [[]] = rowsL l := by
    have z := lex_eq l.reverse (fun x hx => (c.s x (List.mem_reverse.mp hx)).1)
    rw [List.foldr_reverse] at z
    exact z
  rw [el] at e
  refine run_ok (b := b_law_rows) (ρ := [some (T l), some (.lst false (LL (rowsL l))), y2, none, y4, none]) (ρ0 := [some (T l), none, none, none, none, none]) ?_ rfl (by simp) rfl
  unfold b_law_rows
  refine Eq.trans (seq_nx (ρ1 := [some (T l), some (.lst false (LL [[]])), none, none, none, none]) (by exact sAsg_ok (d := .lst false [.tup []]) (eFrz_ok (d := .lst true [.tup []]) (eLst_ok (ds := [.tup []]) (aCons_ok (eTup_ok (ds := []) rfl (by simp)) rfl) (by simp))) rfl)) ?_
  refine Eq.trans (seq_nx (ρ1 := [some (T l), some (.lst false (LL (rowsL l))), y2, none, y4, none]) (by refine (sFor_of (ds := l.map .int) ?_).trans e; exact iSeq_ok (d := T l) rfl rfl)) ?_
  exact sRet_ok rfl
/-! the first own slip, by both -/
def cv (l ps : List Int) (r o : Nat) : Option D := if c1 l ps r o = true then some (.tup [.int r, .int o, .int ((apart l.length (slips l r) (slips l o)).getD 0 0)]) else none
def cin (l ps : List Int) (r : Nat) : D → Option D
  | .int o => cv l ps r o.toNat
  | _ => none
def cout (l ps : List Int) : D → Option D
  | .int r => (rgD (r + 1) (N l)).findSome? (cin l ps r.toNat)
  | _ => none
def foV (l ps : List Int) : Option D := (rgD 0 (N l)).findSome? (cout l ps)
theorem c1_one {l ps : List Int} {r o : Nat} (h : c1 l ps r o = true) : ∃ m, apart l.length (slips l r) (slips l o) = [m] ∧ (!(decide (ps.getD r 0 = m) == decide (ps.getD o 0 = m))) = true := by
  unfold c1 at h
  match hp : apart l.length (slips l r) (slips l o), h with
  | [m], h => exact ⟨m, rfl, h⟩
end Lk51

set_option Elab.async false
set_option linter.all false
set_option maxRecDepth 100000
set_option maxHeartbeats 2000000
namespace Lk51
open PySem PySem.Spec L2 DL
theorem is_own_val {l ps : List Int} (h : Picks l ps) {r o : Nat} (hr : r < N l) (ho : o < N l) : F_is_own [T l, T ps, .int r, .int o] = .ok (.bl (c1 l ps r o)) [none, none, none, none] := by
  obtain ⟨p, hp⟩ : ∃ p, p = apart l.length (slips l r) (slips l o) := ⟨_, rfl⟩
  let ρ : DL.Env := [some (T l), some (T ps), some (.int r), some (.int o), none]
  let ρ2 : DL.Env := [some (T l), some (T ps), some (.int r), some (.int o), some (T p)]
  have hu : F_unlike_in [T l, .int r, .int o] = .ok (T p) [none, none, none] := by rw [hp]; exact unlike_in_ok h.c r o
  have e1 : sAsg (eFrz (eCall F_unlike_in (aCons (eVar 0) (aCons (eVar 2) (aCons (eVar 3) aNil))) [] [])) (gSet 4) ρ = .nx ρ2 := sAsg_ok (eFrz_ok (eCall_of (ρ1 := ρ) (aCons_ok rfl (aCons_ok rfl (aCons_ok rfl rfl))) rfl hu rfl)) rfl
  have hl : eBi lenD (aCons (eVar 4) aNil) ρ2 = .ok (.int p.length) ρ2 := eBi_ok (aCons_ok rfl rfl) (len_TI p)
  have hlen : ∀ b, decide ((p.length : Int) = 1) = b → e2 eqD (eBi lenD (aCons (eVar 4) aNil)) (eC (.int 1)) ρ2 = .ok (.bl b) ρ2 := fun b hb => eqi_ok hl rfl hb
  unfold c1
  rw [← hp]
  by_cases c : (p.length : Int) = 1
  · obtain ⟨m, rfl⟩ : ∃ m, p = [m] := by
      match p, c with
      | [m], _ => exact ⟨m, rfl⟩
    have i1 : e2 ixD (eVar 1) (eVar 2) ρ2 = .ok (.int (ps.getD r 0)) ρ2 := e2_ok (x := T ps) (y := .int r) rfl rfl (pick_ix h hr)
    have i2 : e2 ixD (eVar 1) (eVar 3) ρ2 = .ok (.int (ps.getD o 0)) ρ2 := e2_ok (x := T ps) (y := .int o) rfl rfl (pick_ix h ho)
    have i3 : e2 ixD (eVar 4) (eC (.int 0)) ρ2 = .ok (.int m) ρ2 := rfl
    have q := ne_ok (eqi_ok i1 i3 rfl) (eqi_ok i2 i3 rfl) (eqB_bl (decide (ps.getD r 0 = m)) (decide (ps.getD o 0 = m)))
    refine run_ok (b := b_is_own) (ρ := ρ2) (ρ0 := ρ) ?_ rfl (by simp [ρ2]) rfl
    unfold b_is_own
    refine Eq.trans (seq_nx e1) ?_
    exact sRet_ok (eAnd_t (hlen true (decide_eq_true c)) q)
  · rw [one1_no c]
    refine run_ok (b := b_is_own) (ρ := ρ2) (ρ0 := ρ) ?_ rfl (by simp [ρ2]) rfl
    unfold b_is_own
    refine Eq.trans (seq_nx e1) ?_
    exact sRet_ok (eAnd_f (hlen false (decide_eq_false c)))
theorem foB_val {l ps : List Int} (h : Picks l ps) {r o : Nat} (hr : r < N l) (ho : o < N l) : (cv l ps r o = none → foB [some (T l), some (T ps), some (.int r), some (.int o)] = .nx [some (T l), some (T ps), some (.int r), some (.int o)]) ∧ ∀ x, cv l ps r o = some x → foB [some (T l), some (T ps), some (.int r), some (.int o)] = .ret x [some (T l), some (T ps), some (.int r), some (.int o)] := by
  let ρ : DL.Env := [some (T l), some (T ps), some (.int r), some (.int o)]
  have i1 : e2 ixD (eVar 1) (eVar 2) ρ = .ok (.int (ps.getD r 0)) ρ := e2_ok (x := T ps) (y := .int r) rfl rfl (pick_ix h hr)
  have i2 : e2 ixD (eVar 1) (eVar 3) ρ = .ok (.int (ps.getD o 0)) ρ := e2_ok (x := T ps) (y := .int o) rfl rfl (pick_ix h ho)
  have hcall : eCall F_is_own (aCons (eVar 0) (aCons (eVar 1) (aCons (eVar 2) (aCons (eVar 3) aNil)))) [] [] ρ = .ok (.bl (c1 l ps r o)) ρ := eCall_of (ρ1 := ρ) (aCons_ok rfl (aCons_ok rfl (aCons_ok rfl (aCons_ok rfl rfl)))) rfl (is_own_val h hr ho) rfl
  show (cv l ps r o = none → foB ρ = .nx ρ) ∧ ∀ x, cv l ps r o = some x → foB ρ = .ret x ρ
  unfold foB cv
  cases hc : c1 l ps r o with
  | false =>
    refine ⟨fun _ => ?_, fun x z => (by cases z)⟩
    rw [hc] at hcall
    cases c : !decide (ps.getD r 0 = ps.getD o 0) with
    | false => exact (sIf_f (G := sNext) (mAnd_f (eB_ok (nei_ok i1 i2 c)))).trans rfl
    | true => exact (sIf_f (G := sNext) (mAnd_t (eB_ok (nei_ok i1 i2 c)) (eB_ok hcall))).trans rfl
  | true =>
    refine ⟨fun z => (by cases z), fun x z => ?_⟩
    obtain ⟨m, hm, hne⟩ := c1_one hc
    have hd : (!decide (ps.getD r 0 = ps.getD o 0)) = true := by
      by_cases e : ps.getD r 0 = ps.getD o 0
      · rw [e] at hne
        simp at hne
      · rw [decide_eq_false e]
        rfl
    rw [hc] at hcall
    have ht := mAnd_t (eB_ok (nei_ok i1 i2 hd)) (eB_ok hcall)
    have hu : F_unlike_in [T l, .int r, .int o] = .ok (T [m]) [none, none, none] := by rw [← hm]; exact unlike_in_ok h.c r o
    have hcu : eCall F_unlike_in (aCons (eVar 0) (aCons (eVar 2) (aCons (eVar 3) aNil))) [] [] ρ = .ok (T [m]) ρ := eCall_of (ρ1 := ρ) (aCons_ok rfl (aCons_ok rfl (aCons_ok rfl rfl))) rfl hu rfl
    have hx : e2 ixD (eCall F_unlike_in (aCons (eVar 0) (aCons (eVar 2) (aCons (eVar 3) aNil))) [] []) (eC (.int 0)) ρ = .ok (.int m) ρ := e2_ok hcu rfl rfl
    rw [if_pos rfl, hm] at z
    cases z
    exact (sIf_t ht).trans (sRet_ok (eTup_ok (ds := [.int r, .int o, .int m]) (aCons_ok rfl (aCons_ok rfl (aCons_ok hx rfl))) (by simp)))
theorem first_own_val {l ps : List Int} (h : Picks l ps) : F_first_own [T l, T ps] = .ok ((foV l ps).getD .non) [none, none] := by
  have hN := h.c.Nle
  have hlen : ∀ x2 x3, eBi lenD (aCons (eVar 1) aNil) [some (T l), some (T ps), x2, x3] = .ok (.int (N l)) [some (T l), some (T ps), x2, x3] := fun x2 x3 => eBi_ok (aCons_ok rfl rfl) (by rw [len_TI, h.n])
  let ρ0 : DL.Env := [some (T l), some (T ps), none, none]
  have g1 : ∀ R : SF, sSeq (sDrop (eCall F_check_club (aCons (eVar 0) aNil) [] [])) R ρ0 = R ρ0 := fun R => seq_nx (sDrop_ok (eCall_of (ρ1 := ρ0) (aCons_ok rfl rfl) rfl (check_ok h.c) rfl))
  have g2 : ∀ R : SF, sSeq (sDrop (eCall F_check_picks (aCons (eVar 0) (aCons (eVar 1) aNil)) [] [])) R ρ0 = R ρ0 := fun R => seq_nx (sDrop_ok (eCall_of (ρ1 := ρ0) (aCons_ok rfl (aCons_ok rfl rfl)) rfl (check_picks_ok h) rfl))
  have main := go_find (I := FI l ps) (c := cout l ps) (g := gSet 2) (b := sFor (iRg2 (aCons (e2 addD (eVar 2) (eC (.int 1))) (aCons (eBi lenD (aCons (eVar 1) aNil)) aNil))) (gSet 3) foB) (rgD 0 (N l)) ρ0 ⟨_, _, rfl⟩ (by
    rintro d hd ρ ⟨x2, x3, rfl⟩
    obtain ⟨i, rfl, h0, h1⟩ := rgD_mem hd
    obtain ⟨r, rfl⟩ : ∃ r : Nat, i = r := ⟨i.toNat, by omega⟩
    let ρr : DL.Env := [some (T l), some (T ps), some (.int r), x3]
    refine ⟨ρr, rfl, ?_⟩
    have hi : iRg2 (aCons (e2 addD (eVar 2) (eC (.int 1))) (aCons (eBi lenD (aCons (eVar 1) aNil)) aNil)) ρr = .ok (rgD ((r : Int) + 1) (N l)) ρr := by
      have ha : e2 addD (eVar 2) (eC (.int 1)) ρr = .ok (.int ((r : Int) + 1)) ρr := add_ok rfl rfl
      exact iRg2_ok (m := (r : Int) + 1) (n := N l) (aCons_ok ha (aCons_ok (hlen _ _) rfl)) (by omega)
    rw [sFor_of hi]
    have inner := go_find (I := FR l ps r) (c := cin l ps r) (g := gSet 3) (b := foB) (rgD ((r : Int) + 1) (N l)) ρr ⟨_, rfl⟩ (by
      rintro d hd ρ ⟨y, rfl⟩
      obtain ⟨i, rfl, h2, h3⟩ := rgD_mem hd
      obtain ⟨o, rfl⟩ : ∃ o : Nat, i = o := ⟨i.toNat, by omega⟩
      have q := foB_val h (r := r) (o := o) (by omega) (by omega)
      exact ⟨[some (T l), some (T ps), some (.int r), some (.int o)], rfl, fun z => ⟨_, q.1 z, _, rfl⟩, fun x z => ⟨_, q.2 x z, _, rfl⟩⟩)
    have ec : cout l ps (.int r) = (rgD ((r : Int) + 1) (N l)).findSome? (cin l ps r) := rfl
    rw [ec]
    refine ⟨fun z => ?_, fun x z => ?_⟩
    · obtain ⟨ρ', e, y, rfl⟩ := inner.1 z
      exact ⟨_, e, _, _, rfl⟩
    · obtain ⟨ρ', e, y, rfl⟩ := inner.2 x z
      exact ⟨_, e, _, _, rfl⟩)
  have hi0 : iRg1 (aCons (eBi lenD (aCons (eVar 1) aNil)) aNil) ρ0 = .ok (rgD 0 (N l)) ρ0 := iRg1_ok (n := N l) (aCons_ok (hlen _ _) rfl) (by omega)
  unfold foV
  cases hc : (rgD 0 (N l)).findSome? (cout l ps) with
  | none =>
    obtain ⟨ρ', e, x2, x3, rfl⟩ := main.1 hc
    refine run_ok (b := b_first_own) (ρ := [some (T l), some (T ps), x2, x3]) (ρ0 := ρ0) ?_ rfl (by simp) rfl
    unfold b_first_own
    rw [g1, g2]
    exact (seq_nx ((sFor_of hi0).trans e)).trans (sRet_ok rfl)
  | some x =>
    obtain ⟨ρ', e, x2, x3, rfl⟩ := main.2 x hc
    refine run_ok (b := b_first_own) (ρ := [some (T l), some (T ps), x2, x3]) (ρ0 := ρ0) ?_ rfl (by simp) rfl
    unfold b_first_own
    rw [g1, g2]
    exact seq_ret ((sFor_of hi0).trans e)
theorem law_fo_val {l ps : List Int} (h : Picks l ps) : F_law_first_own [T l, T ps] = .ok ((foV l ps).getD .non) [none, none] := by
  have hN := h.c.Nle
  let ρ0 : DL.Env := [some (T l), some (T ps), none, none, none, none, none]
  let ρ1 : DL.Env := [some (T l), some (T ps), some (.lst false (LL (rowsL l))), none, none, none, none]
  have s1 : ∀ R : SF, sSeq (sAsg (eFrz (eCall F_law_rows (aCons (eVar 0) aNil) [] [])) (gSet 2)) R ρ0 = R ρ1 := fun R => seq_nx (sAsg_ok (d := .lst false (LL (rowsL l))) (ρ1 := ρ0) ((eFrz_ok (eCall_of (ρ1 := ρ0) (aCons_ok rfl rfl) rfl (law_rows_ok h.c) rfl)).trans (by show Res.ok (D.lst false (frzL (LL (rowsL l)))) ρ0 = _; rw [frzL_TI])) rfl)
  let I : DL.Env → Prop := fun ρ => ∃ x3 x4 x5, ρ = [some (T l), some (T ps), some (.lst false (LL (rowsL l))), x3, x4, x5, none]
  have hlen : ∀ x3 x4 x5, eBi lenD (aCons (eVar 2) aNil) [some (T l), some (T ps), some (.lst false (LL (rowsL l))), x3, x4, x5, none] = .ok (.int (N l)) [some (T l), some (T ps), some (.lst false (LL (rowsL l))), x3, x4, x5, none] := fun x3 x4 x5 => eBi_ok (aCons_ok (ev rfl rfl) rfl) (by rw [len_lst]; unfold LL rowsL; rw [List.length_map, List.length_map, List.length_range])
  have main := go_find (I := I) (c := cout l ps) (g := gSet 3) (b := sFor (iRg2 (aCons (e2 addD (eVar 3) (eC (.int 1))) (aCons (eBi lenD (aCons (eVar 2) aNil)) aNil))) (gSet 4) loB) (rgD 0 (N l)) ρ1 ⟨_, _, _, rfl⟩ (by
    rintro d hd ρ ⟨x3, x4, x5, rfl⟩
    obtain ⟨i, rfl, h0, h1⟩ := rgD_mem hd
    obtain ⟨r, rfl⟩ : ∃ r : Nat, i = r := ⟨i.toNat, by omega⟩
    let ρr : DL.Env := [some (T l), some (T ps), some (.lst false (LL (rowsL l))), some (.int r), x4, x5, none]
    refine ⟨ρr, rfl, ?_⟩
    have hi : iRg2 (aCons (e2 addD (eVar 3) (eC (.int 1))) (aCons (eBi lenD (aCons (eVar 2) aNil)) aNil)) ρr = .ok (rgD ((r : Int) + 1) (N l)) ρr := by
      have ha : e2 addD (eVar 3) (eC (.int 1)) ρr = .ok (.int ((r : Int) + 1)) ρr := add_ok rfl rfl
      exact iRg2_ok (m := (r : Int) + 1) (n := N l) (aCons_ok ha (aCons_ok (hlen _ _ _) rfl)) (by omega)
    rw [sFor_of hi]
    have inner := go_find (I := fun ρ => ∃ x4 x5, ρ = [some (T l), some (T ps), some (.lst false (LL (rowsL l))), some (.int r), x4, x5, none]) (c := cin l ps r) (g := gSet 4) (b := loB) (rgD ((r : Int) + 1) (N l)) ρr ⟨_, _, rfl⟩ (by
      rintro d hd ρ ⟨x4, x5, rfl⟩
      obtain ⟨i, rfl, h2, h3⟩ := rgD_mem hd
      obtain ⟨o, rfl⟩ : ∃ o : Nat, i = o := ⟨i.toNat, by omega⟩
      obtain ⟨y5, q1, q2⟩ := loB_ok h (r := r) (o := o) (by omega) (by omega) x5
      refine ⟨loE l ps r o x5, rfl, fun z => ⟨_, q1 ?_, _, _, rfl⟩, fun x z => ⟨loE l ps r o y5, ?_, _, _, rfl⟩⟩
      · have z : cv l ps r o = none := z
        unfold cv at z
        by_cases hc : c1 l ps r o = true
        · rw [if_pos hc] at z; cases z
        · simpa using hc
      · have z : cv l ps r o = some x := z
        unfold cv at z
        by_cases hc : c1 l ps r o = true
        · rw [if_pos hc] at z
          cases z
          exact q2 hc
        · rw [if_neg hc] at z; cases z)
    have ec : cout l ps (.int r) = (rgD ((r : Int) + 1) (N l)).findSome? (cin l ps r) := rfl
    rw [ec]
    refine ⟨fun z => ?_, fun x z => ?_⟩
    · obtain ⟨ρ', e, x4, x5, rfl⟩ := inner.1 z
      exact ⟨_, e, _, _, _, rfl⟩
    · obtain ⟨ρ', e, x4, x5, rfl⟩ := inner.2 x z
      exact ⟨_, e, _, _, _, rfl⟩)
  have hi0 : iRg1 (aCons (eBi lenD (aCons (eVar 2) aNil)) aNil) ρ1 = .ok (rgD 0 (N l)) ρ1 := iRg1_ok (n := N l) (aCons_ok (hlen _ _ _) rfl) (by omega)
  unfold foV
  cases hc : (rgD 0 (N l)).findSome? (cout l ps) with
  | none =>
    obtain ⟨ρ', e, x3, x4, x5, rfl⟩ := main.1 hc
    refine run_ok (b := b_law_first_own) (ρ := [some (T l), some (T ps), some (.lst false (LL (rowsL l))), x3, x4, x5, none]) (ρ0 := ρ0) ?_ rfl (by simp) rfl
    unfold b_law_first_own
    rw [s1]
    exact (seq_nx ((sFor_of hi0).trans e)).trans (sRet_ok rfl)
  | some x =>
    obtain ⟨ρ', e, x3, x4, x5, rfl⟩ := main.2 x hc
    refine run_ok (b := b_law_first_own) (ρ := [some (T l), some (T ps), some (.lst false (LL (rowsL l))), x3, x4, x5, none]) (ρ0 := ρ0) ?_ rfl (by simp) rfl
    unfold b_law_first_own
    rw [s1]
    exact seq_ret ((sFor_of hi0).trans e)
end Lk51

set_option Elab.async false
set_option linter.all false
set_option maxRecDepth 100000
set_option maxHeartbeats 2000000
namespace Lk51
open PySem PySem.Spec L2 DL
/-! ### rows and their places, both ways -/
def plR : List Int → List Int → Int
  | s :: m, x :: t => plR m t * s + x
  | _, _ => 0
def RowR : List Int → List Int → Prop
  | [], [] => True
  | s :: m, x :: t => 0 ≤ x ∧ x < s ∧ RowR m t
  | _, _ => False
theorem plR_slips : ∀ (m t : List Int), RowR m t → slipsR m (plR m t) = t ∧ 0 ≤ plR m t ∧ plR m t < NR m
  | [], [], _ => ⟨rfl, by decide, by decide⟩
  | [], _ :: _, h => h.elim
  | _ :: _, [], h => h.elim
  | s :: m, x :: t, h => by
    obtain ⟨h0, h1, h2⟩ := h
    obtain ⟨i1, i2, i3⟩ := plR_slips m t h2
    have hs : 0 < s := by omega
    have e : plR (s :: m) (x :: t) = plR m t * s + x := rfl
    have em : (plR m t * s + x) % s = x := by rw [Int.mul_comm, Int.mul_add_emod_self_left, Int.emod_eq_of_lt h0 h1]
    have ed : (plR m t * s + x) / s = plR m t := by rw [Int.mul_comm, Int.mul_add_ediv_left _ _ (by omega), Int.ediv_eq_zero_of_lt h0 h1, Int.add_zero]
    rw [e]
    refine ⟨?_, ?_, ?_⟩
    · show (plR m t * s + x) % s :: slipsR m ((plR m t * s + x) / s) = _
      rw [em, ed, i1]
    · have := Int.mul_nonneg i2 (Int.le_of_lt hs); omega
    · have eN : NR (s :: m) = NR m * s.toNat := rfl
      rw [eN, Int.natCast_mul, Int.toNat_of_nonneg (by omega)]
      have h4 : (plR m t + 1) * s ≤ NR m * s := Int.mul_le_mul_of_nonneg_right (by omega) (by omega)
      rw [Int.add_mul] at h4
      omega
theorem slips_plR : ∀ (m : List Int) (k : Int), (∀ x ∈ m, 1 ≤ x) → 0 ≤ k → k < NR m → plR m (slipsR m k) = k ∧ RowR m (slipsR m k)
  | [], k, _, h0, h1 => ⟨by have : NR [] = 1 := rfl; rw [this] at h1; show (0 : Int) = k; omega, trivial⟩
  | s :: m, k, h, h0, h1 => by
    have hs := h s List.mem_cons_self
    have e : NR (s :: m) = NR m * s.toNat := rfl
    rw [e, Int.natCast_mul, Int.toNat_of_nonneg (by omega)] at h1
    obtain ⟨i1, i2⟩ := slips_plR m (k / s) (fun x hx => h x (List.mem_cons_of_mem _ hx)) (Int.ediv_nonneg h0 (by omega)) (Int.ediv_lt_of_lt_mul (by omega) h1)
    refine ⟨?_, Int.emod_nonneg _ (by omega), Int.emod_lt_of_pos _ (by omega), i2⟩
    show plR m (slipsR m (k / s)) * s + k % s = k
    rw [i1, Int.mul_comm]
    exact Int.mul_ediv_add_emod k s
/-! ### what a member's slip tells -/
def sl (l : List Int) (m k : Nat) : Nat := ((slips l (k : Int)).getD m 0).toNat
theorem nb_some {l : List Int} {m : Nat} : ∀ (qs : List Int) (k : Nat) (F G : List D), (∀ i, i < qs.length → sl l m (k + i) < F.length) → nbGo l m k qs F = some G →
    G.length = F.length ∧ (∀ (s : Nat) (q : Int), F[s]? = some (D.int q) → G[s]? = some (D.int q)) ∧ (∀ (i : Nat) (q : Int), qs[i]? = some q → G[sl l m (k + i)]? = some (D.int q)) ∧ ∀ (s : Nat) (q : Int), G[s]? = some (D.int q) → F[s]? = some (D.int q) ∨ q ∈ qs
  | [], k, F, G, _, h => by
    cases h
    exact ⟨rfl, fun _ _ h => h, fun i q h => by simp at h, fun _ _ h => .inl h⟩
  | p :: qs, k, F, G, hr, h => by
    have hk : sl l m k < F.length := hr 0 (by simp)
    have hr' : ∀ i, i < qs.length → sl l m (k + 1 + i) < F.length := fun i hi => by
      have := hr (i + 1) (by simp; omega)
      rw [show k + 1 + i = k + (i + 1) by omega]
      exact this
    have hF : F[sl l m k]? = some F[sl l m k] := List.getElem?_eq_getElem hk
    have e : nbGo l m k (p :: qs) F = match F[sl l m k]? with
      | some (.int q) => if q = p then nbGo l m (k + 1) qs F else none
      | _ => nbGo l m (k + 1) qs (F.set (sl l m k) (.int p)) := rfl
    rw [e, hF] at h
    have fin : ∀ F' : List D, F'.length = F.length → F'[sl l m k]? = some (.int p) → (∀ (s : Nat) (q : Int), F[s]? = some (D.int q) → F'[s]? = some (D.int q)) → (∀ (s : Nat) (q : Int), F'[s]? = some (D.int q) → F[s]? = some (D.int q) ∨ q = p) → nbGo l m (k + 1) qs F' = some G →
        G.length = F.length ∧ (∀ (s : Nat) (q : Int), F[s]? = some (D.int q) → G[s]? = some (D.int q)) ∧ (∀ (i : Nat) (q : Int), (p :: qs)[i]? = some q → G[sl l m (k + i)]? = some (D.int q)) ∧ ∀ (s : Nat) (q : Int), G[s]? = some (D.int q) → F[s]? = some (D.int q) ∨ q ∈ p :: qs := by
      intro F' hl hp h1 h2 h3
      obtain ⟨a1, a2, a3, a4⟩ := nb_some qs (k + 1) F' G (fun i hi => by rw [hl]; exact hr' i hi) h3
      refine ⟨a1.trans hl, fun s q z => a2 s q (h1 s q z), fun i q z => ?_, fun s q z => ?_⟩
      · cases i with
        | zero =>
          have : p = q := by simpa using z
          subst this
          exact a2 _ _ hp
        | succ i =>
          rw [show k + (i + 1) = k + 1 + i by omega]
          exact a3 i q (by simpa using z)
      · rcases a4 s q z with z | z
        · rcases h2 s q z with z | z
          · exact .inl z
          · exact .inr (by simp [z])
        · exact .inr (List.mem_cons_of_mem _ z)
    have other : F[sl l m k] ≠ .int p → (∀ q, F[sl l m k] ≠ .int q) → nbGo l m (k + 1) qs (F.set (sl l m k) (.int p)) = some G → _ := fun _ hno h3 => fin (F.set (sl l m k) (.int p)) List.length_set (by rw [List.getElem?_set_self hk]) (fun s q z => by
        by_cases es : sl l m k = s
        · subst es
          rw [hF] at z
          exact absurd (Option.some.inj z) (hno q)
        · rw [List.getElem?_set_ne es]; exact z) (fun s q z => by
        by_cases es : sl l m k = s
        · subst es
          rw [List.getElem?_set_self hk] at z
          cases z
          exact .inr rfl
        · rw [List.getElem?_set_ne es] at z; exact .inl z) h3
    cases hx : F[sl l m k] with
    | int q =>
      rw [hx] at h
      dsimp only at h
      by_cases eq : q = p
      · rw [if_pos eq] at h
        subst eq
        exact fin F rfl (by rw [hF, hx]) (fun _ _ z => z) (fun _ _ z => .inl z) h
      · rw [if_neg eq] at h; cases h
    | _ =>
      rw [hx] at h
      exact other (by rw [hx]; intro z; cases z) (fun q => by rw [hx]; intro z; cases z) h
theorem nb_none {l : List Int} {m : Nat} : ∀ (qs : List Int) (k : Nat) (F : List D), (∀ i, i < qs.length → sl l m (k + i) < F.length) → nbGo l m k qs F = none →
    ∃ (i : Nat) (q : Int), qs[i]? = some q ∧ ((∃ p : Int, p ≠ q ∧ F[sl l m (k + i)]? = some (D.int p)) ∨ ∃ (j : Nat) (p : Int), qs[j]? = some p ∧ p ≠ q ∧ sl l m (k + j) = sl l m (k + i))
  | [], k, F, _, h => by cases h
  | p :: qs, k, F, hr, h => by
    have hk : sl l m k < F.length := hr 0 (by simp)
    have hr' : ∀ i, i < qs.length → sl l m (k + 1 + i) < F.length := fun i hi => by
      have := hr (i + 1) (by simp; omega)
      rw [show k + 1 + i = k + (i + 1) by omega]
      exact this
    have hF : F[sl l m k]? = some F[sl l m k] := List.getElem?_eq_getElem hk
    have e : nbGo l m k (p :: qs) F = match F[sl l m k]? with
      | some (.int q) => if q = p then nbGo l m (k + 1) qs F else none
      | _ => nbGo l m (k + 1) qs (F.set (sl l m k) (.int p)) := rfl
    rw [e, hF] at h
    have lift : ∀ F' : List D, F'.length = F.length → (∀ (s : Nat) (q : Int), F'[s]? = some (D.int q) → F[s]? = some (D.int q) ∨ (q = p ∧ s = sl l m k)) → nbGo l m (k + 1) qs F' = none →
        ∃ (i : Nat) (q : Int), (p :: qs)[i]? = some q ∧ ((∃ p : Int, p ≠ q ∧ F[sl l m (k + i)]? = some (D.int p)) ∨ ∃ (j : Nat) (p' : Int), (p :: qs)[j]? = some p' ∧ p' ≠ q ∧ sl l m (k + j) = sl l m (k + i)) := by
      intro F' hl h2 h3
      obtain ⟨i, q, a1, a2⟩ := nb_none qs (k + 1) F' (fun i hi => by rw [hl]; exact hr' i hi) h3
      refine ⟨i + 1, q, by simpa using a1, ?_⟩
      rw [show k + (i + 1) = k + 1 + i by omega]
      rcases a2 with ⟨p', hp, hz⟩ | ⟨j, p', b1, b2, b3⟩
      · rcases h2 _ _ hz with hz | ⟨rfl, hz⟩
        · exact .inl ⟨p', hp, hz⟩
        · exact .inr ⟨0, p', rfl, hp, hz.symm⟩
      · exact .inr ⟨j + 1, p', by simpa using b1, b2, by rw [show k + (j + 1) = k + 1 + j by omega]; exact b3⟩
    have other : nbGo l m (k + 1) qs (F.set (sl l m k) (.int p)) = none → _ := lift (F.set (sl l m k) (.int p)) List.length_set (fun s q z => by
        by_cases es : sl l m k = s
        · subst es
          rw [List.getElem?_set_self hk] at z
          cases z
          exact .inr ⟨rfl, rfl⟩
        · rw [List.getElem?_set_ne es] at z; exact .inl z)
    cases hx : F[sl l m k] with
    | int q =>
      rw [hx] at h
      dsimp only at h
      by_cases eq : q = p
      · rw [if_pos eq] at h
        exact lift F rfl (fun _ _ z => .inl z) h
      · exact ⟨0, p, rfl, .inl ⟨q, eq, by rw [Nat.add_zero, hF, hx]⟩⟩
    | _ =>
      rw [hx] at h
      exact other h
theorem sl_lt {l : List Int} (c : Club l) {m k : Nat} (hm : m < l.length) (hk : k < N l) : sl l m k < (List.replicate (l.getD m 0).toNat (D.non)).length := by
  have q := (c.row hk).1.at hm
  unfold sl
  rw [List.length_replicate]
  omega
theorem rep_no {n s : Nat} {q : Int} : ¬ (List.replicate n D.non)[s]? = some (D.int q) := fun h => by
  have := List.eq_of_mem_replicate (List.mem_of_getElem? h)
  cases this
/-- the picks that a member's slips tell -/
theorem nb_is {l ps : List Int} (h : Picks l ps) {m : Nat} (hm : m < l.length) {G : List D} (e : nb l ps m = some G) : (∀ k, k < N l → G[sl l m k]? = some (.int (ps.getD k 0))) ∧ ∀ q, D.int q ∈ G → q ∈ ps := by
  have hn := h.n
  obtain ⟨a1, a2, a3, a4⟩ := nb_some ps 0 _ G (fun i hi => by rw [Nat.zero_add]; exact sl_lt h.c hm (by omega)) e
  refine ⟨fun k hk => ?_, fun q hq => ?_⟩
  · have := a3 k (ps.getD k 0) (by rw [List.getD_eq_getElem?_getD, List.getElem?_eq_getElem (by omega)]; rfl)
    rw [Nat.zero_add] at this
    exact this
  · obtain ⟨s, hs, e2⟩ := List.getElem_of_mem hq
    rcases a4 s q (by rw [List.getElem?_eq_getElem hs, e2]) with z | z
    · exact absurd z rep_no
    · exact z
theorem nb_not {l ps : List Int} (h : Picks l ps) {m : Nat} (hm : m < l.length) (e : nb l ps m = none) : ∃ i j, i < N l ∧ j < N l ∧ sl l m i = sl l m j ∧ ps.getD i 0 ≠ ps.getD j 0 := by
  have hn := h.n
  obtain ⟨i, q, a1, a2⟩ := nb_none ps 0 _ (fun i hi => by rw [Nat.zero_add]; exact sl_lt h.c hm (by omega)) e
  have hi : i < ps.length := (List.getElem?_eq_some_iff.mp a1).1
  rcases a2 with ⟨p, hp, hz⟩ | ⟨j, p, b1, b2, b3⟩
  · exact absurd hz rep_no
  · have hj : j < ps.length := (List.getElem?_eq_some_iff.mp b1).1
    rw [Nat.zero_add, Nat.zero_add] at b3
    refine ⟨j, i, by omega, by omega, b3, ?_⟩
    rw [List.getD_eq_getElem?_getD, List.getD_eq_getElem?_getD, a1, b1]
    exact b2
end Lk51

set_option Elab.async false
set_option linter.all false
set_option maxRecDepth 100000
set_option maxHeartbeats 2000000
namespace Lk51
open PySem PySem.Spec L2 DL
theorem rgD_in {a b i : Int} (h0 : a ≤ i) (h1 : i < b) : D.int i ∈ rgD a b := by
  unfold rgD
  refine List.mem_map.mpr ⟨(i - a).toNat, List.mem_range.mpr (by omega), ?_⟩
  rw [show a + ((i - a).toNat : Int) = i by omega]
theorem beq_comm_b (a b : Bool) : (a == b) = (b == a) := by cases a <;> cases b <;> rfl
theorem c1_comm (l ps : List Int) (r o : Nat) : c1 l ps r o = c1 l ps o r := by
  unfold c1
  rw [apart_comm]
  congr 1
  funext m
  rw [beq_comm_b]
/-- no own slip counts -/
def NoOwn (l ps : List Int) : Prop := ∀ r o : Nat, r < N l → o < N l → c1 l ps r o = false
theorem no_own {l ps : List Int} (h : foV l ps = none) : NoOwn l ps := by
  have go : ∀ r o : Nat, r < o → o < N l → c1 l ps r o = false := by
    intro r o h1 h2
    have z := List.findSome?_eq_none_iff.mp h (.int r) (rgD_in (by omega) (by omega))
    have z : (rgD ((r : Int) + 1) (N l)).findSome? (cin l ps r) = none := z
    have z := List.findSome?_eq_none_iff.mp z (.int o) (rgD_in (by omega) (by omega))
    have z : cv l ps r o = none := z
    unfold cv at z
    by_cases hc : c1 l ps r o = true
    · rw [if_pos hc] at z; cases z
    · simpa using hc
  intro r o hr ho
  rcases Nat.lt_trichotomy r o with z | z | z
  · exact go r o z ho
  · subst z
    unfold c1
    rw [apart_self]
    rfl
  · rw [c1_comm]
    exact go o r z hr
theorem own_some {l ps : List Int} {x : D} (h : foV l ps = some x) : ∃ r o : Nat, r < N l ∧ o < N l ∧ c1 l ps r o = true := by
  obtain ⟨d, hd, z⟩ := List.exists_of_findSome?_eq_some h
  obtain ⟨i, rfl, h0, h1⟩ := rgD_mem hd
  obtain ⟨r, rfl⟩ : ∃ r : Nat, i = r := ⟨i.toNat, by omega⟩
  have z : (rgD ((r : Int) + 1) (N l)).findSome? (cin l ps r) = some x := z
  obtain ⟨d, hd, z⟩ := List.exists_of_findSome?_eq_some z
  obtain ⟨i, rfl, h2, h3⟩ := rgD_mem hd
  obtain ⟨o, rfl⟩ : ∃ o : Nat, i = o := ⟨i.toNat, by omega⟩
  have z : cv l ps r o = some x := z
  unfold cv at z
  by_cases hc : c1 l ps r o = true
  · exact ⟨r, o, by omega, by omega, hc⟩
  · rw [if_neg hc] at z; cases z
theorem own_iff {l ps : List Int} (h : NoOwn l ps) {r o : Nat} (hr : r < N l) (ho : o < N l) {m : Int} (ha : apart l.length (slips l r) (slips l o) = [m]) : ps.getD r 0 = m ↔ ps.getD o 0 = m := by
  have z := h r o hr ho
  unfold c1 at z
  rw [ha] at z
  have z : (!(decide (ps.getD r 0 = m) == decide (ps.getD o 0 = m))) = false := z
  by_cases h1 : ps.getD r 0 = m <;> by_cases h2 : ps.getD o 0 = m
  · exact ⟨fun _ => h2, fun _ => h1⟩
  · rw [decide_eq_true h1, decide_eq_false h2] at z; cases z
  · rw [decide_eq_false h1, decide_eq_true h2] at z; cases z
  · exact ⟨fun q => absurd q h1, fun q => absurd q h2⟩
/-! three members -/
def idx (A B C a b c : Int) : Nat := (plR [C, B, A] [c, b, a]).toNat
structure In3 (A B C a b c : Int) : Prop where
  a : 0 ≤ a ∧ a < A
  b : 0 ≤ b ∧ b < B
  c : 0 ≤ c ∧ c < C
theorem idx_ok {A B C a b c : Int} (h : In3 A B C a b c) : idx A B C a b c < N [A, B, C] ∧ slips [A, B, C] (idx A B C a b c) = [a, b, c] := by
  obtain ⟨i1, i2, i3⟩ := plR_slips [C, B, A] [c, b, a] ⟨h.c.1, h.c.2, h.b.1, h.b.2, h.a.1, h.a.2, trivial⟩
  have hN : N [A, B, C] = NR [C, B, A] := rfl
  refine ⟨by unfold idx; omega, ?_⟩
  show (slipsR [C, B, A] ((idx A B C a b c : Nat) : Int)).reverse = _
  have e : ((idx A B C a b c : Nat) : Int) = plR [C, B, A] [c, b, a] := by unfold idx; omega
  rw [e, i1]
  rfl
theorem of_idx {A B C : Int} (c3 : Club [A, B, C]) {k : Nat} (hk : k < N [A, B, C]) : ∃ a b c, In3 A B C a b c ∧ k = idx A B C a b c ∧ slips [A, B, C] k = [a, b, c] := by
  have hN : N [A, B, C] = NR [C, B, A] := rfl
  obtain ⟨i1, i2⟩ := slips_plR [C, B, A] k (fun x hx => (c3.s x (by simp at hx ⊢; omega)).1) (by omega) (by omega)
  match hs : slipsR [C, B, A] (k : Int), i2 with
  | [c, b, a], i2 =>
    obtain ⟨x1, x2, y1, y2, z1, z2, _⟩ := i2
    rw [hs] at i1
    refine ⟨a, b, c, ⟨⟨z1, z2⟩, ⟨y1, y2⟩, ⟨x1, x2⟩⟩, by unfold idx; omega, ?_⟩
    show (slipsR [C, B, A] (k : Int)).reverse = _
    rw [hs]
    rfl
theorem ap0 {a a' b c : Int} (h : a ≠ a') : apart 3 [a, b, c] [a', b, c] = [0] := by
  simp [apart, List.range, List.range.loop, h]
theorem ap1 {a b b' c : Int} (h : b ≠ b') : apart 3 [a, b, c] [a, b', c] = [1] := by
  simp [apart, List.range, List.range.loop, h]
theorem ap2 {a b c c' : Int} (h : c ≠ c') : apart 3 [a, b, c] [a, b, c'] = [2] := by
  simp [apart, List.range, List.range.loop, h]
section
variable {A B C : Int} {ps : List Int}
def f3 (A B C : Int) (ps : List Int) (a b c : Int) : Int := ps.getD (idx A B C a b c) 0
theorem H0 (h : NoOwn [A, B, C] ps) {a a' b c : Int} (h1 : In3 A B C a b c) (h2 : In3 A B C a' b c) : f3 A B C ps a b c = 0 ↔ f3 A B C ps a' b c = 0 := by
  by_cases e : a = a'
  · subst e; exact Iff.rfl
  · obtain ⟨p1, p2⟩ := idx_ok h1
    obtain ⟨q1, q2⟩ := idx_ok h2
    exact own_iff h p1 q1 (by rw [p2, q2]; exact ap0 e)
theorem H1 (h : NoOwn [A, B, C] ps) {a b b' c : Int} (h1 : In3 A B C a b c) (h2 : In3 A B C a b' c) : f3 A B C ps a b c = 1 ↔ f3 A B C ps a b' c = 1 := by
  by_cases e : b = b'
  · subst e; exact Iff.rfl
  · obtain ⟨p1, p2⟩ := idx_ok h1
    obtain ⟨q1, q2⟩ := idx_ok h2
    exact own_iff h p1 q1 (by rw [p2, q2]; exact ap1 e)
theorem H2 (h : NoOwn [A, B, C] ps) {a b c c' : Int} (h1 : In3 A B C a b c) (h2 : In3 A B C a b c') : f3 A B C ps a b c = 2 ↔ f3 A B C ps a b c' = 2 := by
  by_cases e : c = c'
  · subst e; exact Iff.rfl
  · obtain ⟨p1, p2⟩ := idx_ok h1
    obtain ⟨q1, q2⟩ := idx_ok h2
    exact own_iff h p1 q1 (by rw [p2, q2]; exact ap2 e)
theorem f3_bd (h : Picks [A, B, C] ps) {a b c : Int} (h1 : In3 A B C a b c) : f3 A B C ps a b c = 0 ∨ f3 A B C ps a b c = 1 ∨ f3 A B C ps a b c = 2 := by
  have := h.b _ (getD_mem (by rw [h.n]; exact (idx_ok h1).1))
  have e : f3 A B C ps a b c = ps.getD (idx A B C a b c) 0 := rfl
  have h3 : (([A, B, C] : List Int).length : Int) = 3 := rfl
  omega
/-- somebody is never picked -/
theorem never (h : Picks [A, B, C] ps) (hn : NoOwn [A, B, C] ps) : ∃ m : Int, (m = 0 ∨ m = 1 ∨ m = 2) ∧ ∀ a b c, In3 A B C a b c → f3 A B C ps a b c ≠ m := by
  by_cases e0 : ∃ a b c, In3 A B C a b c ∧ f3 A B C ps a b c = 0
  · by_cases e1 : ∃ a b c, In3 A B C a b c ∧ f3 A B C ps a b c = 1
    · by_cases e2 : ∃ a b c, In3 A B C a b c ∧ f3 A B C ps a b c = 2
      · obtain ⟨a0, b0, c0, i0, v0⟩ := e0
        obtain ⟨a1, b1, c1, i1, v1⟩ := e1
        obtain ⟨a2, b2, c2, i2, v2⟩ := e2
        -- the row (a2, b0, c1)
        have j : In3 A B C a2 b0 c1 := ⟨i2.a, i0.b, i1.c⟩
        have k0 : In3 A B C a2 b0 c0 := ⟨i2.a, i0.b, i0.c⟩
        have w0 : f3 A B C ps a2 b0 c0 = 0 := (H0 hn i0 k0).mp v0
        have n2 : ¬ f3 A B C ps a2 b0 c1 = 2 := fun z => by
          have := (H2 hn j k0).mp z
          omega
        have k1 : In3 A B C a1 b0 c1 := ⟨i1.a, i0.b, i1.c⟩
        have w1 : f3 A B C ps a1 b0 c1 = 1 := (H1 hn i1 k1).mp v1
        have n0 : ¬ f3 A B C ps a2 b0 c1 = 0 := fun z => by
          have := (H0 hn j k1).mp z
          omega
        have k2 : In3 A B C a2 b2 c1 := ⟨i2.a, i2.b, i1.c⟩
        have w2 : f3 A B C ps a2 b2 c1 = 2 := (H2 hn i2 k2).mp v2
        have n1 : ¬ f3 A B C ps a2 b0 c1 = 1 := fun z => by
          have := (H1 hn j k2).mp z
          omega
        rcases f3_bd h j with z | z | z
        · exact absurd z n0
        · exact absurd z n1
        · exact absurd z n2
      · exact ⟨2, by omega, fun a b c i z => e2 ⟨a, b, c, i, z⟩⟩
    · exact ⟨1, by omega, fun a b c i z => e1 ⟨a, b, c, i, z⟩⟩
  · exact ⟨0, by omega, fun a b c i z => e0 ⟨a, b, c, i, z⟩⟩
end
theorem sl3 {A B C a b c : Int} {k : Nat} (h : slips [A, B, C] (k : Int) = [a, b, c]) : sl [A, B, C] 0 k = a.toNat ∧ sl [A, B, C] 1 k = b.toNat ∧ sl [A, B, C] 2 k = c.toNat := by
  unfold sl
  rw [h]
  exact ⟨rfl, rfl, rfl⟩
/-- where no own slip counts, somebody's slip tells who is picked -/
theorem tells {l ps : List Int} (h : Picks l ps) (h3 : l.length = 3) (hn : NoOwn l ps) : ∃ m G, m < 3 ∧ nb l ps m = some G ∧ G.any (isIm m) = false := by
  match l, h3 with
  | [A, B, C], _ =>
    obtain ⟨m, hm, hv⟩ := never h hn
    have key : ∃ mn : Nat, (mn : Int) = m ∧ mn < 3 ∧ ∀ i j, i < N [A, B, C] → j < N [A, B, C] → sl [A, B, C] mn i = sl [A, B, C] mn j → ps.getD i 0 = ps.getD j 0 := by
      refine ⟨m.toNat, by omega, by omega, fun i j hi hj hs => ?_⟩
      obtain ⟨a, b, c, i1, ei, si⟩ := of_idx h.c hi
      obtain ⟨a', b', c', i2, ej, sj⟩ := of_idx h.c hj
      obtain ⟨s0, s1, s2⟩ := sl3 si
      obtain ⟨t0, t1, t2⟩ := sl3 sj
      have ea := i1.a; have eb := i1.b; have ec := i1.c
      have ea' := i2.a; have eb' := i2.b; have ec' := i2.c
      have goal : f3 A B C ps a b c = f3 A B C ps a' b' c' := by
        rcases hm with rfl | rfl | rfl
        · have hs : sl [A, B, C] 0 i = sl [A, B, C] 0 j := hs
          have e : a = a' := by rw [s0, t0] at hs; omega
          subst e
          have k : In3 A B C a b' c := ⟨ea, eb', ec⟩
          have q1 := H1 hn i1 k
          have q2 := H2 hn k i2
          have r1 := f3_bd h i1; have r2 := f3_bd h k; have r3 := f3_bd h i2
          have n1 := hv _ _ _ i1; have n2 := hv _ _ _ k; have n3 := hv _ _ _ i2
          omega
        · have hs : sl [A, B, C] 1 i = sl [A, B, C] 1 j := hs
          have e : b = b' := by rw [s1, t1] at hs; omega
          subst e
          have k : In3 A B C a' b c := ⟨ea', eb, ec⟩
          have q1 := H0 hn i1 k
          have q2 := H2 hn k i2
          have r1 := f3_bd h i1; have r2 := f3_bd h k; have r3 := f3_bd h i2
          have n1 := hv _ _ _ i1; have n2 := hv _ _ _ k; have n3 := hv _ _ _ i2
          omega
        · have hs : sl [A, B, C] 2 i = sl [A, B, C] 2 j := hs
          have e : c = c' := by rw [s2, t2] at hs; omega
          subst e
          have k : In3 A B C a' b c := ⟨ea', eb, ec⟩
          have q1 := H0 hn i1 k
          have q2 := H1 hn k i2
          have r1 := f3_bd h i1; have r2 := f3_bd h k; have r3 := f3_bd h i2
          have n1 := hv _ _ _ i1; have n2 := hv _ _ _ k; have n3 := hv _ _ _ i2
          omega
      rw [ei, ej]
      exact goal
    obtain ⟨mn, emn, hmn, hk⟩ := key
    cases e : nb [A, B, C] ps mn with
    | none =>
      obtain ⟨i, j, hi, hj, hs, hne⟩ := nb_not h hmn e
      exact absurd (hk i j hi hj hs) hne
    | some G =>
      refine ⟨mn, G, hmn, e, ?_⟩
      rw [List.any_eq_false]
      intro d hd
      have hpl := (nb_is h hmn e).2
      cases d with
      | int q =>
        show ¬ decide (q = (mn : Int)) = true
        rw [decide_eq_true_iff]
        intro z
        have hq := hpl q hd
        obtain ⟨k, hk2, e2⟩ := List.getElem_of_mem hq
        obtain ⟨a, b, c, i1, ei, _⟩ := of_idx h.c (k := k) (by rw [← h.n]; exact hk2)
        refine hv a b c i1 ?_
        show ps.getD (idx A B C a b c) 0 = m
        rw [← ei, List.getD_eq_getElem?_getD, List.getElem?_eq_getElem hk2]
        show ps[k] = m
        rw [e2, z, emn]
      | _ => exact Bool.false_ne_true
theorem once_one {ps : List Int} (h : (once ps).length = 1) : ∃ v, ∀ x ∈ ps, x = v := by
  match ho : once ps, h with
  | [v], _ =>
    refine ⟨v, fun x hx => ?_⟩
    have := once_mem.mpr hx
    rw [ho] at this
    exact List.mem_singleton.mp this
/-- where somebody's slip tells who is picked, no own slip counts -/
theorem told_no {l ps : List Int} (h : Picks l ps) (hc : (once ps).length = 1 ∨ ∃ (m : Nat) (G : List D), m < l.length ∧ nb l ps m = some G ∧ G.any (isIm m) = false) : foV l ps = none := by
  cases e : foV l ps with
  | none => rfl
  | some x =>
    obtain ⟨r, o, hr, ho, h1⟩ := own_some e
    obtain ⟨u, hu, hne⟩ := c1_one h1
    have hn := h.n
    have same : ps.getD r 0 = ps.getD o 0 ∨ (ps.getD r 0 ≠ u ∧ ps.getD o 0 ≠ u) := by
      rcases hc with hc | ⟨m, G, hm, eG, hG⟩
      · obtain ⟨v, hv⟩ := once_one hc
        exact .inl ((hv _ (getD_mem (by omega))).trans (hv _ (getD_mem (by omega))).symm)
      · obtain ⟨g1, g2⟩ := nb_is h hm eG
        have hno : ∀ k, k < N l → ps.getD k 0 ≠ (m : Int) := fun k hk z => by
          have := List.any_eq_false.mp hG _ (List.mem_of_getElem? (g1 k hk))
          rw [z] at this
          exact this (by show decide ((m : Int) = m) = true; simp)
        by_cases eu : u = (m : Int)
        · rw [eu]; exact .inr ⟨hno r hr, hno o ho⟩
        · -- they are alike at m
          left
          have hs : sl l m r = sl l m o := by
            unfold sl
            by_cases z : (slips l r).getD m 0 = (slips l o).getD m 0
            · rw [z]
            · have hmem : (m : Int) ∈ apart l.length (slips l r) (slips l o) := by
                unfold apart
                exact List.mem_map.mpr ⟨m, List.mem_filter.mpr ⟨List.mem_range.mpr hm, by simp only [decide_eq_false z]; rfl⟩, rfl⟩
              rw [hu] at hmem
              exact absurd (List.mem_singleton.mp hmem).symm eu
          have z1 := g1 r hr
          have z2 := g1 o ho
          rw [hs, z2] at z1
          have := Option.some.inj z1
          injection this with this
          exact this.symm
    rcases same with z | ⟨z1, z2⟩
    · rw [z] at hne
      simp at hne
    · rw [decide_eq_false z1, decide_eq_false z2] at hne
      cases hne
end Lk51

set_option Elab.async false
set_option linter.all false
set_option maxRecDepth 100000
set_option maxHeartbeats 2000000
namespace Lk51
open PySem PySem.Spec L2 DL
/-! who is named for each slip, by the law -/
def up : D → Int → D
  | .int q, p => if q = p then .int p else .int (-1)
  | _, p => .int p
def lwGo (l : List Int) (m : Nat) : Nat → List Int → List D → List D
  | _, [], F => F
  | k, p :: ps, F => lwGo l m (k + 1) ps (F.set (sl l m k) (up ((F[sl l m k]?).getD .non) p))
theorem set_same {F : List D} {s : Nat} {x : D} (h : F[s]? = some x) : F.set s x = F := by
  apply List.ext_getElem?
  intro i
  rw [List.getElem?_set]
  by_cases e : s = i
  · subst e
    have := (List.getElem?_eq_some_iff.mp h).1
    rw [if_pos rfl, if_pos this, h]
  · rw [if_neg e]
theorem nbGo_eq (l : List Int) (m k : Nat) (p : Int) (qs : List Int) (F : List D) : nbGo l m k (p :: qs) F = match F[sl l m k]? with
    | some (.int q) => if q = p then nbGo l m (k + 1) qs F else none
    | _ => nbGo l m (k + 1) qs (F.set (sl l m k) (.int p)) := rfl
theorem lw_some {l : List Int} {m : Nat} : ∀ (qs : List Int) (k : Nat) (F G : List D), nbGo l m k qs F = some G → lwGo l m k qs F = G
  | [], k, F, G, h => by cases h; rfl
  | p :: qs, k, F, G, h => by
    rw [nbGo_eq] at h
    show lwGo l m (k + 1) qs (F.set (sl l m k) (up ((F[sl l m k]?).getD .non) p)) = G
    split at h
    · next q hq =>
      by_cases e : q = p
      · rw [if_pos e] at h
        subst e
        rw [hq, Option.getD_some, show up (.int q) q = .int q from if_pos rfl, set_same hq]
        exact lw_some qs (k + 1) F G h
      · rw [if_neg e] at h; cases h
    · next x hx =>
      have eu : up ((F[sl l m k]?).getD .non) p = .int p := by
        cases z : F[sl l m k]? with
        | none => rfl
        | some d =>
          cases d with
          | int q => exact absurd z (hx q)
          | _ => rfl
      rw [eu]
      exact lw_some qs (k + 1) _ G h
theorem up_m1 {p : Int} (h : 0 ≤ p) : up (.int (-1)) p = .int (-1) := if_neg (by omega)
theorem lw_keep {l : List Int} {m : Nat} {s : Nat} : ∀ (qs : List Int) (k : Nat) (F : List D), (∀ q ∈ qs, 0 ≤ q) → F[s]? = some (.int (-1)) → (lwGo l m k qs F)[s]? = some (.int (-1))
  | [], k, F, _, h => h
  | p :: qs, k, F, hq, h => by
    have hs := (List.getElem?_eq_some_iff.mp h).1
    refine lw_keep qs (k + 1) _ (fun q z => hq q (List.mem_cons_of_mem _ z)) ?_
    rw [List.getElem?_set]
    by_cases e : sl l m k = s
    · rw [if_pos e, if_pos (by rw [e]; exact hs), e, h, Option.getD_some, up_m1 (hq p List.mem_cons_self)]
    · rw [if_neg e]; exact h
theorem lw_none {l : List Int} {m : Nat} : ∀ (qs : List Int) (k : Nat) (F : List D), (∀ q ∈ qs, 0 ≤ q) → nbGo l m k qs F = none → D.int (-1) ∈ lwGo l m k qs F
  | [], k, F, _, h => by cases h
  | p :: qs, k, F, hq, h => by
    rw [nbGo_eq] at h
    have hq' : ∀ q ∈ qs, 0 ≤ q := fun q z => hq q (List.mem_cons_of_mem _ z)
    show D.int (-1) ∈ lwGo l m (k + 1) qs (F.set (sl l m k) (up ((F[sl l m k]?).getD .non) p))
    split at h
    · next q hq2 =>
      by_cases e : q = p
      · rw [if_pos e] at h
        subst e
        rw [hq2, Option.getD_some, show up (.int q) q = .int q from if_pos rfl, set_same hq2]
        exact lw_none qs (k + 1) F hq' h
      · rw [hq2, Option.getD_some, show up (.int q) p = .int (-1) from if_neg e]
        have hs := (List.getElem?_eq_some_iff.mp hq2).1
        exact List.mem_of_getElem? (lw_keep (s := sl l m k) qs (k + 1) _ hq' (by rw [List.getElem?_set_self hs]))
    · next x hx =>
      have eu : up ((F[sl l m k]?).getD .non) p = .int p := by
        cases z : F[sl l m k]? with
        | none => rfl
        | some d =>
          cases d with
          | int q => exact absurd z (hx q)
          | _ => rfl
      rw [eu]
      exact lw_none qs (k + 1) _ hq' h
def lw (l ps : List Int) (m : Nat) : List D := lwGo l m 0 ps (List.replicate (l.getD m 0).toNat .non)
theorem Plain.up {F : List D} (h : Plain F) (s n : Nat) (p : Int) : Plain (F.set n (Lk51.up ((F[s]?).getD .non) p)) := by
  have : ∃ i, Lk51.up ((F[s]?).getD .non) p = .int i := by
    cases (F[s]?).getD .non with
    | int q => unfold Lk51.up; dsimp only; split <;> exact ⟨_, rfl⟩
    | _ => exact ⟨_, rfl⟩
  obtain ⟨i, e⟩ := this
  rw [e]
  exact h.set n i
theorem up_int (d : D) (p : Int) : ∃ i, up d p = .int i := by
  cases d with
  | int q => unfold up; dsimp only; split <;> exact ⟨_, rfl⟩
  | _ => exact ⟨_, rfl⟩
/-- each slip is one of some row -/
theorem slot3 {l : List Int} (c : Club l) (h3 : l.length = 3) {m : Nat} (hm : m < 3) {s : Nat} (hs : (s : Int) < l.getD m 0) : ∃ k, k < N l ∧ sl l m k = s := by
  match l, h3 with
  | [A, B, C], _ =>
    have hA := c.s A (by simp)
    have hB := c.s B (by simp)
    have hC := c.s C (by simp)
    have e3 : m = 0 ∨ m = 1 ∨ m = 2 := by omega
    rcases e3 with rfl | rfl | rfl
    · have hs : (s : Int) < A := hs
      have q : In3 A B C s 0 0 := ⟨⟨by omega, hs⟩, ⟨by omega, by omega⟩, ⟨by omega, by omega⟩⟩
      obtain ⟨i1, i2⟩ := idx_ok q
      exact ⟨_, i1, by rw [(sl3 i2).1]; omega⟩
    · have hs : (s : Int) < B := hs
      have q : In3 A B C 0 s 0 := ⟨⟨by omega, by omega⟩, ⟨by omega, hs⟩, ⟨by omega, by omega⟩⟩
      obtain ⟨i1, i2⟩ := idx_ok q
      exact ⟨_, i1, by rw [(sl3 i2).2.1]; omega⟩
    · have hs : (s : Int) < C := hs
      have q : In3 A B C 0 0 s := ⟨⟨by omega, by omega⟩, ⟨by omega, by omega⟩, ⟨by omega, hs⟩⟩
      obtain ⟨i1, i2⟩ := idx_ok q
      exact ⟨_, i1, by rw [(sl3 i2).2.2]; omega⟩
theorem nb_len {l ps : List Int} (h : Picks l ps) {m : Nat} (hm : m < l.length) {G : List D} (e : nb l ps m = some G) : (G.length : Int) = l.getD m 0 := by
  have hn := h.n
  have hb := h.c.s _ (getD_mem hm)
  obtain ⟨a1, _⟩ := nb_some ps 0 _ G (fun i hi => by rw [Nat.zero_add]; exact sl_lt h.c hm (by omega)) e
  rw [a1, List.length_replicate]
  omega
/-- the numbers that are named -/
theorem nb_ints {l ps : List Int} (h : Picks l ps) (h3 : l.length = 3) {m : Nat} (hm : m < 3) {G : List D} (e : nb l ps m = some G) : ∃ ns : List Int, G = ns.map D.int ∧ (∀ n ∈ ns, n ∈ ps) ∧ ∀ p ∈ ps, p ∈ ns := by
  obtain ⟨g1, g2⟩ := nb_is h (by omega) e
  have gl := nb_len h (by omega) e
  have hall : ∀ d ∈ G, ∃ i : Int, d = .int i := by
    intro d hd
    obtain ⟨s, hs, rfl⟩ := List.getElem_of_mem hd
    obtain ⟨k, hk, ek⟩ := slot3 h.c h3 hm (s := s) (by omega)
    have := g1 k hk
    rw [ek, List.getElem?_eq_getElem hs] at this
    exact ⟨_, Option.some.inj this⟩
  have : ∃ ns : List Int, G = ns.map D.int := by
    clear g1 g2 gl e
    induction G with
    | nil => exact ⟨[], rfl⟩
    | cons d G ih =>
      obtain ⟨i, rfl⟩ := hall d List.mem_cons_self
      obtain ⟨ns, rfl⟩ := ih fun d hd => hall d (List.mem_cons_of_mem _ hd)
      exact ⟨i :: ns, rfl⟩
  obtain ⟨ns, rfl⟩ := this
  refine ⟨ns, rfl, fun n hn => g2 n (List.mem_map.mpr ⟨n, hn, rfl⟩), fun p hp => ?_⟩
  obtain ⟨k, hk, ek⟩ := List.getElem_of_mem hp
  have q := g1 k (by rw [← h.n]; exact hk)
  rw [List.getD_eq_getElem?_getD, List.getElem?_eq_getElem hk, Option.getD_some, ek] at q
  obtain ⟨y, hy, ey⟩ := List.mem_map.mp (List.mem_of_getElem? q)
  cases ey
  exact hy
theorem once_nodup : ∀ l : List Int, (once l).Nodup
  | [] => List.nodup_nil
  | x :: r => by
    unfold once
    by_cases h : x ∈ r
    · rw [if_pos h]; exact once_nodup r
    · rw [if_neg h]
      exact List.nodup_cons.mpr ⟨fun z => h (once_mem.mp z), once_nodup r⟩
/-- two of three, both there -/
theorem once_two {ns ps : List Int} {m : Int} (hb : ∀ n ∈ ns, 0 ≤ n ∧ n < 3) (hm : m = 0 ∨ m = 1 ∨ m = 2) (hn : m ∉ ns) (h1 : ∀ n ∈ ns, n ∈ ps) (h2 : ∀ p ∈ ps, p ∈ ns) (hp : ps ≠ []) (ho : ¬ (once ps).length = 1) : (once ns).length = 2 := by
  have nd := once_nodup ns
  have ho' : ∀ v, ¬ ∀ x ∈ ns, x = v := by
    intro v hv
    apply ho
    have hc : ∀ x ∈ once ps, x = v := fun x hx => hv x (h2 x (once_mem.mp hx))
    match e : once ps, hc, once_nodup ps with
    | [], _, _ =>
      match ps, hp with
      | p :: r, _ =>
        have := once_mem.mpr (List.mem_cons_self (a := p) (l := r))
        rw [e] at this
        cases this
    | [x], _, _ => rfl
    | x :: y :: r, hc, nd2 =>
      have e1 := hc x (by simp)
      have e2 := hc y (by simp)
      rw [List.nodup_cons] at nd2
      exact absurd (by rw [e1, e2]; simp) nd2.1
  have hin : ∀ x ∈ once ns, 0 ≤ x ∧ x < 3 ∧ x ≠ m := fun x hx => by
    have hx := once_mem.mp hx
    exact ⟨(hb x hx).1, (hb x hx).2, fun z => hn (z ▸ hx)⟩
  match e : once ns, nd, hin with
  | [], _, _ =>
    exfalso
    match ps, hp with
    | p :: r, _ =>
      have := once_mem.mpr (h2 p List.mem_cons_self)
      rw [e] at this
      cases this
  | [x], _, _ =>
    exfalso
    refine ho' x fun y hy => ?_
    have := once_mem.mpr hy
    rw [e] at this
    exact List.mem_singleton.mp this
  | [x, y], _, _ => rfl
  | x :: y :: z :: r, nd, hin =>
    exfalso
    have q1 := hin x (by simp)
    have q2 := hin y (by simp)
    have q3 := hin z (by simp)
    simp only [List.nodup_cons, List.mem_cons, not_or] at nd
    omega
end Lk51

set_option Elab.async false
set_option linter.all false
set_option maxRecDepth 100000
set_option maxHeartbeats 2000000
namespace Lk51
open PySem PySem.Spec L2 DL
def inq : D → Int → Bool
  | .int q, p => decide (p = q)
  | _, _ => true
theorem inV {x : D} (hx : x = .non ∨ ∃ q : Int, x = .int q) (p : Int) : inD x (.lst true [.non, .int p]) = some (.bl (inq x p)) := by
  have h2 : toPy (.lst true [.non, .int p]) = some (.list [.none, .int p]) := rfl
  have h3 : SeqAt.shaped (.list [.none, .int p]) = true := rfl
  rcases hx with rfl | ⟨q, rfl⟩
  · have h1 : toPy .non = some .none := rfl
    have h4 : SeqAt.shaped PyData.none = true := rfl
    unfold inD inB
    rw [h1, h2]
    simp only [Option.bind_some, seqP, h3, h4, and_self, if_true, List.any_cons, List.any_nil]
    rw [PyData.eqv]
    rfl
  · have h1 : toPy (.int q) = some (.int q) := rfl
    unfold inD inB
    rw [h1, h2]
    simp only [Option.bind_some, seqP, h3, shaped_int, and_self, if_true, List.any_cons, List.any_nil]
    rw [show PyData.eqv .none (.int q) = false from by first | (rw [PyData.eqv]; done) | (rw [PyData.eqv]; rfl), show PyData.eqv (.int p) (.int q) = decide (p = q) from by first | (rw [PyData.eqv]; done) | (rw [PyData.eqv]; rfl)]
    simp
    rfl
theorem Plain.shapedL {F : List D} (h : Plain F) : SeqAt.shaped (.list (F.map pd)) = true := by
  unfold SeqAt.shaped
  simp only [PyData.canLay0, h.lay, PyData.depth, h.dep]
  rfl
theorem Plain.ninL {F : List D} (h : Plain F) (o : Bool) (m : Int) : ninD (.int m) (.lst o F) = some (.bl !(F.any (isIm m))) := by
  have h1 : toPy (.lst o F) = some (.list (F.map pd)) := by
    show (toPyL F).map PyData.list = _
    rw [h.py]; rfl
  unfold ninD inB
  rw [h1, show toPy (.int m) = some (.int m) from rfl]
  simp only [Option.bind_some, seqP, h.shapedL, shaped_int, and_self, if_true]
  rw [any_pd h]
  rfl
def lwB : SF := (sSeq (sAsg (eFrz (e2 ixD (eVar 5) (eVar 3))) (gSet 7))
  (sAsg (eFrz (eIf (tBor (eB (e2 inD (e2 ixD (eVar 4) (eVar 7)) (eLst (aCons (eC .non) (aCons (eVar 6) aNil)))))) (eVar 6) (e1 negD (eC (.int 1))))) (gItem 4 (eVar 7))))
abbrev lE (l ps : List Int) (m : Nat) (x4 x5 x6 x7 : Option D) : DL.Env := [some (T l), some (T ps), some (.lst false (LL (rowsL l))), some (.int m), x4, x5, x6, x7]
theorem lwX {l ps : List Int} (c : Club l) {m k : Nat} (hm : m < l.length) (hk : k < N l) (p : Int) (F : List D) (hF : Plain F) (hl : (F.length : Int) = l.getD m 0) (x7 : Option D) :
    lwB (lE l ps m (some (.lst true F)) (some (T (slips l k))) (some (.int p)) x7) = .nx (lE l ps m (some (.lst true (F.set (sl l m k) (up ((F[sl l m k]?).getD .non) p)))) (some (T (slips l k))) (some (.int p)) (some (.int (sl l m k)))) := by
  obtain ⟨q1, q2⟩ := (c.row hk).1.at hm
  obtain ⟨s, es⟩ : ∃ s : Nat, s = sl l m k := ⟨_, rfl⟩
  have hs : (slips l k).getD m 0 = (s : Int) := by rw [es]; unfold sl; omega
  have hsF : s < F.length := by omega
  rw [← es]
  let ρ : DL.Env := lE l ps m (some (.lst true F)) (some (T (slips l k))) (some (.int p)) x7
  let ρ2 : DL.Env := lE l ps m (some (.lst true F)) (some (T (slips l k))) (some (.int p)) (some (.int s))
  let ρ3 : DL.Env := lE l ps m (some (.lst false F)) (some (T (slips l k))) (some (.int p)) (some (.int s))
  have i1 : e2 ixD (eVar 5) (eVar 3) ρ = .ok (.int s) ρ := e2_ok (x := T (slips l k)) (y := .int m) (ev rfl rfl) (ev rfl rfl) (by rw [← hs]; exact ix_TI (by rw [slips_len]; exact hm))
  have s1 : ∀ R : SF, sSeq (sAsg (eFrz (e2 ixD (eVar 5) (eVar 3))) (gSet 7)) R ρ = R ρ2 := fun R => seq_nx (sAsg_ok (eFrz_int i1) rfl)
  have hx : F[s]? = some F[s] := List.getElem?_eq_getElem hsF
  have hd := hF F[s] (List.getElem_mem hsF)
  have hz : ρ2.map (Option.map frz) = ρ3 := by
    show [some (T l), some (T ps), some (.lst false (frzL (LL (rowsL l)))), some (.int m), some (.lst false (frzL F)), some (T (slips l k)), some (.int p), some (.int s)] = _
    rw [frzL_TI, hF.frz]
  have i2 : e2 ixD (eVar 4) (eVar 7) ρ3 = .ok F[s] ρ3 := e2_ok (x := .lst false F) (y := .int s) (ev rfl rfl) (ev rfl rfl) (ix_l hx)
  have i3 : eLst (aCons (eC .non) (aCons (eVar 6) aNil)) ρ3 = .ok (.lst true [.non, .int p]) ρ3 := eLst_ok (aCons_ok rfl (aCons_ok (ev rfl rfl) rfl)) (by simp)
  have ht : ∀ b, inq F[s] p = b → tBor (eB (e2 inD (e2 ixD (eVar 4) (eVar 7)) (eLst (aCons (eC .non) (aCons (eVar 6) aNil))))) ρ2 = .ok b ρ2 := by
    intro b hb
    refine tBor_ok (ρ1 := ρ3) ?_
    rw [hz]
    exact eB_ok (e2_ok i2 i3 ((inV hd p).trans (by rw [hb])))
  have hix : ixN F.length (s : Int) = some s := by unfold ixN; simp [hsF]
  have put : ∀ d, gItem 4 (eVar 7) d ρ2 = some (ρ2.set 4 (some (.lst true (F.set s d)))) := fun d => put_ok (i := 4) (j := s) (n := s) (ds := F) (ρ1 := ρ2) rfl rfl rfl rfl hix
  have e6 : eVar 6 ρ2 = .ok (.int p) ρ2 := ev rfl rfl
  have en : e1 negD (eC (.int 1)) ρ2 = .ok (.int (-1)) ρ2 := rfl
  have val : eFrz (eIf (tBor (eB (e2 inD (e2 ixD (eVar 4) (eVar 7)) (eLst (aCons (eC .non) (aCons (eVar 6) aNil)))))) (eVar 6) (e1 negD (eC (.int 1)))) ρ2 = .ok (up F[s] p) ρ2 := by
    rcases hd with hn | ⟨q, hn⟩
    · rw [hn] at ht ⊢
      exact eFrz_int (eIf_t (ht true rfl) e6)
    · rw [hn] at ht ⊢
      by_cases e : q = p
      · rw [show up (.int q) p = .int p from if_pos e]
        exact eFrz_int (eIf_t (ht true (decide_eq_true e.symm)) e6)
      · rw [show up (.int q) p = .int (-1) from if_neg e]
        exact eFrz_int (eIf_f (ht false (decide_eq_false fun z => e z.symm)) en)
  show lwB ρ = _
  unfold lwB
  rw [s1, hx, Option.getD_some]
  exact sAsg_ok val (put _)
theorem lw_loop {l ps : List Int} (c : Club l) {m : Nat} (hm : m < l.length) : ∀ (qs : List Int) (k : Nat) (F : List D) (x5 x6 x7 : Option D), k + qs.length ≤ N l → Plain F → (F.length : Int) = l.getD m 0 →
    ∃ y5 y6 y7, forGo (gTupD 2 (gsCons (gSet 5) (gsCons (gSet 6) gsNil))) lwB (zipD (LL ((List.range' k qs.length).map fun k : Nat => slips l (k : Int))) (qs.map D.int)) (lE l ps m (some (.lst true F)) x5 x6 x7) = .nx (lE l ps m (some (.lst true (lwGo l m k qs F))) y5 y6 y7) ∧ Plain (lwGo l m k qs F)
  | [], k, F, x5, x6, x7, _, hF, _ => ⟨x5, x6, x7, rfl, hF⟩
  | p :: qs, k, F, x5, x6, x7, hk, hF, hl => by
    rw [List.length_cons] at hk ⊢
    have hkN : k < N l := by omega
    obtain ⟨y5, y6, y7, ih, hp⟩ := lw_loop (ps := ps) c hm qs (k + 1) (F.set (sl l m k) (up ((F[sl l m k]?).getD .non) p)) (some (T (slips l k))) (some (.int p)) (some (.int (sl l m k))) (by omega) (hF.up _ _ _) (by rw [List.length_set]; exact hl)
    refine ⟨y5, y6, y7, ?_, hp⟩
    rw [List.range'_succ]
    show forGo _ _ (.tup [T (slips l (k : Int)), .int p] :: zipD (LL ((List.range' (k + 1) qs.length).map fun k : Nat => slips l (k : Int))) (qs.map D.int)) _ = _
    have g0 : gTupD 2 (gsCons (gSet 5) (gsCons (gSet 6) gsNil)) (.tup [T (slips l (k : Int)), .int p]) (lE l ps m (some (.lst true F)) x5 x6 x7) = some (lE l ps m (some (.lst true F)) (some (T (slips l k))) (some (.int p)) x7) := rfl
    rw [forGo_cons g0 (lwX (ps := ps) c hm hkN p F hF hl x7)]
    exact ih
def cm (l ps : List Int) : D → Option D
  | .int m => match nb l ps m.toNat with
    | some F => if F.any (isIm m) = true then none else some (.tup [.str "chair", .int m, .tup F])
    | none => none
  | _ => none
def chV (l ps : List Int) : Option D := if ((once ps).length : Int) = 1 then some (.tup [.str "one", .int (ps.getD 0 0)]) else (rgD 0 3).findSome? (cm l ps)
def mB : SF := (sSeq (sAsg (eLcL 8 (iRg1 (aCons (e2 ixD (eVar 0) (eVar 3)) aNil)) (gSet 7) mYes (eC .non) [7]) (gSet 4))
  (sSeq (sFor (iZipMD (aCons (eVar 2) (aCons (eVar 1) aNil))) (gTupD 2 (gsCons (gSet 5) (gsCons (gSet 6) gsNil))) lwB)
  (sIf (tBor (mAnd (eB (e2 ninD (eVar 3) (eVar 4))) (mAnd (eB (e2 ninD (e1 negD (eC (.int 1))) (eVar 4))) (eB (e2 eqD (e1 lenSetA (eVar 4)) (eC (.int 2))))))) (sRet (eTup (aCons (eC (.str "chair")) (aCons (eVar 3) (aCons (eBi tupleD (aCons (eMove 4) aNil)) aNil))))) sNext)))
theorem map_const (n : Nat) (i : Int) : (rgD 0 (n : Int)).map (fun _ => D.non) = List.replicate n .non := by
  rw [rgD_0, List.map_map]
  apply List.ext_getElem?
  intro j
  rw [List.getElem?_replicate]
  by_cases h : j < n
  · rw [if_pos h, List.getElem?_map, List.getElem?_range h]; rfl
  · rw [if_neg h, List.getElem?_eq_none (by simp; omega)]
theorem mB_ok {l ps : List Int} (h : Picks l ps) (h3 : l.length = 3) (ho : ¬ ((once ps).length : Int) = 1) {m : Nat} (hm : m < 3) (x4 x5 x6 x7 : Option D) :
    (cm l ps (.int m) = none → ∃ y4 y5 y6 y7, mB (lE l ps m x4 x5 x6 x7) = .nx (lE l ps m y4 y5 y6 y7)) ∧ ∀ x, cm l ps (.int m) = some x → ∃ y4 y5 y6 y7, mB (lE l ps m x4 x5 x6 x7) = .ret x (lE l ps m y4 y5 y6 y7) := by
  have hN := h.c.Nle
  have hN1 := h.c.N1
  have hml : m < l.length := by omega
  have hb := h.c.s _ (getD_mem hml)
  let F0 : List D := List.replicate (l.getD m 0).toNat .non
  have hF0 : Plain F0 := fun d hd => .inl (List.eq_of_mem_replicate hd)
  have hl0 : (F0.length : Int) = l.getD m 0 := by show ((List.replicate _ _).length : Int) = _; rw [List.length_replicate]; omega
  have hi : iRg1 (aCons (e2 ixD (eVar 0) (eVar 3)) aNil) (lE l ps m x4 x5 x6 x7) = .ok (rgD 0 (l.getD m 0)) (lE l ps m x4 x5 x6 x7) := iRg1_ok (aCons_ok (e2_ok (x := T l) (y := .int m) (ev rfl rfl) (ev rfl rfl) (ix_TI hml)) rfl) (by omega)
  have hlc : eLcL 8 (iRg1 (aCons (e2 ixD (eVar 0) (eVar 3)) aNil)) (gSet 7) mYes (eC .non) [7] (lE l ps m x4 x5 x6 x7) = .ok (.lst true F0) (lE l ps m x4 x5 x6 none) := by
    have z := eLcL_ok (L := 8) hi (by rw [rgD_len]; omega) rfl (lcGo_map (g := gSet 7) (te := eC .non) (vs := [7]) (lE l ps m x4 x5 x6 none) (fun d => lE l ps m x4 x5 x6 (some d)) (fun _ => .non) (rgD 0 (l.getD m 0)) (lE l ps m x4 x5 x6 x7) rfl fun d _ => ⟨rfl, rfl, rfl⟩)
    rw [z]
    have e := map_const (l.getD m 0).toNat 0
    rw [Int.toNat_of_nonneg (by omega)] at e
    rw [e]
  have s1 : ∀ R : SF, sSeq (sAsg (eLcL 8 (iRg1 (aCons (e2 ixD (eVar 0) (eVar 3)) aNil)) (gSet 7) mYes (eC .non) [7]) (gSet 4)) R (lE l ps m x4 x5 x6 x7) = R (lE l ps m (some (.lst true F0)) x5 x6 none) := fun R => seq_nx (sAsg_ok hlc rfl)
  obtain ⟨y5, y6, y7, loop, hP⟩ := lw_loop (ps := ps) h.c hml ps 0 F0 x5 x6 none (by rw [h.n]; omega) hF0 hl0
  have er : ((List.range' 0 ps.length).map fun k : Nat => slips l (k : Int)) = rowsL l := by
    rw [h.n, ← List.range_eq_range']; rfl
  rw [er] at loop
  have hz : iZipMD (aCons (eVar 2) (aCons (eVar 1) aNil)) (lE l ps m (some (.lst true F0)) x5 x6 none) = .ok (zipD (LL (rowsL l)) (ps.map D.int)) (lE l ps m (some (.lst true F0)) x5 x6 none) := by
    unfold iZipMD
    have ha : aCons (eVar 2) (aCons (eVar 1) aNil) (lE l ps m (some (.lst true F0)) x5 x6 none) = .ok [.lst false (LL (rowsL l)), T ps] (lE l ps m (some (.lst true F0)) x5 x6 none) := aCons_ok (ev rfl rfl) (aCons_ok (ev rfl rfl) rfl)
    rw [mbind_of ha]
    show mlift (some (zipD (frzL (LL (rowsL l))) (ps.map D.int))) _ = _
    rw [frzL_TI]
    rfl
  have s2 : ∀ R : SF, sSeq (sFor (iZipMD (aCons (eVar 2) (aCons (eVar 1) aNil))) (gTupD 2 (gsCons (gSet 5) (gsCons (gSet 6) gsNil))) lwB) R (lE l ps m (some (.lst true F0)) x5 x6 none) = R (lE l ps m (some (.lst true (lw l ps m))) y5 y6 y7) := fun R => seq_nx ((sFor_of hz).trans loop)
  have hP : Plain (lw l ps m) := hP
  let ρ : DL.Env := lE l ps m (some (.lst true (lw l ps m))) y5 y6 y7
  let ρf : DL.Env := lE l ps m (some (.lst false (lw l ps m))) (y5.map frz) (y6.map frz) (y7.map frz)
  have hfz : ρ.map (Option.map frz) = ρf := by
    show [some (T l), some (T ps), some (.lst false (frzL (LL (rowsL l)))), some (.int m), some (.lst false (frzL (lw l ps m))), y5.map frz, y6.map frz, y7.map frz] = _
    rw [frzL_TI, hP.frz]
  have n1 : eB (e2 ninD (eVar 3) (eVar 4)) ρf = .ok (!((lw l ps m).any (isIm m))) ρf := eB_ok (e2_ok (x := .int m) (y := .lst false (lw l ps m)) (ev rfl rfl) (ev rfl rfl) (hP.ninL false m))
  have n2 : eB (e2 ninD (e1 negD (eC (.int 1))) (eVar 4)) ρf = .ok (!((lw l ps m).any (isIm (-1)))) ρf := eB_ok (e2_ok (x := .int (-1)) (y := .lst false (lw l ps m)) rfl (ev rfl rfl) (hP.ninL false (-1)))
  have hq : ∀ q ∈ ps, 0 ≤ q := fun q z => (h.b q z).1
  have goal : mB (lE l ps m x4 x5 x6 x7) = sIf (tBor (mAnd (eB (e2 ninD (eVar 3) (eVar 4))) (mAnd (eB (e2 ninD (e1 negD (eC (.int 1))) (eVar 4))) (eB (e2 eqD (e1 lenSetA (eVar 4)) (eC (.int 2))))))) (sRet (eTup (aCons (eC (.str "chair")) (aCons (eVar 3) (aCons (eBi tupleD (aCons (eMove 4) aNil)) aNil))))) sNext ρ := by
    unfold mB
    rw [s1, s2]
  rw [goal]
  have ec : cm l ps (.int m) = match nb l ps m with | some F => if F.any (isIm m) = true then none else some (.tup [.str "chair", .int m, .tup F]) | none => none := rfl
  rw [ec]
  have no : ∀ c : M Bool, c ρf = .ok false ρf → ∃ z4 z5 z6 z7, sIf (tBor c) (sRet (eTup (aCons (eC (.str "chair")) (aCons (eVar 3) (aCons (eBi tupleD (aCons (eMove 4) aNil)) aNil))))) sNext ρ = .nx (lE l ps m z4 z5 z6 z7) := fun c hc =>
    ⟨_, _, _, _, (sIf_f (G := sNext) (tBor_ok (by rw [hfz]; exact hc))).trans rfl⟩
  cases e : nb l ps m with
  | none =>
    have hm1 : (lw l ps m).any (isIm (-1)) = true := List.any_eq_true.mpr ⟨_, lw_none ps 0 _ hq e, rfl⟩
    rw [hm1] at n2
    refine ⟨fun _ => no _ ?_, fun x z => (by cases z)⟩
    cases c : (!((lw l ps m).any (isIm m))) with
    | false => rw [c] at n1; exact mAnd_f n1
    | true => rw [c] at n1; exact mAnd_t n1 (mAnd_f n2)
  | some G =>
    have eG : lw l ps m = G := lw_some ps 0 _ G e
    obtain ⟨ns, hns, hi1, hi2⟩ := nb_ints h h3 hm e
    have hlen := nb_len h hml e
    dsimp only
    by_cases c : G.any (isIm m) = true
    · rw [if_pos c]
      rw [eG, c] at n1
      exact ⟨fun _ => no _ (mAnd_f n1), fun x z => (by cases z)⟩
    · rw [if_neg c]
      have cf : G.any (isIm m) = false := by simpa using c
      rw [eG, cf] at n1
      have hm1 : (lw l ps m).any (isIm (-1)) = false := by
        rw [eG, hns, List.any_eq_false]
        intro d hd
        obtain ⟨n, hn, rfl⟩ := List.mem_map.mp hd
        have := hq n (hi1 n hn)
        show ¬ decide (n = -1) = true
        rw [decide_eq_true_iff]
        omega
      rw [hm1] at n2
      have hmn : (m : Int) ∉ ns := fun z => by
        refine Bool.false_ne_true (cf.symm.trans (List.any_eq_true.mpr ⟨.int m, ?_, ?_⟩))
        · rw [hns]; exact List.mem_map.mpr ⟨_, z, rfl⟩
        · show decide ((m : Int) = m) = true; simp
      have h2 : (once ns).length = 2 := once_two (m := m) (fun n hn => by have := h.b n (hi1 n hn); omega) (by omega) hmn hi1 hi2 (by intro z; have := h.n; rw [z] at this; simp at this; omega) (by omega)
      have hls : lenSetA (.lst false (lw l ps m)) = some (.int 2) := by
        rw [eG, hns]
        unfold lenSetA
        show (intsL (ns.map D.int)).bind _ = _
        rw [intsL_map]
        simp only [Option.bind_some]
        have : ns.length = G.length := by rw [hns, List.length_map]
        rw [if_pos (by omega), h2]
        rfl
      have n3 : eB (e2 eqD (e1 lenSetA (eVar 4)) (eC (.int 2))) ρf = .ok true ρf := eB_ok (eqi_ok (i := 2) (j := 2) (e1_ok (x := .lst false (lw l ps m)) (ev rfl rfl) hls) rfl rfl)
      refine ⟨fun z => (by cases z), fun x z => ?_⟩
      cases z
      refine ⟨none, y5, y6, y7, (sIf_t (tBor_ok (b := true) (ρ1 := ρf) (by rw [hfz]; exact mAnd_t n1 (mAnd_t n2 n3)))).trans ?_⟩
      have ht : eBi tupleD (aCons (eMove 4) aNil) ρ = .ok (.tup G) (lE l ps m none y5 y6 y7) := by
        refine eBi_ok (ds := [.lst true (lw l ps m)]) (aCons_ok rfl rfl) ?_
        show some (D.tup (frzL (lw l ps m))) = _
        rw [hP.frz, eG]
      exact sRet_ok (eTup_ok (ds := [.str "chair", .int m, .tup G]) (aCons_ok rfl (aCons_ok (ev rfl rfl) (aCons_ok ht rfl))) (by simp))
def LI (l ps : List Int) (ρ : DL.Env) : Prop := ∃ x3 x4 x5 x6 x7, ρ = [some (T l), some (T ps), some (.lst false (LL (rowsL l))), x3, x4, x5, x6, x7]
theorem law_chair_val {l ps : List Int} (h : Picks l ps) (h3 : l.length = 3) : F_law_chair [T l, T ps] = .ok ((chV l ps).getD .non) [none, none] := by
  have hN := h.c.Nle
  have hN1 := h.c.N1
  let ρ : DL.Env := [some (T l), some (T ps), none, none, none, none, none, none]
  let ρ2 : DL.Env := [some (T l), some (T ps), some (.lst false (LL (rowsL l))), none, none, none, none, none]
  have hls : lenSetA (T ps) = some (.int (once ps).length) := by
    unfold lenSetA
    show (intsL (ps.map D.int)).bind _ = _
    rw [intsL_map]
    simp only [Option.bind_some]
    rw [if_pos (by rw [h.n]; omega)]
  have hq : ∀ b, decide (((once ps).length : Int) = 1) = b → eB (e2 eqD (e1 lenSetA (eVar 1)) (eC (.int 1))) ρ = .ok b ρ := fun b hb => eB_ok (eqi_ok (e1_ok (x := T ps) (ev rfl rfl) hls) rfl hb)
  unfold chV
  by_cases c : ((once ps).length : Int) = 1
  · rw [if_pos c]
    have hx : e2 ixD (eVar 1) (eC (.int 0)) ρ = .ok (.int (ps.getD 0 0)) ρ := e2_ok (x := T ps) (y := .int (0 : Nat)) (ev rfl rfl) rfl (pick_ix h hN1)
    refine run_ok (b := b_law_chair) (ρ := ρ) (ρ0 := ρ) ?_ rfl (by simp [ρ]) rfl
    unfold b_law_chair
    exact seq_ret ((sIf_t (hq true (decide_eq_true c))).trans (sRet_ok (eTup_ok (ds := [.str "one", .int (ps.getD 0 0)]) (aCons_ok rfl (aCons_ok hx rfl)) (by simp))))
  · rw [if_neg c]
    have s1 : ∀ (F : SF) (R : SF), sSeq (sIf (eB (e2 eqD (e1 lenSetA (eVar 1)) (eC (.int 1)))) F sNext) R ρ = R ρ := fun F R => seq_nx ((sIf_f (G := sNext) (hq false (decide_eq_false c))).trans rfl)
    have hr : eFrz (eCall F_law_rows (aCons (eVar 0) aNil) [] []) ρ = .ok (.lst false (LL (rowsL l))) ρ := by
      refine (eFrz_ok (eCall_of (ρ1 := ρ) (aCons_ok (ev rfl rfl) rfl) rfl (law_rows_ok h.c) rfl)).trans ?_
      show Res.ok (D.lst false (frzL (LL (rowsL l)))) _ = _
      rw [frzL_TI]
      rfl
    have s2 : ∀ (R : SF), sSeq (sAsg (eFrz (eCall F_law_rows (aCons (eVar 0) aNil) [] [])) (gSet 2)) R ρ = R ρ2 := fun R => seq_nx (sAsg_ok hr rfl)
    have hi : iRg1 (aCons (eC (.int 3)) aNil) ρ2 = .ok (rgD 0 3) ρ2 := iRg1_ok (n := 3) (aCons_ok rfl rfl) (by omega)
    have main := go_find (I := LI l ps) (c := cm l ps) (g := gSet 3) (b := mB) (rgD 0 3) ρ2 ⟨_, _, _, _, _, rfl⟩ (by
      rintro d hd ρ ⟨x3, x4, x5, x6, x7, rfl⟩
      obtain ⟨i, rfl, h0, h1⟩ := rgD_mem hd
      obtain ⟨m, rfl⟩ : ∃ m : Nat, i = m := ⟨i.toNat, by omega⟩
      refine ⟨lE l ps m x4 x5 x6 x7, rfl, ?_⟩
      obtain ⟨a1, a2⟩ := mB_ok h h3 c (m := m) (by omega) x4 x5 x6 x7
      refine ⟨fun z => ?_, fun x z => ?_⟩
      · obtain ⟨y4, y5, y6, y7, e⟩ := a1 z
        exact ⟨_, e, _, _, _, _, _, rfl⟩
      · obtain ⟨y4, y5, y6, y7, e⟩ := a2 x z
        exact ⟨_, e, _, _, _, _, _, rfl⟩)
    cases e : (rgD 0 3).findSome? (cm l ps) with
    | none =>
      obtain ⟨ρ', e', x3, x4, x5, x6, x7, rfl⟩ := main.1 e
      refine run_ok (b := b_law_chair) (ρ := [some (T l), some (T ps), some (.lst false (LL (rowsL l))), x3, x4, x5, x6, x7]) (ρ0 := ρ) ?_ rfl (by simp) rfl
      unfold b_law_chair
      rw [s1, s2]
      refine Eq.trans (seq_nx ((sFor_of hi).trans e')) ?_
      exact sRet_ok rfl
    | some x =>
      obtain ⟨ρ', e', x3, x4, x5, x6, x7, rfl⟩ := main.2 x e
      refine run_ok (b := b_law_chair) (ρ := [some (T l), some (T ps), some (.lst false (LL (rowsL l))), x3, x4, x5, x6, x7]) (ρ0 := ρ) ?_ rfl (by simp) rfl
      unfold b_law_chair
      rw [s1, s2]
      exact seq_ret ((sFor_of hi).trans e')
end Lk51

set_option Elab.async false
set_option linter.all false
set_option maxRecDepth 100000
set_option maxHeartbeats 2000000
namespace Lk51
open PySem PySem.Spec L2 DL
theorem chair_val {l ps : List Int} (h : Picks l ps) (h3 : l.length = 3) : F_chair [T l, T ps] = .ok ((chV l ps).getD .non) [none, none] := by
  have hN := h.c.Nle
  have hN1 := h.c.N1
  let ρ : DL.Env := [some (T l), some (T ps), none, none]
  have g1 : ∀ R : SF, sSeq (sDrop (eCall F_check_three (aCons (eVar 0) aNil) [] [])) R ρ = R ρ := fun R => seq_nx (sDrop_ok (eCall_of (ρ1 := ρ) (aCons_ok rfl rfl) rfl (three_ok h.c h3) rfl))
  have g2 : ∀ R : SF, sSeq (sDrop (eCall F_check_picks (aCons (eVar 0) (aCons (eVar 1) aNil)) [] [])) R ρ = R ρ := fun R => seq_nx (sDrop_ok (eCall_of (ρ1 := ρ) (aCons_ok rfl (aCons_ok rfl rfl)) rfl (check_picks_ok h) rfl))
  have hls : lenSetA (T ps) = some (.int (once ps).length) := by
    unfold lenSetA
    show (intsL (ps.map D.int)).bind _ = _
    rw [intsL_map]
    simp only [Option.bind_some]
    rw [if_pos (by rw [h.n]; omega)]
  have hq : ∀ b, decide (((once ps).length : Int) = 1) = b → eB (e2 eqD (e1 lenSetA (eVar 1)) (eC (.int 1))) ρ = .ok b ρ := fun b hb => eB_ok (eqi_ok (e1_ok (x := T ps) (ev rfl rfl) hls) rfl hb)
  unfold chV
  by_cases c : ((once ps).length : Int) = 1
  · rw [if_pos c]
    have hx : e2 ixD (eVar 1) (eC (.int 0)) ρ = .ok (.int (ps.getD 0 0)) ρ := e2_ok (x := T ps) (y := .int (0 : Nat)) (ev rfl rfl) rfl (pick_ix h hN1)
    refine run_ok (b := b_chair) (ρ := ρ) (ρ0 := ρ) ?_ rfl (by simp [ρ]) rfl
    unfold b_chair
    rw [g1, g2]
    exact seq_ret ((sIf_t (hq true (decide_eq_true c))).trans (sRet_ok (eTup_ok (ds := [.str "one", .int (ps.getD 0 0)]) (aCons_ok rfl (aCons_ok hx rfl)) (by simp))))
  · rw [if_neg c]
    have s3 : ∀ (F : SF) (R : SF), sSeq (sIf (eB (e2 eqD (e1 lenSetA (eVar 1)) (eC (.int 1)))) F sNext) R ρ = R ρ := fun F R => seq_nx ((sIf_f (G := sNext) (hq false (decide_eq_false c))).trans rfl)
    have main := go_find (I := FI l ps) (c := cm l ps) (g := gSet 2) (b := (sSeq (sAsg (eFrz (eCall F_named_by (aCons (eVar 0) (aCons (eVar 1) (aCons (eVar 2) aNil))) [] [])) (gSet 3)) (sIf (mAnd (eB (eNotN (eVar 3))) (eB (e2 ninD (eVar 2) (eVar 3)))) (sRet (eTup (aCons (eC (.str "chair")) (aCons (eVar 2) (aCons (eVar 3) aNil))))) sNext))) (rgD 0 3) ρ ⟨_, _, rfl⟩ (by
      rintro d hd ρ ⟨x2, x3, rfl⟩
      obtain ⟨i, rfl, h0, h1⟩ := rgD_mem hd
      obtain ⟨m, rfl⟩ : ∃ m : Nat, i = m := ⟨i.toNat, by omega⟩
      refine ⟨[some (T l), some (T ps), some (.int m), x3], rfl, ?_⟩
      obtain ⟨ed, hpl⟩ := named_val h (m := m) (by omega)
      have hfd : frz (ndD (nb l ps m)) = ndD (nb l ps m) := by cases nb l ps m <;> rfl
      have s1 : ∀ R : SF, sSeq (sAsg (eFrz (eCall F_named_by (aCons (eVar 0) (aCons (eVar 1) (aCons (eVar 2) aNil))) [] [])) (gSet 3)) R [some (T l), some (T ps), some (.int m), x3] = R [some (T l), some (T ps), some (.int m), some (ndD (nb l ps m))] := fun R => seq_nx (sAsg_ok (d := ndD (nb l ps m)) (ρ1 := [some (T l), some (T ps), some (.int m), x3]) ((eFrz_ok (eCall_of (ρ1 := [some (T l), some (T ps), some (.int m), x3]) (aCons_ok rfl (aCons_ok rfl (aCons_ok rfl rfl))) rfl ed rfl)).trans (by rw [hfd]; rfl)) rfl)
      rw [s1]
      have ec : cm l ps (.int m) = match nb l ps m with | some F => if F.any (isIm m) = true then none else some (.tup [.str "chair", .int m, .tup F]) | none => none := rfl
      rw [ec]
      cases e : nb l ps m with
      | none =>
        have hn : eB (eNotN (eVar 3)) [some (T l), some (T ps), some (.int m), some (ndD none)] = .ok false [some (T l), some (T ps), some (.int m), some (ndD none)] := rfl
        exact ⟨fun _ => ⟨_, (sIf_f (G := sNext) (mAnd_f hn)).trans rfl, _, _, rfl⟩, fun x z => (by cases z)⟩
      | some F =>
        have hn : eB (eNotN (eVar 3)) [some (T l), some (T ps), some (.int m), some (ndD (some F))] = .ok true [some (T l), some (T ps), some (.int m), some (ndD (some F))] := rfl
        have hn2 : eB (e2 ninD (eVar 2) (eVar 3)) [some (T l), some (T ps), some (.int m), some (ndD (some F))] = .ok (!(F.any (isIm m))) [some (T l), some (T ps), some (.int m), some (ndD (some F))] := eB_ok (e2_ok (x := .int m) (y := .tup F) rfl rfl ((hpl F e).ninV m))
        dsimp only
        by_cases z : F.any (isIm m) = true
        · rw [if_pos z]
          rw [z] at hn2
          exact ⟨fun _ => ⟨_, (sIf_f (G := sNext) (mAnd_t hn hn2)).trans rfl, _, _, rfl⟩, fun x z => (by cases z)⟩
        · rw [if_neg z]
          have zf : F.any (isIm m) = false := by simpa using z
          rw [zf] at hn2
          refine ⟨fun z => (by cases z), fun x z => ?_⟩
          cases z
          exact ⟨[some (T l), some (T ps), some (.int m), some (ndD (some F))], (sIf_t (mAnd_t hn hn2)).trans (sRet_ok (eTup_ok (ds := [.str "chair", .int m, .tup F]) (aCons_ok rfl (aCons_ok rfl (aCons_ok rfl rfl))) (by simp))), ⟨_, _, rfl⟩⟩)
    have hi0 : iRg1 (aCons (eC (.int 3)) aNil) ρ = .ok (rgD 0 3) ρ := iRg1_ok (n := 3) (aCons_ok rfl rfl) (by omega)
    cases hc : (rgD 0 3).findSome? (cm l ps) with
    | none =>
      obtain ⟨ρ', e, x2, x3, rfl⟩ := main.1 hc
      refine run_ok (b := b_chair) (ρ := [some (T l), some (T ps), x2, x3]) (ρ0 := ρ) ?_ rfl (by simp) rfl
      unfold b_chair
      rw [g1, g2, s3]
      exact (seq_nx ((sFor_of hi0).trans e)).trans (sRet_ok rfl)
    | some x =>
      obtain ⟨ρ', e, x2, x3, rfl⟩ := main.2 x hc
      refine run_ok (b := b_chair) (ρ := [some (T l), some (T ps), x2, x3]) (ρ0 := ρ) ?_ rfl (by simp) rfl
      unfold b_chair
      rw [g1, g2, s3]
      exact seq_ret ((sFor_of hi0).trans e)
/-! what they tell is like itself -/
theorem fo_form {l ps : List Int} {x : D} (h : foV l ps = some x) : ∃ p : List Int, x = T p := by
  obtain ⟨d, hd, e⟩ := List.exists_of_findSome?_eq_some h
  obtain ⟨i, rfl, _, _⟩ := rgD_mem hd
  obtain ⟨d2, hd2, e2⟩ := List.exists_of_findSome?_eq_some (show (rgD (i + 1) (N l)).findSome? (cin l ps i.toNat) = some x from e)
  obtain ⟨o, rfl, _, _⟩ := rgD_mem hd2
  have e3 : cv l ps i.toNat o.toNat = some x := e2
  unfold cv at e3
  split at e3
  · cases e3
    exact ⟨[(i.toNat : Int), (o.toNat : Int), (apart l.length (slips l (i.toNat : Int)) (slips l (o.toNat : Int))).getD 0 0], rfl⟩
  · cases e3
theorem ch_form {l ps : List Int} (h : Picks l ps) (h3 : l.length = 3) {x : D} (e : chV l ps = some x) : (∃ v, x = .tup [.str "one", .int v]) ∨ ∃ m F, Plain F ∧ x = .tup [.str "chair", .int m, .tup F] := by
  unfold chV at e
  split at e
  · cases e; exact .inl ⟨_, rfl⟩
  · obtain ⟨d, hd, e⟩ := List.exists_of_findSome?_eq_some e
    obtain ⟨i, rfl, h0, h1⟩ := rgD_mem hd
    obtain ⟨m, rfl⟩ : ∃ m : Nat, i = m := ⟨i.toNat, by omega⟩
    have ec : cm l ps (.int m) = match nb l ps m with | some F => if F.any (isIm m) = true then none else some (.tup [.str "chair", .int m, .tup F]) | none => none := rfl
    rw [ec] at e
    cases z : nb l ps m with
    | none => rw [z] at e; cases e
    | some F =>
      rw [z] at e
      dsimp only at e
      split at e
      · cases e
      · cases e
        exact .inr ⟨_, F, (named_val h (m := m) (by omega)).2 F z, rfl⟩
theorem eqB_one (v : Int) : eqB (.tup [.str "one", .int v]) (.tup [.str "one", .int v]) = some true := by
  have h1 : toPy (.tup [.str "one", .int v]) = some (.tuple [.str "one", .int v]) := rfl
  refine eqB_same h1 h1 ?_
  have ok : PyData.strOk (Str.ofString "one") = true := by decide +kernel
  unfold SeqAt.shaped
  simp only [PyData.canLay0, PyData.canLayAll0, PyData.depth, PyData.depthAll, ok]
  rfl
theorem eqB_chair (m : Int) {F : List D} (h : Plain F) : eqB (.tup [.str "chair", .int m, .tup F]) (.tup [.str "chair", .int m, .tup F]) = some true := by
  have h1 : toPy (.tup [.str "chair", .int m, .tup F]) = some (.tuple [.str "chair", .int m, .tuple (F.map pd)]) := by
    have e : toPy (.tup F) = some (.tuple (F.map pd)) := by
      show (toPyL F).map PyData.tuple = _
      rw [h.py]; rfl
    show (toPyL [.str "chair", .int m, .tup F]).map PyData.tuple = _
    simp only [toPyL, e]
    rfl
  refine eqB_same h1 h1 ?_
  have ok : PyData.strOk (Str.ofString "chair") = true := by decide +kernel
  unfold SeqAt.shaped
  simp only [PyData.canLay0, PyData.canLayAll0, h.lay, PyData.depth, PyData.depthAll, h.dep, ok]
  rfl
theorem ch_same {l ps : List Int} (h : Picks l ps) (h3 : l.length = 3) : eqB ((chV l ps).getD .non) ((chV l ps).getD .non) = some true := by
  cases e : chV l ps with
  | none => exact eqB_same (x := .non) (y := .non) rfl rfl rfl
  | some x =>
    rcases ch_form h h3 e with ⟨v, rfl⟩ | ⟨m, F, hF, rfl⟩
    · exact eqB_one v
    · exact eqB_chair m hF
theorem fo_same {l ps : List Int} : eqB ((foV l ps).getD .non) ((foV l ps).getD .non) = some true := by
  cases e : foV l ps with
  | none => exact eqB_same (x := .non) (y := .non) rfl rfl rfl
  | some x =>
    obtain ⟨p, rfl⟩ := fo_form e
    show eqB (T p) (T p) = _
    rw [eqB_TI, decide_eq_true rfl]
theorem rg3 : rgD 0 3 = [.int 0, .int 1, .int 2] := by kernel_rfl
/-- a chair just where no own slip counts -/
theorem either {l ps : List Int} (h : Picks l ps) (h3 : l.length = 3) : isN ((chV l ps).getD .non) = !(isN ((foV l ps).getD .non)) := by
  cases e : foV l ps with
  | none =>
    obtain ⟨m, G, hm, eG, hG⟩ := tells h h3 (no_own e)
    have : (chV l ps).isSome = true := by
      unfold chV
      split
      · rfl
      · rw [List.findSome?_isSome_iff]
        refine ⟨.int m, rgD_in (by omega) (by omega), ?_⟩
        show (match nb l ps m with | some F => if F.any (isIm m) = true then none else some (D.tup [.str "chair", .int m, .tup F]) | none => none).isSome = true
        rw [eG]
        dsimp only
        rw [hG]
        rfl
    obtain ⟨x, hx⟩ := Option.isSome_iff_exists.mp this
    rw [hx]
    rcases ch_form h h3 hx with ⟨v, rfl⟩ | ⟨m, F, hF, rfl⟩ <;> rfl
  | some y =>
    obtain ⟨p, rfl⟩ := fo_form e
    show _ = true
    cases hx : chV l ps with
    | none => rfl
    | some x =>
      exfalso
      have hc : (once ps).length = 1 ∨ ∃ (m : Nat) (G : List D), m < l.length ∧ nb l ps m = some G ∧ G.any (isIm m) = false := by
        unfold chV at hx
        split at hx
        · next z => exact .inl (by omega)
        · obtain ⟨d, hd, ed⟩ := List.exists_of_findSome?_eq_some hx
          obtain ⟨i, rfl, h0, h1⟩ := rgD_mem hd
          obtain ⟨m, rfl⟩ : ∃ m : Nat, i = m := ⟨i.toNat, by omega⟩
          refine .inr ⟨m, ?_⟩
          have ec : cm l ps (.int m) = match nb l ps m with | some F => if F.any (isIm m) = true then none else some (.tup [.str "chair", .int m, .tup F]) | none => none := rfl
          rw [ec] at ed
          cases z : nb l ps m with
          | none => rw [z] at ed; cases ed
          | some F =>
            rw [z] at ed
            dsimp only at ed
            by_cases q : F.any (isIm m) = true
            · rw [if_pos q] at ed; cases ed
            · exact ⟨F, by omega, rfl, by simpa using q⟩
      rw [told_no h hc] at e
      cases e
theorem ne_same {x : D} (h : eqB x x = some true) {fa fb : M D} {ρ ρ1 ρ2 : DL.Env} (h1 : fa ρ = .ok x ρ1) (h2 : fb ρ1 = .ok x ρ2) : e2 neD fa fb ρ = .ok (.bl false) ρ2 := ne_ok h1 h2 h
theorem law_right_ok {l ps : List Int} (h : Picks l ps) : F_law_right [T l, T ps] = .ok (.bl true) [none, none] := by
  obtain ⟨fo, efo⟩ : ∃ fo, fo = (foV l ps).getD .non := ⟨_, rfl⟩
  have hff : frz fo = fo := by
    rw [efo]
    cases e : foV l ps with
    | none => rfl
    | some x => obtain ⟨p, rfl⟩ := fo_form e; rfl
  have hfro : fro fo = true := by rw [← hff]; exact fro_frz fo
  have fo1 := first_own_val h
  have fo2 := law_fo_val h
  have fo3 := fo_same (l := l) (ps := ps)
  rw [← efo] at fo1 fo2 fo3
  let ρ : DL.Env := [some (T l), some (T ps), none, none]
  let ρ2 : DL.Env := [some (T l), some (T ps), some fo, none]
  have s1 : ∀ R : SF, sSeq (sAsg (eFrz (eCall F_law_first_own (aCons (eVar 0) (aCons (eVar 1) aNil)) [] [])) (gSet 2)) R ρ = R ρ2 := fun R => seq_nx (sAsg_ok (d := fo) (ρ1 := ρ) ((eFrz_ok (eCall_of (ρ1 := ρ) (aCons_ok rfl (aCons_ok rfl rfl)) rfl fo2 rfl)).trans (by rw [hff]; rfl)) rfl)
  have c1 : eCall F_first_own (aCons (eVar 0) (aCons (eVar 1) aNil)) [] [] ρ2 = .ok fo ρ2 := eCall_of (ρ1 := ρ2) (aCons_ok rfl (aCons_ok rfl rfl)) rfl fo1 rfl
  have v2 : eVar 2 ρ2 = .ok fo ρ2 := ev rfl hfro
  have s2 : ∀ (F R : SF), sSeq (sIf (eB (e2 neD (eCall F_first_own (aCons (eVar 0) (aCons (eVar 1) aNil)) [] []) (eVar 2))) F sNext) R ρ2 = R ρ2 := fun F R => seq_nx ((sIf_f (G := sNext) (eB_ok (ne_same fo3 c1 v2))).trans rfl)
  have hlen : eBi lenD (aCons (eVar 0) aNil) ρ2 = .ok (.int l.length) ρ2 := eBi_ok (aCons_ok rfl rfl) (len_TI l)
  by_cases h3 : l.length = 3
  · have s3 : ∀ (F R : SF), sSeq (sIf (eB (e2 neD (eBi lenD (aCons (eVar 0) aNil)) (eC (.int 3)))) F sNext) R ρ2 = R ρ2 := fun F R => seq_nx ((sIf_f (G := sNext) (eB_ok (nei_ok (i := l.length) (j := 3) hlen rfl (by rw [h3]; rfl)))).trans rfl)
    obtain ⟨ch, ech⟩ : ∃ ch, ch = (chV l ps).getD .non := ⟨_, rfl⟩
    have ch1 := chair_val h h3
    have ch2 := law_chair_val h h3
    have ch3 := ch_same h h3
    have hei := either h h3
    rw [← ech] at ch1 ch2 ch3 hei
    rw [← efo] at hei
    have hform : ch = .non ∨ ∃ ds, ch = .tup ds := by
      rw [ech]
      cases e : chV l ps with
      | none => exact .inl rfl
      | some x => rcases ch_form h h3 e with ⟨v, rfl⟩ | ⟨m, F, hF, rfl⟩ <;> exact .inr ⟨_, rfl⟩
    have hcf : frz ch = ch := by rcases hform with e | ⟨ds, e⟩ <;> rw [e] <;> rfl
    have hfc : fro ch = true := by rw [← hcf]; exact fro_frz ch
    let ρ3 : DL.Env := [some (T l), some (T ps), some fo, some ch]
    have s4 : ∀ R : SF, sSeq (sAsg (eFrz (eCall F_chair (aCons (eVar 0) (aCons (eVar 1) aNil)) [] [])) (gSet 3)) R ρ2 = R ρ3 := fun R => seq_nx (sAsg_ok (d := ch) (ρ1 := ρ2) ((eFrz_ok (eCall_of (ρ1 := ρ2) (aCons_ok rfl (aCons_ok rfl rfl)) rfl ch1 rfl)).trans (by rw [hcf]; rfl)) rfl)
    have v3 : eVar 3 ρ3 = .ok ch ρ3 := ev rfl hfc
    have v2 : eVar 2 ρ3 = .ok fo ρ3 := ev rfl hfro
    have c2 : eCall F_law_chair (aCons (eVar 0) (aCons (eVar 1) aNil)) [] [] ρ3 = .ok ch ρ3 := eCall_of (ρ1 := ρ3) (aCons_ok rfl (aCons_ok rfl rfl)) rfl ch2 rfl
    have a1 : eIsN (eVar 3) ρ3 = .ok (.bl (isN ch)) ρ3 := by unfold eIsN; rw [mbind_of v3]; rfl
    have a2 : eNotN (eVar 2) ρ3 = .ok (.bl !(isN fo)) ρ3 := by unfold eNotN; rw [mbind_of v2]; rfl
    have a3 : e2 neD (eIsN (eVar 3)) (eNotN (eVar 2)) ρ3 = .ok (.bl false) ρ3 := by
      rw [← hei] at a2
      exact ne_same (eqB_bl _ _ |>.trans (by rw [beq_self_eq_true])) a1 a2
    have s5 : ∀ (F R : SF), sSeq (sIf (mOr (eB (e2 neD (eVar 3) (eCall F_law_chair (aCons (eVar 0) (aCons (eVar 1) aNil)) [] []))) (eB (e2 neD (eIsN (eVar 3)) (eNotN (eVar 2))))) F sNext) R ρ3 = R ρ3 := fun F R => seq_nx ((sIf_f (G := sNext) (mOr_f (eB_ok (ne_same ch3 v3 c2)) (eB_ok a3))).trans rfl)
    refine run_ok (b := b_law_right) (ρ := ρ3) (ρ0 := ρ) ?_ rfl (by simp [ρ3]) rfl
    unfold b_law_right
    rw [s1, s2, s3, s4, s5]
    refine sRet_ok ?_
    rcases hform with e | ⟨ds, e⟩
    · rw [e] at a1
      unfold eOr
      rw [mbind_of a1]
      rfl
    · rw [e] at a1
      exact eOr_f a1 (eInst_ok v3 (by rw [e]; rfl))
  · have nz : (!decide ((l.length : Int) = 3)) = true := by
      have : ¬ ((l.length : Int) = 3) := by omega
      rw [decide_eq_false this]; rfl
    refine run_ok (b := b_law_right) (ρ := ρ2) (ρ0 := ρ) ?_ rfl (by simp [ρ2]) rfl
    unfold b_law_right
    rw [s1, s2]
    exact seq_ret ((sIf_t (eB_ok (nei_ok (i := l.length) (j := 3) hlen rfl nz))).trans (sRet_ok rfl))
end Lk51

set_option Elab.async false
set_option linter.all false
set_option maxRecDepth 100000
set_option maxHeartbeats 2000000
namespace Lk51
open PySem PySem.Spec L2 DL
/-! drawn couplings: _law_power, _law_turned, _law_row_with, _law_switched, _law_coupling -/
structure Coup (n : Nat) (ps : List Int) : Prop where
  len : ps.length = 2 ^ n
  b : ∀ x ∈ ps, 0 ≤ x ∧ x < (n : Int)
theorem Coup.set {n : Nat} {ps : List Int} (h : Coup n ps) (k : Nat) {v : Int} (hv : 0 ≤ v ∧ v < (n : Int)) : Coup n (ps.set k v) where
  len := by rw [List.length_set]; exact h.len
  b := fun x hx => by
    rcases List.mem_or_eq_of_mem_set hx with hx | rfl
    · exact h.b x hx
    · exact hv
theorem Dice.mono {B B' : Int} {s : D} (h : Dice B s) (hb : B ≤ B') : Dice B' s := by
  obtain ⟨cs, i, big, mix, cnt, e, h1, h2, h3, h4, h5, h6, h7, h8, h9⟩ := h
  exact ⟨cs, i, big, mix, cnt, e, h1, h2, h3, h4, h5, h6, h7, h8, by omega⟩
theorem set_ints (ps : List Int) (k : Nat) (v : Int) : (ps.map D.int).set k (.int v) = (ps.set k v).map D.int := List.map_set.symm
theorem ixN_nat {n k : Nat} (h : k < n) : ixN n (k : Int) = some k := by unfold ixN; simp [h]
theorem le8 {n : Nat} (h : n ≤ 8) : n = 0 ∨ n = 1 ∨ n = 2 ∨ n = 3 ∨ n = 4 ∨ n = 5 ∨ n = 6 ∨ n = 7 ∨ n = 8 := by omega
theorem power_ok {n : Nat} (h : n ≤ 8) : F_law_power [.int n] = .ok (.int ((2 ^ n : Nat) : Int)) [none] := by
  rcases le8 h with rfl | rfl | rfl | rfl | rfl | rfl | rfl | rfl | rfl <;> kernel_rfl
theorem pow_le {n : Nat} (h : n ≤ 8) : 2 ^ n ≤ 256 ∧ 1 ≤ 2 ^ n := by
  rcases le8 h with rfl | rfl | rfl | rfl | rfl | rfl | rfl | rfl | rfl <;> decide
theorem ev_ {ρ : DL.Env} {i : Nat} {d : D} (h : ρ[i]? = some (some d)) (hf : fro d = true) : eVar i ρ = .ok d ρ := by
  unfold eVar; rw [h]; exact if_pos hf
theorem turned_ok {n m r : Nat} (hn : n ≤ 8) (hm : m < n) (hr : r < 2 ^ n) : ∃ v : Nat, F_law_turned [.int n, .int r, .int m] = .ok (.int v) [none, none, none] ∧ v < 2 ^ n := by
  have hp := pow_le hn
  obtain ⟨k, hk⟩ : ∃ k, k = n - 1 - m := ⟨_, rfl⟩
  obtain ⟨st, hst⟩ : ∃ st, st = 2 ^ k := ⟨_, rfl⟩
  have hs1 : 1 ≤ st ∧ st ≤ 256 := by rw [hst]; have := pow_le (n := k) (by omega); omega
  have e2n : 2 ^ n = st * (2 * 2 ^ m) := by rw [hst, ← Nat.pow_succ', ← Nat.pow_add]; congr 1; omega
  let ρ : DL.Env := [some (.int n), some (.int r), some (.int m), none]
  let ρ1 : DL.Env := [some (.int n), some (.int r), some (.int m), some (.int st)]
  have ha : e2 subD (e2 subD (eVar 0) (eC (.int 1))) (eVar 2) ρ = .ok (.int k) ρ := by
    have z : e2 subD (e2 subD (eVar 0) (eC (.int 1))) (eVar 2) ρ = .ok (.int ((n : Int) - 1 - m)) ρ := sub_ok (sub_ok (ev_ rfl rfl) rfl) (ev_ rfl rfl)
    rw [z, show (n : Int) - 1 - m = (k : Int) by omega]
  have hk8 : F_law_power [.int k] = .ok (.int st) [none] := by rw [hst]; exact power_ok (by omega)
  have hpw : eCall F_law_power (aCons (e2 subD (e2 subD (eVar 0) (eC (.int 1))) (eVar 2)) aNil) [] [] ρ = .ok (.int st) ρ := eCall_of (aCons_ok ha rfl) rfl hk8 rfl
  have s1 : ∀ R : SF, sSeq (sAsg (eFrz (eCall F_law_power (aCons (e2 subD (e2 subD (eVar 0) (eC (.int 1))) (eVar 2)) aNil) [] [])) (gSet 3)) R ρ = R ρ1 := fun R => seq_nx (sAsg_ok (eFrz_int hpw) rfl)
  have v1 : eVar 1 ρ1 = .ok (.int r) ρ1 := ev_ rfl rfl
  have v3 : eVar 3 ρ1 = .ok (.int st) ρ1 := ev_ rfl rfl
  have hd : e2 fdivD (eVar 1) (eVar 3) ρ1 = .ok (.int ((r / st : Nat) : Int)) ρ1 := fdiv_ok v1 v3 (by rw [fdivD_ok (by omega) (by omega), Int.natCast_ediv])
  have hq : e2 modD (e2 fdivD (eVar 1) (eVar 3)) (eC (.int 2)) ρ1 = .ok (.int ((r / st % 2 : Nat) : Int)) ρ1 := mod_ok (j := 2) hd rfl (by rw [modD_ok (by omega)]; rfl)
  have hq1 : r / st < 2 * 2 ^ m := Nat.div_lt_of_lt_mul (by rw [← e2n]; exact hr)
  have hlt : r < st * (r / st + 1) := Nat.lt_mul_div_succ r (by omega)
  by_cases c : r / st % 2 = 1
  · have hge : st ≤ r := by
      rcases Nat.lt_or_ge r st with z | z
      · rw [Nat.div_eq_of_lt z] at c; cases c
      · exact z
    refine ⟨r - st, run_ok (b := b_law_turned) (ρ := ρ1) (ρ0 := ρ) ?_ rfl (by simp [ρ1]) rfl, by omega⟩
    unfold b_law_turned
    rw [s1]
    have hs := sub_ok (fa := eVar 1) (fb := eVar 3) v1 v3
    rw [show (r : Int) - st = ((r - st : Nat) : Int) by omega] at hs
    exact sRet_ok (eIf_t (eB_ok (eqi_ok hq rfl (decide_eq_true (by rw [c]; rfl)))) hs)
  · have h2 : r / st + 2 ≤ 2 * 2 ^ m := by omega
    have h3 : st * (r / st + 2) ≤ st * (2 * 2 ^ m) := Nat.mul_le_mul_left st h2
    have h4 : st * (r / st + 2) = st * (r / st + 1) + st := by rw [Nat.mul_add, Nat.mul_add]; omega
    refine ⟨r + st, run_ok (b := b_law_turned) (ρ := ρ1) (ρ0 := ρ) ?_ rfl (by simp [ρ1]) rfl, by omega⟩
    unfold b_law_turned
    rw [s1]
    have hs := add_ok (fa := eVar 1) (fb := eVar 3) v1 v3
    rw [show (r : Int) + st = ((r + st : Nat) : Int) by omega] at hs
    exact sRet_ok (eIf_f (eB_ok (eqi_ok hq rfl (decide_eq_false (by omega)))) hs)
theorem with_ok {n m s r : Nat} (hn : n ≤ 8) (hm : m < n) (hs : s < 2) (hr : r < 2 ^ (n - 1)) : ∃ v : Nat, F_law_row_with [.int n, .int m, .int s, .int r] = .ok (.int v) [none, none, none, none] ∧ v < 2 ^ n := by
  have hp := pow_le (n := n - 1) (by omega)
  obtain ⟨k, hk⟩ : ∃ k, k = n - 1 - m := ⟨_, rfl⟩
  obtain ⟨lo, hlo⟩ : ∃ lo, lo = 2 ^ k := ⟨_, rfl⟩
  have hs1 : 1 ≤ lo ∧ lo ≤ 256 := by rw [hlo]; have := pow_le (n := k) (by omega); omega
  have e2n : 2 ^ (n - 1) = lo * 2 ^ m := by rw [hlo, ← Nat.pow_add]; congr 1; omega
  have e2m : 2 ^ n = 2 ^ (n - 1) * 2 := by rw [← Nat.pow_succ]; congr 1; omega
  let ρ : DL.Env := [some (.int n), some (.int m), some (.int s), some (.int r), none]
  let ρ1 : DL.Env := [some (.int n), some (.int m), some (.int s), some (.int r), some (.int lo)]
  have ha : e2 subD (e2 subD (eVar 0) (eC (.int 1))) (eVar 1) ρ = .ok (.int k) ρ := by
    have z : e2 subD (e2 subD (eVar 0) (eC (.int 1))) (eVar 1) ρ = .ok (.int ((n : Int) - 1 - m)) ρ := sub_ok (sub_ok (ev_ rfl rfl) rfl) (ev_ rfl rfl)
    rw [z, show (n : Int) - 1 - m = (k : Int) by omega]
  have hk8 : F_law_power [.int k] = .ok (.int lo) [none] := by rw [hlo]; exact power_ok (by omega)
  have hpw : eCall F_law_power (aCons (e2 subD (e2 subD (eVar 0) (eC (.int 1))) (eVar 1)) aNil) [] [] ρ = .ok (.int lo) ρ := eCall_of (aCons_ok ha rfl) rfl hk8 rfl
  have s1 : ∀ R : SF, sSeq (sAsg (eFrz (eCall F_law_power (aCons (e2 subD (e2 subD (eVar 0) (eC (.int 1))) (eVar 1)) aNil) [] [])) (gSet 4)) R ρ = R ρ1 := fun R => seq_nx (sAsg_ok (eFrz_int hpw) rfl)
  have v2 : eVar 2 ρ1 = .ok (.int s) ρ1 := ev_ rfl rfl
  have v3 : eVar 3 ρ1 = .ok (.int r) ρ1 := ev_ rfl rfl
  have v4 : eVar 4 ρ1 = .ok (.int lo) ρ1 := ev_ rfl rfl
  have hdl : r / lo * lo ≤ r := Nat.div_mul_le_self r lo
  have hdle : r / lo ≤ r := Nat.div_le_self r lo
  have hml : r % lo < lo := Nat.mod_lt _ (by omega)
  have hq0 : (0 : Int) ≤ (r : Int) / (lo : Int) := Int.ediv_nonneg (by omega) (by omega)
  have hq1 : r / lo < 2 ^ m := Nat.div_lt_of_lt_mul (by rw [← e2n]; exact hr)
  have hd : e2 fdivD (eVar 3) (eVar 4) ρ1 = .ok (.int ((r / lo : Nat) : Int)) ρ1 := fdiv_ok v3 v4 (by rw [fdivD_ok (by omega) (by omega), Int.natCast_ediv])
  have h1 : e2 mulD (e2 fdivD (eVar 3) (eVar 4)) (eVar 4) ρ1 = .ok (.int ((r / lo * lo : Nat) : Int)) ρ1 := mul_ok hd v4 (by rw [mulD_ok2 (by omega) (by omega), ← Int.natCast_mul])
  have h2 : e2 mulD (e2 mulD (e2 fdivD (eVar 3) (eVar 4)) (eVar 4)) (eC (.int 2)) ρ1 = .ok (.int ((r / lo * lo * 2 : Nat) : Int)) ρ1 := mul_ok (j := 2) h1 rfl (by rw [mulD_ok2 (by omega) (by omega)]; rfl)
  have h3 : e2 mulD (eVar 2) (eVar 4) ρ1 = .ok (.int ((s * lo : Nat) : Int)) ρ1 := mul_ok v2 v4 (by rw [mulD_ok2 (by omega) (by omega), ← Int.natCast_mul])
  have h4 : e2 modD (eBi intD (aCons (eVar 3) aNil)) (eVar 4) ρ1 = .ok (.int ((r % lo : Nat) : Int)) ρ1 := mod_ok (int_ok (aCons_ok v3 rfl)) v4 (by rw [modD_ok (by omega), Int.natCast_emod])
  refine ⟨r / lo * lo * 2 + s * lo + r % lo, run_ok (b := b_law_row_with) (ρ := ρ1) (ρ0 := ρ) ?_ rfl (by simp [ρ1]) rfl, ?_⟩
  · unfold b_law_row_with
    rw [s1]
    exact sRet_ok (add_ok (add_ok h2 h3) h4)
  · have q1 : (r / lo + 1) * lo ≤ 2 ^ m * lo := Nat.mul_le_mul_right lo hq1
    have q2 : (r / lo + 1) * lo = r / lo * lo + lo := Nat.succ_mul _ _
    have q3 : s * lo ≤ 1 * lo := Nat.mul_le_mul_right lo (by omega)
    rw [e2m, e2n, Nat.mul_comm lo]
    omega
/-! switched -/
abbrev wE (n : Nat) (s c t : D) (ps : List Int) (x5 x6 x7 x8 x9 x10 : Option D) : DL.Env := [some s, some (.int n), some c, some t, some (.lst true (ps.map D.int)), x5, x6, x7, x8, x9, x10]
def plB : SF := (sSeq (sAsg (eFrz (eVar 7)) (gItem 4 (eVar 10)))
  (sAsg (eFrz (eVar 7)) (gItem 4 (eCall F_law_turned (aCons (eVar 1) (aCons (eVar 10) (aCons (eVar 8) aNil))) [] []))))
theorem plB_ok {n : Nat} (hn : n ≤ 8) {ps : List Int} (h : Coup n ps) (s c t : D) (x5 x6 x9 : Option D) {o m q : Nat} (ho : o < n) (hm : m < n) (hq : q < 2 ^ n) : ∃ ps', plB (wE n s c t ps x5 x6 (some (.int o)) (some (.int m)) x9 (some (.int q))) = .nx (wE n s c t ps' x5 x6 (some (.int o)) (some (.int m)) x9 (some (.int q))) ∧ Coup n ps' := by
  obtain ⟨v, ev1, hv⟩ := turned_ok hn hm hq
  have hov : 0 ≤ (o : Int) ∧ (o : Int) < n := ⟨by omega, by omega⟩
  have h1 := h.set q hov
  let ρ := wE n s c t ps x5 x6 (some (.int o)) (some (.int m)) x9 (some (.int q))
  let ρ1 := wE n s c t (ps.set q o) x5 x6 (some (.int o)) (some (.int m)) x9 (some (.int q))
  have g1 : gItem 4 (eVar 10) (.int o) ρ = some ρ1 := by
    have z := put_ok (i := 4) (j := (q : Int)) (n := q) (ds := ps.map D.int) (d := .int o) (ρ := ρ) (ρ1 := ρ) (fj := eVar 10) rfl (ev_ rfl rfl) rfl rfl (ixN_nat (by rw [List.length_map, h.len]; exact hq))
    rw [z, set_ints]
    rfl
  have s1 : ∀ R : SF, sSeq (sAsg (eFrz (eVar 7)) (gItem 4 (eVar 10))) R ρ = R ρ1 := fun R => seq_nx (sAsg_ok (eFrz_int (ev_ rfl rfl)) g1)
  have hc : eCall F_law_turned (aCons (eVar 1) (aCons (eVar 10) (aCons (eVar 8) aNil))) [] [] ρ1 = .ok (.int v) ρ1 := eCall_of (ρ1 := ρ1) (aCons_ok (ev_ rfl rfl) (aCons_ok (ev_ rfl rfl) (aCons_ok (ev_ rfl rfl) rfl))) rfl ev1 rfl
  refine ⟨(ps.set q o).set v o, ?_, h1.set v hov⟩
  show plB ρ = _
  unfold plB
  rw [s1]
  refine sAsg_ok (eFrz_int (ev_ rfl rfl)) ?_
  have z := put_ok (i := 4) (j := (v : Int)) (n := v) (ds := (ps.set q o).map D.int) (d := .int o) (ρ := ρ1) (ρ1 := ρ1) rfl hc rfl rfl (ixN_nat (by rw [List.length_map, h1.len]; exact hv))
  rw [z, set_ints]
  rfl
def swB : SF := (sSeq (sAsg (eFrz (eCall F_law_draw (aCons (eMove 0) (aCons (eBor (eBi lenD (aCons (eVar 4) aNil))) aNil)) [] [(0, 0)])) (gSet 6))
  (sSeq (sAsg (eFrz (eCall F_law_draw (aCons (eMove 0) (aCons (eVar 1) aNil)) [] [(0, 0)])) (gSet 7))
  (sSeq (sAsg (eFrz (eVix 4 (eVar 6))) (gSet 8))
  (sSeq (sAsg (eFrz (eCall F_law_turned (aCons (eVar 1) (aCons (eVar 6) (aCons (eVar 7) aNil))) [] [])) (gSet 9))
  (sIf (tBor (mAnd (eB (e2 neD (eVar 7) (eVar 8))) (eB (e2 eqD (e2 ixD (eVar 4) (eVar 9)) (eVar 8))))) (sFor (iSeq (eTup (aCons (eVar 6) (aCons (eVar 9) aNil)))) (gSet 10) plB) sNext)))))
theorem getD_in {ps : List Int} {k : Nat} (h : k < ps.length) : (ps.map D.int)[k]? = some (.int (ps.getD k 0)) ∧ ps.getD k 0 ∈ ps := by
  rw [List.getElem?_map, List.getD_eq_getElem?_getD, List.getElem?_eq_getElem h]
  exact ⟨rfl, List.getElem_mem h⟩
theorem vix_ok {ρ : DL.Env} {i : Nat} {fj : M D} {ds : List D} {j : Nat} {e : D} (h0 : ρ[i]? = some (some (.lst true ds))) (h1 : fj ρ = .ok (.int j) ρ) (h2 : ds[j]? = some e) (hf : fro e = true) : eVix i fj ρ = .ok e ρ := by
  unfold eVix
  rw [h0]
  dsimp only
  rw [mbind_of h1]
  dsimp only
  rw [h0]
  dsimp only [items, Option.bind_some]
  rw [DL.atI_nat h2]
  exact if_pos hf
theorem swB_ok {n : Nat} (hn : n ≤ 8) (hn1 : 1 ≤ n) {ps : List Int} (h : Coup n ps) {B : Int} {s : D} (hs : Dice B s) (hB : B < 2 ^ 39) (c t : D) (x5 x6 x7 x8 x9 x10 : Option D) : ∃ s' ps' y6 y7 y8 y9 y10, swB (wE n s c t ps x5 x6 x7 x8 x9 x10) = .nx (wE n s' c t ps' x5 y6 y7 y8 y9 y10) ∧ Coup n ps' ∧ Dice (B + 2) s' := by
  have hp := pow_le hn
  obtain ⟨r, s1, k1, r0, r1, hs1⟩ := drw (ρ := wE n s c t ps x5 x6 x7 x8 x9 x10) (i := 0) (f := eBor (eBi lenD (aCons (eVar 4) aNil))) (m := ((2 ^ n : Nat) : Int)) hs rfl (by
    refine eBor_int (ρ1 := ([none, some (.int n), some c, some t, some (.lst true (ps.map D.int)), x5, x6, x7, x8, x9, x10] : DL.Env).map (Option.map frz)) ?_
    refine eBi_ok (ds := [.lst false (frzL (ps.map D.int))]) (aCons_ok (ev_ rfl rfl) rfl) ?_
    rw [frzL_ints, len_lst, List.length_map, h.len]) (by omega) (by omega) (by omega)
  obtain ⟨o, s2, k2, o0, o1, hs2⟩ := drw (ρ := wE n s1 c t ps x5 (some (.int r)) x7 x8 x9 x10) (i := 0) (f := eVar 1) (m := n) hs1 rfl (ev_ rfl rfl) (by omega) (by omega) (by omega)
  obtain ⟨r, rfl⟩ : ∃ k : Nat, r = k := ⟨r.toNat, by omega⟩
  obtain ⟨o, rfl⟩ : ∃ k : Nat, o = k := ⟨o.toNat, by omega⟩
  have hr : r < ps.length := by rw [h.len]; omega
  obtain ⟨g1, g2⟩ := getD_in hr
  have mb := h.b _ g2
  obtain ⟨m, em⟩ : ∃ m : Nat, ps.getD r 0 = m := ⟨(ps.getD r 0).toNat, by omega⟩
  rw [em] at g1 mb
  obtain ⟨b, eb, hb⟩ := turned_ok hn (m := o) (r := r) (by omega) (by omega)
  have hbl : b < ps.length := by rw [h.len]; omega
  obtain ⟨g3, g4⟩ := getD_in hbl
  let ρ1 := wE n s1 c t ps x5 (some (.int r)) x7 x8 x9 x10
  let ρ2 := wE n s2 c t ps x5 (some (.int r)) (some (.int o)) x8 x9 x10
  let ρ3 := wE n s2 c t ps x5 (some (.int r)) (some (.int o)) (some (.int m)) x9 x10
  let ρ4 := wE n s2 c t ps x5 (some (.int r)) (some (.int o)) (some (.int m)) (some (.int b)) x10
  have q1 : ∀ R : SF, sSeq (sAsg (eFrz (eCall F_law_draw (aCons (eMove 0) (aCons (eBor (eBi lenD (aCons (eVar 4) aNil))) aNil)) [] [(0, 0)])) (gSet 6)) R (wE n s c t ps x5 x6 x7 x8 x9 x10) = R ρ1 := fun R => seq_nx (sAsg_ok (eFrz_int k1) rfl)
  have q2 : ∀ R : SF, sSeq (sAsg (eFrz (eCall F_law_draw (aCons (eMove 0) (aCons (eVar 1) aNil)) [] [(0, 0)])) (gSet 7)) R ρ1 = R ρ2 := fun R => seq_nx (sAsg_ok (eFrz_int k2) rfl)
  have q3 : ∀ R : SF, sSeq (sAsg (eFrz (eVix 4 (eVar 6))) (gSet 8)) R ρ2 = R ρ3 := fun R => seq_nx (sAsg_ok (eFrz_int (vix_ok (ds := ps.map D.int) (j := r) rfl (ev_ rfl rfl) g1 rfl)) rfl)
  have hc : eCall F_law_turned (aCons (eVar 1) (aCons (eVar 6) (aCons (eVar 7) aNil))) [] [] ρ3 = .ok (.int b) ρ3 := eCall_of (ρ1 := ρ3) (aCons_ok (ev_ rfl rfl) (aCons_ok (ev_ rfl rfl) (aCons_ok (ev_ rfl rfl) rfl))) rfl eb rfl
  have q4 : ∀ R : SF, sSeq (sAsg (eFrz (eCall F_law_turned (aCons (eVar 1) (aCons (eVar 6) (aCons (eVar 7) aNil))) [] [])) (gSet 9)) R ρ3 = R ρ4 := fun R => seq_nx (sAsg_ok (eFrz_int hc) rfl)
  have main : ∃ bt, tBor (mAnd (eB (e2 neD (eVar 7) (eVar 8))) (eB (e2 eqD (e2 ixD (eVar 4) (eVar 9)) (eVar 8)))) ρ4 = .ok bt ρ4 := by
    let ρf : DL.Env := [some (frz s2), some (.int n), some (frz c), some (frz t), some (.lst false (ps.map D.int)), x5.map frz, some (.int r), some (.int o), some (.int m), some (.int b), x10.map frz]
    have hz : ρ4.map (Option.map frz) = ρf := by
      show [some (frz s2), some (.int n), some (frz c), some (frz t), some (.lst false (frzL (ps.map D.int))), x5.map frz, some (.int r), some (.int o), some (.int m), some (.int b), x10.map frz] = _
      rw [frzL_ints]
    have v7 : eVar 7 ρf = .ok (.int o) ρf := ev_ rfl rfl
    have v8 : eVar 8 ρf = .ok (.int m) ρf := ev_ rfl rfl
    have i9 : e2 ixD (eVar 4) (eVar 9) ρf = .ok (.int (ps.getD b 0)) ρf := DL.e2_ok (x := .lst false (ps.map D.int)) (y := .int b) (ev_ rfl rfl) (ev_ rfl rfl) (ix_l g3)
    cases z : !decide ((o : Int) = m) with
    | false => exact ⟨false, tBor_ok (ρ1 := ρf) (by rw [hz]; exact mAnd_f (eB_ok (nei_ok v7 v8 z)))⟩
    | true => exact ⟨_, tBor_ok (ρ1 := ρf) (by rw [hz]; exact mAnd_t (eB_ok (nei_ok v7 v8 z)) (eB_ok (eqi_ok i9 v8 rfl)))⟩
  obtain ⟨bt, ebt⟩ := main
  unfold swB
  rw [q1, q2, q3, q4]
  cases bt with
  | false => exact ⟨s2, ps, some (.int r), some (.int o), some (.int m), some (.int b), x10, (sIf_f (G := sNext) ebt).trans rfl, h, hs2.mono (by omega)⟩
  | true =>
    obtain ⟨ps1, p1, c1⟩ := plB_ok hn h s2 c t x5 (some (.int r)) (some (.int b)) (o := o) (m := m) (q := r) (by omega) (by omega) (by omega)
    obtain ⟨ps2, p2, c2⟩ := plB_ok hn c1 s2 c t x5 (some (.int r)) (some (.int b)) (o := o) (m := m) (q := b) (by omega) (by omega) hb
    refine ⟨s2, ps2, some (.int r), some (.int o), some (.int m), some (.int b), some (.int b), (sIf_t ebt).trans ?_, c2, hs2.mono (by omega)⟩
    have ht : eTup (aCons (eVar 6) (aCons (eVar 9) aNil)) ρ4 = .ok (.tup [.int r, .int b]) ρ4 := eTup_ok (ds := [.int r, .int b]) (aCons_ok (ev_ rfl rfl) (aCons_ok (ev_ rfl rfl) rfl)) (by simp)
    refine (sFor_of (ds := [.int r, .int b]) (ρ1 := ρ4) (iSeq_ok ht rfl)).trans ?_
    rw [forGo_cons rfl p1, forGo_cons rfl p2]
    rfl
theorem sw_loop {n : Nat} (hn : n ≤ 8) (hn1 : 1 ≤ n) (c t : D) : ∀ (ds : List D) (ps : List Int) (B : Int) (s : D) (x5 x6 x7 x8 x9 x10 : Option D), Coup n ps → Dice B s → B + 2 * ds.length < 2 ^ 39 →
    ∃ s' ps' y5 y6 y7 y8 y9 y10, forGo (gSet 5) swB ds (wE n s c t ps x5 x6 x7 x8 x9 x10) = .nx (wE n s' c t ps' y5 y6 y7 y8 y9 y10) ∧ Coup n ps' ∧ Dice (B + 2 * ds.length) s'
  | [], ps, B, s, x5, x6, x7, x8, x9, x10, h, hs, _ => ⟨s, ps, x5, x6, x7, x8, x9, x10, rfl, h, by simpa using hs⟩
  | d :: ds, ps, B, s, x5, x6, x7, x8, x9, x10, h, hs, hB => by
    rw [List.length_cons] at hB ⊢
    obtain ⟨s1, ps1, y6, y7, y8, y9, y10, e1, h1, hs1⟩ := swB_ok hn hn1 h hs (by omega) c t (some d) x6 x7 x8 x9 x10
    obtain ⟨s2, ps2, z5, z6, z7, z8, z9, z10, e2, h2, hs2⟩ := sw_loop hn hn1 c t ds ps1 (B + 2) s1 (some d) y6 y7 y8 y9 y10 h1 hs1 (by omega)
    refine ⟨s2, ps2, z5, z6, z7, z8, z9, z10, ?_, h2, hs2.mono (by omega)⟩
    rw [forGo_cons rfl e1]
    exact e2
theorem switched_ok {n : Nat} (hn : n ≤ 8) (hn1 : 1 ≤ n) {ps : List Int} (h : Coup n ps) {B t : Int} {s : D} (hs : Dice B s) (hB : B < 2 ^ 38) (ht : 0 ≤ t ∧ t ≤ 1000) : ∃ s' ps', F_law_switched [s, .int n, .lst false (ps.map D.int), .int t] = .ok (T ps') [some s', none, none, none] ∧ Coup n ps' ∧ Dice (B + 2000) s' := by
  obtain ⟨s2, ps2, z5, z6, z7, z8, z9, z10, e2, h2, hs2⟩ := sw_loop hn hn1 (.lst false (ps.map D.int)) (.int t) (rgD 0 t) ps B s none none none none none none h hs (by rw [rgD_len]; omega)
  rw [rgD_len] at hs2
  refine ⟨s2, ps2, run_ok (b := b_law_switched) (ρ := [some s2, some (.int n), some (.lst false (ps.map D.int)), some (.int t), some (.lst false (ps2.map D.int)), z5, z6, z7, z8, z9, z10]) (ρ0 := [some s, some (.int n), some (.lst false (ps.map D.int)), some (.int t), none, none, none, none, none, none, none]) ?_ rfl (by simp) rfl, h2, hs2.mono (by omega)⟩
  unfold b_law_switched
  refine Eq.trans (seq_nx (ρ1 := wE n s (.lst false (ps.map D.int)) (.int t) ps none none none none none none) (sAsg_ok (eBi_ok (ds := [.lst false (ps.map D.int)]) (aCons_ok (ev_ rfl rfl) rfl) rfl) rfl)) ?_
  refine Eq.trans (seq_nx ((sFor_of (iRg1_ok (n := t) (aCons_ok (ev_ rfl rfl) rfl) (by omega))).trans e2)) ?_
  have hz : frzAt 4 (wE n s2 (.lst false (ps.map D.int)) (.int t) ps2 z5 z6 z7 z8 z9 z10) = [some s2, some (.int n), some (.lst false (ps.map D.int)), some (.int t), some (.lst false (ps2.map D.int)), z5, z6, z7, z8, z9, z10] := by
    show [some s2, some (.int n), some (.lst false (ps.map D.int)), some (.int t), some (.lst false (frzL (ps2.map D.int))), z5, z6, z7, z8, z9, z10] = _
    rw [frzL_ints]
  show sRet _ (frzAt 4 _) = _
  rw [hz]
  refine sRet_ok (eBi_ok (ds := [.lst false (ps2.map D.int)]) (aCons_ok (ev_ rfl rfl) rfl) ?_)
  show some (D.tup (frzL (ps2.map D.int))) = _
  rw [frzL_ints]
end Lk51

set_option Elab.async false
set_option linter.all false
set_option maxRecDepth 100000
set_option maxHeartbeats 2000000
namespace Lk51
open PySem PySem.Spec L2 DL
theorem rep_rg (n : Nat) (d : D) : (rgD 0 (n : Int)).map (fun _ => d) = List.replicate n d := by
  rw [rgD_0, List.map_map]
  apply List.ext_getElem?
  intro j
  rw [List.getElem?_replicate]
  by_cases h : j < n
  · rw [if_pos h, List.getElem?_map, List.getElem?_range h]; rfl
  · rw [if_neg h, List.getElem?_eq_none (by simp; omega)]
abbrev cE (n m : Nat) (s : D) (x3 x4 x5 x6 x7 : Option D) : DL.Env := [some s, some (.int n), some (.int m), x3, x4, x5, x6, x7]
def rB : SF := (sAsg (eFrz (e2 addD (e2 ixD (eVar 6) (eVar 7)) (eBi intD (aCons (e2 geD (e2 ixD (eVar 6) (eVar 7)) (eVar 2)) aNil)))) (gItem 3 (eCall F_law_row_with (aCons (eVar 1) (aCons (eVar 2) (aCons (eVar 4) (aCons (eVar 7) aNil)))) [] [])))
theorem rB_ok {n m sl k : Nat} (hn : n ≤ 8) (hn2 : 2 ≤ n) (hm : m < n) (hsl : sl < 2) {ps hs : List Int} (h : Coup n ps) (hh : Coup (n - 1) hs) (hk : k < 2 ^ (n - 1)) (s : D) (x5 : Option D) :
    ∃ ps', rB (cE n m s (some (.lst true (ps.map D.int))) (some (.int sl)) x5 (some (.tup (hs.map D.int))) (some (.int k))) = .nx (cE n m s (some (.lst true (ps'.map D.int))) (some (.int sl)) x5 (some (.tup (hs.map D.int))) (some (.int k))) ∧ Coup n ps' := by
  obtain ⟨v, ew, hv⟩ := with_ok hn hm hsl hk
  obtain ⟨g1, g2⟩ := getD_in (ps := hs) (k := k) (by rw [hh.len]; exact hk)
  have gb := hh.b _ g2
  let ρ := cE n m s (some (.lst true (ps.map D.int))) (some (.int sl)) x5 (some (.tup (hs.map D.int))) (some (.int k))
  have i1 : e2 ixD (eVar 6) (eVar 7) ρ = .ok (.int (hs.getD k 0)) ρ := DL.e2_ok (x := .tup (hs.map D.int)) (y := .int k) (ev_ rfl rfl) (ev_ rfl rfl) (ix_t g1)
  have v2 : eVar 2 ρ = .ok (.int m) ρ := ev_ rfl rfl
  obtain ⟨w, hw, ew2⟩ : ∃ w : Int, (0 ≤ w ∧ w < n) ∧ e2 addD (e2 ixD (eVar 6) (eVar 7)) (eBi intD (aCons (e2 geD (e2 ixD (eVar 6) (eVar 7)) (eVar 2)) aNil)) ρ = .ok (.int w) ρ := by
    by_cases c : (m : Int) ≤ hs.getD k 0
    · have q : eBi intD (aCons (e2 geD (e2 ixD (eVar 6) (eVar 7)) (eVar 2)) aNil) ρ = .ok (.int 1) ρ := eBi_ok (ds := [.bl true]) (aCons_ok (ge_ok i1 v2 (decide_eq_true c)) rfl) rfl
      exact ⟨hs.getD k 0 + 1, ⟨by omega, by omega⟩, add_ok i1 q⟩
    · have q : eBi intD (aCons (e2 geD (e2 ixD (eVar 6) (eVar 7)) (eVar 2)) aNil) ρ = .ok (.int 0) ρ := eBi_ok (ds := [.bl false]) (aCons_ok (ge_ok i1 v2 (decide_eq_false c)) rfl) rfl
      exact ⟨hs.getD k 0 + 0, ⟨by omega, by omega⟩, add_ok i1 q⟩
  have hc : eCall F_law_row_with (aCons (eVar 1) (aCons (eVar 2) (aCons (eVar 4) (aCons (eVar 7) aNil)))) [] [] ρ = .ok (.int v) ρ := eCall_of (ρ1 := ρ) (aCons_ok (ev_ rfl rfl) (aCons_ok v2 (aCons_ok (ev_ rfl rfl) (aCons_ok (ev_ rfl rfl) rfl)))) rfl ew rfl
  refine ⟨ps.set v w, ?_, h.set v hw⟩
  refine sAsg_ok (eFrz_int ew2) ?_
  have z := put_ok (i := 3) (j := (v : Int)) (n := v) (ds := ps.map D.int) (d := .int w) (ρ := ρ) (ρ1 := ρ) rfl hc rfl rfl (ixN_nat (by rw [List.length_map, h.len]; exact hv))
  rw [z, set_ints]
  rfl
theorem r_loop {n m sl : Nat} (hn : n ≤ 8) (hn2 : 2 ≤ n) (hm : m < n) (hsl : sl < 2) {hs : List Int} (hh : Coup (n - 1) hs) (s : D) (x5 : Option D) : ∀ (ds : List D) (ps : List Int) (x7 : Option D), (∀ d ∈ ds, ∃ k : Nat, d = .int k ∧ k < 2 ^ (n - 1)) → Coup n ps →
    ∃ ps' y7, forGo (gSet 7) rB ds (cE n m s (some (.lst true (ps.map D.int))) (some (.int sl)) x5 (some (.tup (hs.map D.int))) x7) = .nx (cE n m s (some (.lst true (ps'.map D.int))) (some (.int sl)) x5 (some (.tup (hs.map D.int))) y7) ∧ Coup n ps'
  | [], ps, x7, _, h => ⟨ps, x7, rfl, h⟩
  | d :: ds, ps, x7, hd, h => by
    obtain ⟨k, rfl, hk⟩ := hd d List.mem_cons_self
    obtain ⟨ps1, q1, h1⟩ := rB_ok hn hn2 hm hsl h hh hk s x5
    obtain ⟨ps2, y7, q2, h2⟩ := r_loop hn hn2 hm hsl hh s x5 ds ps1 (some (.int k)) (fun d z => hd d (List.mem_cons_of_mem _ z)) h1
    refine ⟨ps2, y7, ?_, h2⟩
    rw [forGo_cons rfl q1]
    exact q2
def hfB (R : List D → Res D) : SF := (sSeq (sAsg (eFrz (eCall R (aCons (eMove 0) (aCons (e2 subD (eVar 1) (eC (.int 1))) aNil)) [] [(0, 0)])) (gSet 6)) (sFor (iRg1 (aCons (eBi lenD (aCons (eVar 6) aNil)) aNil)) (gSet 7) rB))
def Gives (R : List D → Res D) (n : Nat) (K : Int) : Prop := ∀ (B : Int) (s : D), Dice B s → B + K < 2 ^ 37 → ∃ s' ps, R [s, .int n] = .ok (.tup (ps.map D.int)) [some s', none] ∧ Coup n ps ∧ Dice (B + K) s'
theorem hfB_ok {R : List D → Res D} {n m : Nat} (hn : n ≤ 8) (hn2 : 2 ≤ n) (hm : m < n) {K : Int} (hR : Gives R (n - 1) K) {ps : List Int} (h : Coup n ps) {B : Int} {s : D} (hs : Dice B s) (hB : B + K < 2 ^ 37) {sl : Nat} (hsl : sl < 2) (x5 x6 x7 : Option D) :
    ∃ s' ps' y6 y7, hfB R (cE n m s (some (.lst true (ps.map D.int))) (some (.int sl)) x5 x6 x7) = .nx (cE n m s' (some (.lst true (ps'.map D.int))) (some (.int sl)) x5 y6 y7) ∧ Coup n ps' ∧ Dice (B + K) s' := by
  have hp := pow_le (n := n - 1) (by omega)
  obtain ⟨s1, hf, eR, hh, hs1⟩ := hR B s hs hB
  let ρ := cE n m s (some (.lst true (ps.map D.int))) (some (.int sl)) x5 x6 x7
  let ρ1 := cE n m s1 (some (.lst true (ps.map D.int))) (some (.int sl)) x5 (some (.tup (hf.map D.int))) x7
  have ha : e2 subD (eVar 1) (eC (.int 1)) (ρ.set 0 none) = .ok (.int ((n - 1 : Nat) : Int)) (ρ.set 0 none) := by
    have z : e2 subD (eVar 1) (eC (.int 1)) (ρ.set 0 none) = .ok (.int ((n : Int) - 1)) (ρ.set 0 none) := sub_ok (ev_ rfl rfl) rfl
    rw [z, show (n : Int) - 1 = ((n - 1 : Nat) : Int) by omega]
  have hc : eCall R (aCons (eMove 0) (aCons (e2 subD (eVar 1) (eC (.int 1))) aNil)) [] [(0, 0)] ρ = .ok (.tup (hf.map D.int)) (ρ.set 0 (some s1)) := eCall_of (aCons_ok (show eMove 0 ρ = .ok s (ρ.set 0 none) from rfl) (aCons_ok ha rfl)) rfl eR rfl
  have q1 : ∀ F : SF, sSeq (sAsg (eFrz (eCall R (aCons (eMove 0) (aCons (e2 subD (eVar 1) (eC (.int 1))) aNil)) [] [(0, 0)])) (gSet 6)) F ρ = F ρ1 := fun F => seq_nx (sAsg_ok (eFrz_ok hc) rfl)
  have hl : eBi lenD (aCons (eVar 6) aNil) ρ1 = .ok (.int ((2 ^ (n - 1) : Nat) : Int)) ρ1 := eBi_ok (ds := [.tup (hf.map D.int)]) (aCons_ok (ev_ rfl rfl) rfl) (by rw [len_tup, List.length_map, hh.len])
  obtain ⟨ps2, y7, q2, h2⟩ := r_loop hn hn2 hm hsl hh s1 x5 (rgD 0 ((2 ^ (n - 1) : Nat) : Int)) ps x7 (fun d hd => by
    obtain ⟨i, rfl, h0, h1⟩ := rgD_mem hd
    exact ⟨i.toNat, by rw [Int.toNat_of_nonneg h0], by omega⟩) h
  refine ⟨s1, ps2, some (.tup (hf.map D.int)), y7, ?_, h2, hs1⟩
  show hfB R ρ = _
  unfold hfB
  rw [q1]
  exact (sFor_of (iRg1_ok (n := ((2 ^ (n - 1) : Nat) : Int)) (aCons_ok hl rfl) (by omega))).trans q2
theorem coup_step {R : List D → Res D} {n : Nat} {K : Int} (hn : n ≤ 8) (hn1 : 1 ≤ n) (hK : 0 ≤ K) (hR : 2 ≤ n → Gives R (n - 1) K) : Gives (runS [0] 2 8 (b_law_coupling R)) n (2 * K + 2003) := by
  intro B s hs hB
  have hp := pow_le hn
  let ρ0 : DL.Env := [some s, some (.int n), none, none, none, none, none, none]
  obtain ⟨m, s1, k1, m0, m1, hs1⟩ := drw (ρ := ρ0) (i := 0) (f := eVar 1) (m := n) hs rfl (ev_ rfl rfl) (by omega) (by omega) (by omega)
  obtain ⟨m, rfl⟩ : ∃ k : Nat, m = k := ⟨m.toNat, by omega⟩
  let ps : List Int := List.replicate (2 ^ n) (m : Int)
  have hps : Coup n ps := ⟨List.length_replicate, fun x hx => by rw [List.eq_of_mem_replicate hx]; exact ⟨by omega, m1⟩⟩
  let ρ1 := cE n m s1 none none none none none
  let ρ2 := cE n m s1 (some (.lst true (ps.map D.int))) none none none none
  have q1 : ∀ F : SF, sSeq (sAsg (eFrz (eCall F_law_draw (aCons (eMove 0) (aCons (eVar 1) aNil)) [] [(0, 0)])) (gSet 2)) F ρ0 = F ρ1 := fun F => seq_nx (sAsg_ok (eFrz_int k1) rfl)
  have hpw : eCall F_law_power (aCons (eVar 1) aNil) [] [] ρ1 = .ok (.int ((2 ^ n : Nat) : Int)) ρ1 := eCall_of (ρ1 := ρ1) (aCons_ok (ev_ rfl rfl) rfl) rfl (power_ok hn) rfl
  have hlc : eLcL 8 (iRg1 (aCons (eCall F_law_power (aCons (eVar 1) aNil) [] []) aNil)) (gSet 5) mYes (eFrz (eVar 2)) [5] ρ1 = .ok (.lst true (ps.map D.int)) ρ1 := by
    have z := lc_map1 (i := 5) (ρ := ρ1) (ρ1 := ρ1) (L := 8) (te := eFrz (eVar 2)) (yf := fun _ => .int m) (iRg1_ok (n := ((2 ^ n : Nat) : Int)) (aCons_ok hpw rfl) (by omega)) (by rw [rgD_len]; omega) rfl rfl (by decide) (fun d _ => eFrz_int (ev_ rfl rfl))
    refine Eq.trans z ?_
    rw [rep_rg]
    show Res.ok (D.lst true (List.replicate (2 ^ n) (.int m))) ρ1 = Res.ok (D.lst true ((List.replicate (2 ^ n) (m : Int)).map D.int)) ρ1
    rw [List.map_replicate]
  have q2 : ∀ F : SF, sSeq (sAsg (eLcL 8 (iRg1 (aCons (eCall F_law_power (aCons (eVar 1) aNil) [] []) aNil)) (gSet 5) mYes (eFrz (eVar 2)) [5]) (gSet 3)) F ρ1 = F ρ2 := fun F => seq_nx (sAsg_ok hlc rfl)
  have v1 : ∀ s x3 x4 x5 x6 x7, eVar 1 (cE n m s x3 x4 x5 x6 x7) = .ok (.int n) (cE n m s x3 x4 x5 x6 x7) := fun s x3 x4 x5 x6 x7 => ev_ rfl rfl
  -- the middle
  have mid : ∃ s2 ps2 x4 x6 x7, (sIf (mAnd (eB (e2 gtD (eVar 1) (eC (.int 1)))) (eB (e2 gtD (eCall F_law_draw (aCons (eMove 0) (aCons (eC (.int 3)) aNil)) [] [(0, 0)]) (eC (.int 0))))) (sFor (iRg1 (aCons (eC (.int 2)) aNil)) (gSet 4) (hfB R)) sNext) ρ2 = .nx (cE n m s2 (some (.lst true (ps2.map D.int))) x4 none x6 x7) ∧ Coup n ps2 ∧ Dice (B + 2 + 2 * K) s2 := by
    by_cases c : 1 < n
    · have t1 : eB (e2 gtD (eVar 1) (eC (.int 1))) ρ2 = .ok true ρ2 := eB_ok (gt_ok (i := n) (j := 1) (v1 _ _ _ _ _ _) rfl (decide_eq_true (by omega)))
      obtain ⟨r, s2, k2, r0, r1, hs2⟩ := drw (ρ := ρ2) (i := 0) (f := eC (.int 3)) (m := 3) hs1 rfl rfl (by omega) (by omega) (by omega)
      let ρ3 := cE n m s2 (some (.lst true (ps.map D.int))) none none none none
      by_cases c2 : (0 : Int) < r
      · have t2 := mAnd_t t1 (eB_ok (gt_ok (fb := eC (.int 0)) (j := 0) k2 rfl (decide_eq_true c2)))
        obtain ⟨s3, ps3, y6, y7, z1, h3, hs3⟩ := hfB_ok hn (by omega) (m := m) (by omega) (hR (by omega)) hps hs2 (by omega) (sl := 0) (by omega) none none none
        obtain ⟨s4, ps4, w6, w7, z2, h4, hs4⟩ := hfB_ok hn (by omega) (m := m) (by omega) (hR (by omega)) h3 hs3 (by omega) (sl := 1) (by omega) none y6 y7
        refine ⟨s4, ps4, some (.int 1), w6, w7, (sIf_t t2).trans ?_, h4, hs4.mono (by omega)⟩
        show sFor (iRg1 (aCons (eC (.int 2)) aNil)) (gSet 4) (hfB R) ρ3 = _
        refine (sFor_of (ds := [.int (0 : Nat), .int (1 : Nat)]) (ρ1 := ρ3) (iRg1_ok (n := 2) (aCons_ok rfl rfl) (by omega))).trans ?_
        rw [forGo_cons rfl z1, forGo_cons rfl z2]
        rfl
      · have t2 := mAnd_t t1 (eB_ok (gt_ok (fb := eC (.int 0)) (j := 0) k2 rfl (decide_eq_false c2)))
        exact ⟨s2, ps, none, none, none, (sIf_f (G := sNext) t2).trans rfl, hps, hs2.mono (by omega)⟩
    · have t1 : eB (e2 gtD (eVar 1) (eC (.int 1))) ρ2 = .ok false ρ2 := eB_ok (gt_ok (i := n) (j := 1) (v1 _ _ _ _ _ _) rfl (decide_eq_false (by omega)))
      exact ⟨s1, ps, none, none, none, (sIf_f (G := sNext) (mAnd_f t1)).trans rfl, hps, hs1.mono (by omega)⟩
  obtain ⟨s2, ps2, x4, x6, x7, q3, h2, hs2⟩ := mid
  let ρ4 := cE n m s2 (some (.lst false (ps2.map D.int))) x4 none x6 x7
  have hz : frzAt 3 (cE n m s2 (some (.lst true (ps2.map D.int))) x4 none x6 x7) = ρ4 := by
    show [some s2, some (.int n), some (.int m), some (.lst false (frzL (ps2.map D.int))), x4, none, x6, x7] = _
    rw [frzL_ints]
  obtain ⟨t, s3, k3, t0, t1, hs3⟩ := drw (ρ := ρ4) (i := 0) (f := e2 addD (e2 mulD (eC (.int 2)) (eBi lenD (aCons (eVar 3) aNil))) (eC (.int 1))) (m := 2 * ((2 ^ n : Nat) : Int) + 1) hs2 rfl (by
    have hl : eBi lenD (aCons (eVar 3) aNil) (ρ4.set 0 none) = .ok (.int ((2 ^ n : Nat) : Int)) (ρ4.set 0 none) := eBi_ok (ds := [.lst false (ps2.map D.int)]) (aCons_ok (ev_ rfl rfl) rfl) (by rw [len_lst, List.length_map, h2.len])
    exact add_ok (mul_ok (i := 2) rfl hl (mulD_ok2 (by omega) (by omega))) rfl) (by omega) (by omega) (by omega)
  obtain ⟨s4, ps4, k4, h4, hs4⟩ := switched_ok hn hn1 h2 hs3 (by omega) (t := t) ⟨t0, by omega⟩
  refine ⟨s4, ps4, run_ok (b := b_law_coupling R) (ρ := ρ4.set 0 (some s4)) (ρ0 := ρ0) ?_ rfl (by simp [ρ4]) rfl, h4, hs4.mono (by omega)⟩
  unfold b_law_coupling
  rw [q1, q2]
  refine Eq.trans (seq_nx q3) ?_
  show sRet _ (frzAt 3 _) = _
  rw [hz]
  have hv3 : eVar 3 ρ4 = .ok (.lst false (ps2.map D.int)) ρ4 := ev_ rfl rfl
  have hargs : aMvL 0 (aCons (eVar 1) (aCons (eVar 3) (aCons (eFrz (eCall F_law_draw (aCons (eMove 0) (aCons (e2 addD (e2 mulD (eC (.int 2)) (eBi lenD (aCons (eVar 3) aNil))) (eC (.int 1))) aNil)) [] [(0, 0)])) aNil))) ρ4 = .ok [s3, .int n, .lst false (ps2.map D.int), .int t] ((ρ4.set 0 (some s3)).set 0 none) := aMvL_ok (d0 := s2) rfl (aCons_ok (v1 _ _ _ _ _ _) (aCons_ok hv3 (aCons_ok (eFrz_int k3) rfl))) rfl
  exact sRet_ok (eCall_of hargs rfl k4 rfl)
def kk : Nat → Int
  | 0 => 0
  | n + 1 => 2 * kk n + 2003
theorem kk_pos : ∀ n, 0 ≤ kk n
  | 0 => by decide
  | n + 1 => by have := kk_pos n; show 0 ≤ 2 * kk n + 2003; omega
theorem coup_all : ∀ (n k : Nat), n + 1 ≤ 8 → n + 1 ≤ k → Gives (F_law_coupling_ k) (n + 1) (kk (n + 1))
  | n, 0, _, h => by omega
  | 0, k + 1, hn, hk => coup_step (n := 1) (K := kk 0) hn (by omega) (by decide) fun z => by omega
  | n + 1, k + 1, hn, hk => coup_step (n := n + 2) (K := kk (n + 1)) hn (by omega) (kk_pos _) fun _ => coup_all n k (by omega) (by omega)
theorem coupling_ok {n : Nat} (hn : n ≤ 8) (hn1 : 1 ≤ n) {B : Int} {s : D} (hs : Dice B s) (hB : B < 2 ^ 36) : ∃ s' ps, F_law_coupling [s, .int n] = .ok (.tup (ps.map D.int)) [some s', none] ∧ Coup n ps ∧ Dice (B + 600000) s' := by
  obtain ⟨m, rfl⟩ : ∃ m, n = m + 1 := ⟨n - 1, by omega⟩
  have hk : kk (m + 1) ≤ 600000 := by
    have cs : m = 0 ∨ m = 1 ∨ m = 2 ∨ m = 3 ∨ m = 4 ∨ m = 5 ∨ m = 6 ∨ m = 7 := by omega
    rcases cs with rfl | rfl | rfl | rfl | rfl | rfl | rfl | rfl <;> decide
  obtain ⟨s', ps, e, h, hd⟩ := coup_all m 10 hn (by omega) B s hs (by omega)
  exact ⟨s', ps, e, h, hd.mono (by omega)⟩
end Lk51

set_option Elab.async false
set_option linter.all false
set_option maxRecDepth 100000
set_option maxHeartbeats 2000000
namespace Lk51
open PySem PySem.Spec L2 DL
/-! a drawn club -/
theorem Pr_app (l : List Int) (x : Int) : Pr (l ++ [x]) = Pr l * x := by unfold Pr; rw [List.foldl_append]; rfl
theorem Pr_pos {l : List Int} (h : ∀ x ∈ l, 1 ≤ x ∧ x ≤ 4) : 1 ≤ Pr l := prod_le l 1 (fun x hx => (h x hx).1) (by decide)
structure Mk (l : List Int) (room : Int) : Prop where
  s : ∀ x ∈ l, 1 ≤ x ∧ x ≤ 4
  r : 1 ≤ room ∧ room ≤ 24
  p : Pr l * room ≤ 24
abbrev gE (m : Nat) (s : D) (l : List Int) (room : Int) (x4 x5 : Option D) : DL.Env := [some s, some (.int m), some (T l), some (.int room), x4, x5]
def clB : SF := (sSeq (sAsg (eFrz (e2 addD (eC (.int 1)) (eCall F_law_draw (aCons (eMove 0) (aCons (eBi min2D (aCons (eC (.int 4)) (aCons (eVar 3) aNil))) aNil)) [] [(0, 0)]))) (gSet 5))
  (sSeq (sAsg (eFrz (e2 addD (eVar 2) (eTup (aCons (eVar 5) aNil)))) (gSet 2))
  (sAsg (e2 fdivD (eVar 3) (eVar 5)) (gSet 3))))
theorem clB_ok {m : Nat} {s : D} {l : List Int} {room B : Int} (h : Mk l room) (hl : l.length ≤ 8) (hs : Dice B s) (hB : B < 2 ^ 36) (x4 x5 : Option D) :
    ∃ s' v room', clB (gE m s l room x4 x5) = .nx (gE m s' (l ++ [v]) room' x4 (some (.int v))) ∧ Mk (l ++ [v]) room' ∧ Dice (B + 1) s' := by
  obtain ⟨q, hq⟩ : ∃ q : Int, q = if room < 4 then room else 4 := ⟨_, rfl⟩
  have hr := h.r
  have hq1 : 1 ≤ q ∧ q ≤ 4 ∧ q ≤ room := by rw [hq]; split <;> omega
  obtain ⟨r, s1, k1, r0, r1, hs1⟩ := drw (ρ := gE m s l room x4 x5) (i := 0) (f := eBi min2D (aCons (eC (.int 4)) (aCons (eVar 3) aNil))) (m := q) hs rfl (by
    refine eBi_ok (ds := [.int 4, .int room]) (aCons_ok rfl (aCons_ok (ev_ rfl rfl) rfl)) ?_
    rw [hq]; rfl) (by omega) (by omega) (by omega)
  obtain ⟨v, hv⟩ : ∃ v, v = 1 + r := ⟨_, rfl⟩
  let ρ1 := gE m s1 l room x4 (some (.int v))
  let ρ2 := gE m s1 (l ++ [v]) room x4 (some (.int v))
  have t1 : ∀ R : SF, sSeq (sAsg (eFrz (e2 addD (eC (.int 1)) (eCall F_law_draw (aCons (eMove 0) (aCons (eBi min2D (aCons (eC (.int 4)) (aCons (eVar 3) aNil))) aNil)) [] [(0, 0)]))) (gSet 5)) R (gE m s l room x4 x5) = R ρ1 := fun R => seq_nx (sAsg_ok (eFrz_int (add_ok (i := 1) rfl k1)) (by show _ = some (gE m s1 l room x4 (some (.int v))); rw [hv]; rfl))
  have ha : e2 addD (eVar 2) (eTup (aCons (eVar 5) aNil)) ρ1 = .ok (T (l ++ [v])) ρ1 := by
    have h1 : eTup (aCons (eVar 5) aNil) ρ1 = .ok (.tup [.int v]) ρ1 := eTup_ok (ds := [.int v]) (aCons_ok (ev_ rfl rfl) rfl) (by simp)
    refine DL.e2_ok (ev_ rfl rfl) h1 ((add_tup (by rw [List.length_map, List.length_singleton]; omega)).trans ?_)
    show _ = some (D.tup ((l ++ [v]).map D.int))
    rw [List.map_append]
    rfl
  have t2 : ∀ R : SF, sSeq (sAsg (eFrz (e2 addD (eVar 2) (eTup (aCons (eVar 5) aNil)))) (gSet 2)) R ρ1 = R ρ2 := fun R => seq_nx (sAsg_ok (eFrz_ok ha) rfl)
  have hd : e2 fdivD (eVar 3) (eVar 5) ρ2 = .ok (.int (room / v)) ρ2 := fdiv_ok (ev_ rfl rfl) (ev_ rfl rfl) (fdivD_ok (by omega) (by omega))
  refine ⟨s1, v, room / v, ?_, ?_, hs1⟩
  · unfold clB
    rw [t1, t2]
    exact sAsg_ok hd rfl
  · have hv1 : 1 ≤ v ∧ v ≤ room := by omega
    have d1 : 1 ≤ room / v := (Int.le_ediv_iff_mul_le (by omega)).mpr (by omega)
    have d2 : room / v ≤ room := Int.ediv_le_self _ (by omega)
    refine ⟨fun x hx => ?_, ⟨d1, by omega⟩, ?_⟩
    · rcases List.mem_append.mp hx with hx | hx
      · exact h.s x hx
      · rw [List.mem_singleton.mp hx]; omega
    · have hp := Pr_pos h.s
      have h2 : v * (room / v) ≤ room := Int.mul_ediv_self_le (by omega)
      have h3 : Pr l * (v * (room / v)) ≤ Pr l * room := Int.mul_le_mul_of_nonneg_left h2 (by omega)
      rw [Pr_app, Int.mul_assoc]
      have := h.p
      omega
theorem cl_loop {m : Nat} : ∀ (ds : List D) (s : D) (l : List Int) (room B : Int) (x4 x5 : Option D), Mk l room → l.length + ds.length ≤ 8 → Dice B s → B + ds.length < 2 ^ 36 →
    ∃ s' l' room' y4 y5, forGo (gSet 4) clB ds (gE m s l room x4 x5) = .nx (gE m s' l' room' y4 y5) ∧ Mk l' room' ∧ l'.length = l.length + ds.length ∧ Dice (B + ds.length) s'
  | [], s, l, room, B, x4, x5, h, _, hs, _ => ⟨s, l, room, x4, x5, rfl, h, rfl, by simpa using hs⟩
  | d :: ds, s, l, room, B, x4, x5, h, hl, hs, hB => by
    rw [List.length_cons] at hl hB ⊢
    obtain ⟨s1, v, room1, k1, h1, hs1⟩ := clB_ok (m := m) h (by omega) hs (by omega) (some d) x5
    obtain ⟨s2, l2, room2, y4, y5, k2, h2, hl2, hs2⟩ := cl_loop ds s1 (l ++ [v]) room1 (B + 1) (some d) (some (.int v)) h1 (by rw [List.length_append, List.length_singleton]; omega) hs1 (by omega)
    refine ⟨s2, l2, room2, y4, y5, ?_, h2, by rw [hl2, List.length_append, List.length_singleton]; omega, hs2.mono (by omega)⟩
    rw [forGo_cons rfl k1]
    exact k2
theorem gclub_ok {m : Nat} (hm : 1 ≤ m ∧ m ≤ 8) {B : Int} {s : D} (hs : Dice B s) (hB : B < 2 ^ 35) : ∃ s' l, F_law_club [s, .int m] = .ok (T l) [some s', none] ∧ Club l ∧ l.length = m ∧ Dice (B + 8) s' := by
  obtain ⟨s2, l, room, y4, y5, k2, h2, hl2, hs2⟩ := cl_loop (m := m) (rgD 0 (m : Int)) s [] 24 B none none ⟨fun x hx => (by cases hx), by omega, by decide⟩ (by rw [rgD_len]; simp; omega) hs (by rw [rgD_len]; omega)
  rw [rgD_len] at hl2 hs2
  have hp := Pr_pos h2.s
  have hr := h2.r
  have hlm : l.length = m := by rw [hl2]; simp
  refine ⟨s2, l, run_ok (b := b_law_club) (ρ := gE m s2 l room y4 y5) (ρ0 := [some s, some (.int m), none, none, none, none]) ?_ rfl (by simp) rfl, ⟨h2.s, by omega, by omega, ?_⟩, hlm, hs2.mono (by omega)⟩
  · unfold b_law_club
    refine Eq.trans (seq_nx (ρ1 := [some s, some (.int m), some (T []), none, none, none]) (sAsg_ok (eTup_ok (ds := []) rfl (by simp)) rfl)) ?_
    refine Eq.trans (seq_nx (ρ1 := gE m s [] 24 none none) (sAsg_ok (show eC (.int 24) _ = .ok (.int 24) [some s, some (.int m), some (T []), none, none, none] from rfl) rfl)) ?_
    refine Eq.trans (seq_nx ((sFor_of (iRg1_ok (n := m) (aCons_ok (ev_ rfl rfl) rfl) (by omega))).trans k2)) ?_
    exact sRet_ok (ev_ rfl rfl)
  · have : Pr l * 1 ≤ Pr l * room := Int.mul_le_mul_of_nonneg_left hr.1 (by omega)
    have := h2.p
    omega
/-! drawn picks -/
theorem ints_of {P : Int → Prop} : ∀ {ds : List D}, (∀ d ∈ ds, ∃ i : Int, d = .int i ∧ P i) → ∃ os : List Int, ds = os.map D.int ∧ ∀ x ∈ os, P x
  | [], _ => ⟨[], rfl, fun x hx => (by cases hx)⟩
  | d :: ds, h => by
    obtain ⟨i, rfl, hi⟩ := h d List.mem_cons_self
    obtain ⟨os, rfl, ho⟩ := ints_of fun d z => h d (List.mem_cons_of_mem _ z)
    exact ⟨i :: os, rfl, fun x hx => by
      rcases List.mem_cons.mp hx with rfl | hx
      · exact hi
      · exact ho x hx⟩
abbrev pE (l : List Int) (s : D) (x2 x3 x4 x5 x6 x7 : Option D) : DL.Env := [some s, some (T l), x2, x3, x4, x5, x6, x7, none, none, none]
theorem in2 (w a b : Int) (h : 0 ≤ w ∧ w < 5) (ha : a = 1 ∧ b = 2 ∨ a = 2 ∧ b = 3) : ∃ t, inD (.int w) (.lst true [.int a, .int b]) = some (.bl t) := by
  have cs : w = 0 ∨ w = 1 ∨ w = 2 ∨ w = 3 ∨ w = 4 := by omega
  rcases ha with ⟨rfl, rfl⟩ | ⟨rfl, rfl⟩
  · rcases cs with rfl | rfl | rfl | rfl | rfl
    · exact ⟨false, by kernel_rfl⟩
    · exact ⟨true, by kernel_rfl⟩
    · exact ⟨true, by kernel_rfl⟩
    · exact ⟨false, by kernel_rfl⟩
    · exact ⟨false, by kernel_rfl⟩
  · rcases cs with rfl | rfl | rfl | rfl | rfl
    · exact ⟨false, by kernel_rfl⟩
    · exact ⟨false, by kernel_rfl⟩
    · exact ⟨true, by kernel_rfl⟩
    · exact ⟨true, by kernel_rfl⟩
    · exact ⟨false, by kernel_rfl⟩
theorem mem_ixI {o : Bool} {os : List Int} {r : Int} (h0 : 0 ≤ r) (h1 : r < os.length) : ∃ x ∈ os, ixD (.lst o (os.map D.int)) (.int r) = some (.int x) := by
  obtain ⟨d, hd, e⟩ := mem_ix (o := o) (ds := os.map D.int) (r := r) h0 (by rw [List.length_map]; exact h1)
  obtain ⟨x, hx, rfl⟩ := List.mem_map.mp hd
  exact ⟨x, hx, e⟩
theorem picks_ok {l : List Int} (c : Club l) {B : Int} {s : D} (hs : Dice B s) (hB : B < 2 ^ 29) : ∃ s' ps, F_law_picks [s, T l] = .ok (T ps) [some s', none] ∧ Picks l ps ∧ Dice (B + 1000) s' := by
  have hN := c.Nle
  have hN1 := c.N1
  have hn8 := c.n8
  have hn1 := c.n1
  let rows : D := .lst false (LL (rowsL l))
  let ρ0 : DL.Env := pE l s none none none none none none
  let ρ1 : DL.Env := pE l s (some rows) none none none none none
  have hlen : ∀ x0 x2 x3 x4 x5 x6 x7 x8 x9 x10, eBi lenD (aCons (eVar 1) aNil) ([x0, some (T l), x2, x3, x4, x5, x6, x7, x8, x9, x10] : DL.Env) = .ok (.int l.length) [x0, some (T l), x2, x3, x4, x5, x6, x7, x8, x9, x10] := fun x0 x2 x3 x4 x5 x6 x7 x8 x9 x10 => eBi_ok (ds := [T l]) (aCons_ok (ev_ rfl rfl) rfl) (len_TI l)
  have hr : eFrz (eCall F_law_rows (aCons (eVar 1) aNil) [] []) ρ0 = .ok rows ρ0 := by
    refine (eFrz_ok (eCall_of (ρ1 := ρ0) (aCons_ok (ev_ rfl rfl) rfl) rfl (law_rows_ok c) rfl)).trans ?_
    show Res.ok (D.lst false (frzL (LL (rowsL l)))) _ = _
    rw [frzL_TI]
    rfl
  have a1 : ∀ R : SF, sSeq (sAsg (eFrz (eCall F_law_rows (aCons (eVar 1) aNil) [] [])) (gSet 2)) R ρ0 = R ρ1 := fun R => seq_nx (sAsg_ok hr rfl)
  obtain ⟨m, s1, k1, m0, m1, hs1⟩ := drw (ρ := ρ1) (i := 0) (f := eBi lenD (aCons (eVar 1) aNil)) (m := l.length) hs rfl (hlen _ _ _ _ _ _ _ _ _ _) (by omega) (by omega) (by omega)
  obtain ⟨m, rfl⟩ : ∃ k : Nat, m = k := ⟨m.toNat, by omega⟩
  have hm : m < l.length := by omega
  let ρ2 : DL.Env := pE l s1 (some rows) (some (.int m)) none none none none
  have a2 : ∀ R : SF, sSeq (sAsg (eFrz (eCall F_law_draw (aCons (eMove 0) (aCons (eBi lenD (aCons (eVar 1) aNil)) aNil)) [] [(0, 0)])) (gSet 3)) R ρ1 = R ρ2 := fun R => seq_nx (sAsg_ok (eFrz_int k1) rfl)
  -- the others
  let pf : D → Bool := fun d => match d with | .int i => !decide (i = (m : Int)) | _ => false
  obtain ⟨os, hos, ho⟩ := ints_of (P := fun i => 0 ≤ i ∧ i < l.length) (ds := ((rgD 0 (l.length : Int)).filter pf).map fun d => d) (by
    rw [List.map_id']
    intro d hd
    obtain ⟨i, rfl, h0, h1⟩ := rgD_mem (List.mem_filter.mp hd).1
    exact ⟨i, rfl, h0, h1⟩)
  have hosl : os.length ≤ l.length := by
    have e := congrArg List.length hos
    rw [List.length_map, List.length_map] at e
    have e2 := List.length_filter_le pf (rgD 0 (l.length : Int))
    rw [rgD_len] at e2
    omega
  let ρ3 : DL.Env := pE l s1 (some rows) (some (.int m)) (some (.lst false (os.map D.int))) none none none
  have hoth : eFrz (eLcL 11 (iRg1 (aCons (eBi lenD (aCons (eVar 1) aNil)) aNil)) (gSet 8) (eB (e2 neD (eVar 8) (eVar 3))) (eFrz (eVar 8)) [8]) ρ2 = .ok (.lst false (os.map D.int)) ρ2 := by
    have z := lc_filter1 (i := 8) (ρ := ρ2) (ρ1 := ρ2) (L := 11) (tt := eB (e2 neD (eVar 8) (eVar 3))) (te := eFrz (eVar 8)) (p := pf) (yf := fun d => d) (iRg1_ok (n := l.length) (aCons_ok (hlen _ _ _ _ _ _ _ _ _ _) rfl) (by omega)) (by rw [rgD_len]; omega) rfl rfl (by decide) (fun d hd => by
      obtain ⟨i, rfl, h0, h1⟩ := rgD_mem hd
      have v8 : eVar 8 (ρ2.set 8 (some (.int i))) = .ok (.int i) (ρ2.set 8 (some (.int i))) := ev_ rfl rfl
      have v3 : eVar 3 (ρ2.set 8 (some (.int i))) = .ok (.int m) (ρ2.set 8 (some (.int i))) := ev_ rfl rfl
      exact eB_ok (nei_ok v8 v3 rfl)) (fun d hd _ => by
      obtain ⟨i, rfl, h0, h1⟩ := rgD_mem hd
      exact eFrz_int (ev_ rfl rfl))
    rw [hos] at z
    refine (eFrz_ok z).trans ?_
    show Res.ok (D.lst false (frzL (os.map D.int))) _ = _
    rw [frzL_ints]
  have a3 : ∀ R : SF, sSeq (sAsg (eFrz (eLcL 11 (iRg1 (aCons (eBi lenD (aCons (eVar 1) aNil)) aNil)) (gSet 8) (eB (e2 neD (eVar 8) (eVar 3))) (eFrz (eVar 8)) [8])) (gSet 4)) R ρ2 = R ρ3 := fun R => seq_nx (sAsg_ok hoth rfl)
  -- who is named for each slip
  let E : D → Option D → DL.Env := fun s x => [some s, some (T l), some rows, some (.int m), some (.lst false (os.map D.int)), none, none, none, none, x, none]
  have hb := c.s _ (getD_mem hm)
  let te4 : M D := eFrz (eIf (eB (e2 gtD (eBi lenD (aCons (eVar 4) aNil)) (eC (.int 0)))) (e2 ixD (eVar 4) (eCall F_law_draw (aCons (eMove 0) (aCons (eBi lenD (aCons (eVar 4) aNil)) aNil)) [] [(0, 0)])) (eC (.int 0)))
  obtain ⟨na, s2, k2, nl, nb2, hs2⟩ := lc_draw (E := E) (v := 9) (te := te4) (P := fun r => 0 ≤ r ∧ r < l.length) (fun s x => rfl) (fun d s => rfl) (fun B s d hs hB => by
    have hl4 : ∀ x, eBi lenD (aCons (eVar 4) aNil) ([x, some (T l), some rows, some (.int m), some (.lst false (os.map D.int)), none, none, none, none, some d, none] : DL.Env) = .ok (.int os.length) [x, some (T l), some rows, some (.int m), some (.lst false (os.map D.int)), none, none, none, none, some d, none] := fun x => eBi_ok (ds := [.lst false (os.map D.int)]) (aCons_ok (ev_ rfl rfl) rfl) (by rw [len_lst, List.length_map])
    by_cases q : (0 : Int) < os.length
    · obtain ⟨r, s', e, r0, r1, hs'⟩ := drw (ρ := E s (some d)) (i := 0) (f := eBi lenD (aCons (eVar 4) aNil)) (m := os.length) hs rfl (hl4 _) (by omega) (by omega) (by omega)
      obtain ⟨x, hx, ex⟩ := mem_ixI (o := false) r0 r1
      refine ⟨x, s', eFrz_int (eIf_t (eB_ok (gt_ok (hl4 _) rfl (decide_eq_true q))) ?_), ho x hx, hs'⟩
      exact DL.e2_ok (ev_ rfl rfl) e ex
    · exact ⟨0, s, eFrz_int (eIf_f (eB_ok (gt_ok (hl4 _) rfl (decide_eq_false q))) rfl), ⟨by omega, by omega⟩, hs.mono (by omega)⟩) (rgD 0 (l.getD m 0)) (B + 1) s1 none hs1 (by rw [rgD_len]; omega)
  rw [rgD_len] at nl hs2
  let ρ4 : DL.Env := pE l s2 (some rows) (some (.int m)) (some (.lst false (os.map D.int))) (some (.lst false (na.map D.int))) none none
  have hnam : eFrz (eLcL 11 (iRg1 (aCons (e2 ixD (eVar 1) (eVar 3)) aNil)) (gSet 9) mYes te4 [9]) ρ3 = .ok (.lst false (na.map D.int)) (E s2 none) := by
    have hi : iRg1 (aCons (e2 ixD (eVar 1) (eVar 3)) aNil) ρ3 = .ok (rgD 0 (l.getD m 0)) ρ3 := iRg1_ok (aCons_ok (DL.e2_ok (x := T l) (y := .int m) (ev_ rfl rfl) (ev_ rfl rfl) (ix_TI hm)) rfl) (by omega)
    have z := eLcL_ok (L := 11) (g := gSet 9) (tt := mYes) (vs := [9]) hi (by rw [rgD_len]; omega) rfl k2
    refine (eFrz_ok z).trans ?_
    show Res.ok (D.lst false (frzL (na.map D.int))) _ = _
    rw [frzL_ints]
  have a4 : ∀ R : SF, sSeq (sAsg (eFrz (eLcL 11 (iRg1 (aCons (e2 ixD (eVar 1) (eVar 3)) aNil)) (gSet 9) mYes te4 [9])) (gSet 5)) R ρ3 = R ρ4 := fun R => seq_nx (sAsg_ok hnam rfl)
  obtain ⟨w, s3, k3, w0, w1, hs3⟩ := drw (ρ := ρ4) (i := 0) (f := eC (.int 5)) (m := 5) hs2 rfl rfl (by omega) (by omega) (by omega)
  let Q : D → List Int → DL.Env := fun s ps => pE l s (some rows) (some (.int m)) (some (.lst false (os.map D.int))) (some (.lst false (na.map D.int))) (some (.int w)) (some (.lst true (ps.map D.int)))
  let ρ5 : DL.Env := pE l s3 (some rows) (some (.int m)) (some (.lst false (os.map D.int))) (some (.lst false (na.map D.int))) (some (.int w)) none
  have a5 : ∀ R : SF, sSeq (sAsg (eFrz (eCall F_law_draw (aCons (eMove 0) (aCons (eC (.int 5)) aNil)) [] [(0, 0)])) (gSet 6)) R ρ4 = R ρ5 := fun R => seq_nx (sAsg_ok (eFrz_int k3) rfl)
  have hmb : (0 : Int) ≤ m ∧ (m : Int) < l.length := by omega
  -- found
  have itR : ∀ x0 x3 x4 x5 x6 x7 x8 x9 x10, iSeq (eVar 2) ([x0, some (T l), some rows, x3, x4, x5, x6, x7, x8, x9, x10] : DL.Env) = .ok (LL (rowsL l)) [x0, some (T l), some rows, x3, x4, x5, x6, x7, x8, x9, x10] := fun x0 x3 x4 x5 x6 x7 x8 x9 x10 => iSeq_ok (d := rows) (ev_ rfl rfl) (by show some (frzL (LL (rowsL l))) = _; rw [frzL_TI])
  have hLl : (LL (rowsL l)).length = N l := by rw [List.length_map, rowsL_len]
  have hrow : ∀ d ∈ LL (rowsL l), ∃ k, k < N l ∧ d = T (slips l k) := by
    intro d hd
    obtain ⟨r, hr, rfl⟩ := List.mem_map.mp hd
    obtain ⟨k, hk, rfl⟩ := List.mem_map.mp hr
    exact ⟨k, List.mem_range.mp hk, rfl⟩
  let p0 : List Int := List.replicate (N l) (m : Int)
  have hp0 : p0.length = N l ∧ ∀ x ∈ p0, 0 ≤ x ∧ x < l.length := ⟨List.length_replicate, fun x hx => by rw [List.eq_of_mem_replicate hx]; exact hmb⟩
  have a6 : ∀ R : SF, sSeq (sAsg (eLcL 11 (iSeq (eVar 2)) (gSet 10) mYes (eFrz (eVar 3)) [10]) (gSet 7)) R ρ5 = R (Q s3 p0) := by
    intro R
    have z := lc_map1 (i := 10) (ρ := ρ5) (ρ1 := ρ5) (L := 11) (te := eFrz (eVar 3)) (yf := fun _ => .int m) (itR _ _ _ _ _ _ _ _ _) (by rw [hLl]; omega) rfl rfl (by decide) (fun d _ => eFrz_int (ev_ rfl rfl))
    refine seq_nx (sAsg_ok z ?_)
    have e : (LL (rowsL l)).map (fun _ => D.int (m : Int)) = p0.map D.int := by
      rw [List.map_const', hLl]
      show _ = (List.replicate (N l) (m : Int)).map D.int
      rw [List.map_replicate]
    rw [e]
    rfl
  -- of a chair
  obtain ⟨t1, ht1⟩ := in2 w 1 2 ⟨w0, w1⟩ (by omega)
  obtain ⟨t2, ht2⟩ := in2 w 2 3 ⟨w0, w1⟩ (by omega)
  have tst : ∀ (a b : Int) (t : Bool) (s : D) (ps : List Int), inD (.int w) (.lst true [.int a, .int b]) = some (.bl t) → eB (e2 inD (eVar 6) (eLst (aCons (eC (.int a)) (aCons (eC (.int b)) aNil)))) (Q s ps) = .ok t (Q s ps) := fun a b t s ps h => eB_ok (DL.e2_ok (ev_ rfl rfl) (eLst_ok (ds := [.int a, .int b]) (aCons_ok rfl (aCons_ok rfl rfl)) (by simp)) h)
  have st7 : ∃ p1 : List Int, (p1.length = N l ∧ ∀ x ∈ p1, 0 ≤ x ∧ x < l.length) ∧ sIf (eB (e2 inD (eVar 6) (eLst (aCons (eC (.int 1)) (aCons (eC (.int 2)) aNil))))) (sAsg (eLcL 11 (iSeq (eVar 2)) (gSet 10) mYes (eFrz (e2 ixD (eVar 5) (e2 ixD (eVar 10) (eVar 3)))) [10]) (gSet 7)) sNext (Q s3 p0) = .nx (Q s3 p1) := by
    cases t1 with
    | false => exact ⟨p0, hp0, (sIf_f (G := sNext) (tst 1 2 false s3 p0 ht1)).trans rfl⟩
    | true =>
      let yf : D → D := fun d => match d with
        | .tup r => .int (na.getD (match r[m]? with | some (.int i) => i.toNat | _ => 0) 0)
        | d => d
      have hy : ∀ k, k < N l → yf (T (slips l k)) = .int (na.getD (sl l m k) 0) ∧ sl l m k < na.length := by
        intro k hk
        obtain ⟨q1, q2⟩ := (c.row hk).1.at hm
        have e1 : ((slips l k).map D.int)[m]? = some (.int ((slips l k).getD m 0)) := by
          rw [List.getElem?_map, List.getD_eq_getElem?_getD, List.getElem?_eq_getElem (by rw [slips_len]; exact hm)]
          rfl
        refine ⟨?_, by unfold sl; omega⟩
        show D.int (na.getD (match ((slips l k).map D.int)[m]? with | some (.int i) => i.toNat | _ => 0) 0) = _
        rw [e1]
        rfl
      have z := lc_map1 (i := 10) (ρ := Q s3 p0) (ρ1 := Q s3 p0) (L := 11) (te := eFrz (e2 ixD (eVar 5) (e2 ixD (eVar 10) (eVar 3)))) (yf := yf) (itR _ _ _ _ _ _ _ _ _) (by rw [hLl]; omega) rfl rfl (by decide) (fun d hd => by
        obtain ⟨k, hk, rfl⟩ := hrow d hd
        obtain ⟨y1, y2⟩ := hy k hk
        obtain ⟨q1, q2⟩ := (c.row hk).1.at hm
        let ρd := (Q s3 p0).set 10 (some (T (slips l k)))
        have i1 : e2 ixD (eVar 10) (eVar 3) ρd = .ok (.int (sl l m k)) ρd := by
          have e : (slips l k).getD m 0 = (sl l m k : Int) := by unfold sl; omega
          rw [← e]
          exact DL.e2_ok (x := T (slips l k)) (y := .int m) (ev_ rfl rfl) (ev_ rfl rfl) (ix_TI (by rw [slips_len]; exact hm))
        have i2 : e2 ixD (eVar 5) (e2 ixD (eVar 10) (eVar 3)) ρd = .ok (.int (na.getD (sl l m k) 0)) ρd := DL.e2_ok (x := .lst false (na.map D.int)) (ev_ rfl rfl) i1 (ix_l (getD_in y2).1)
        rw [y1]
        exact eFrz_int i2)
      obtain ⟨p1, hp1, hb1⟩ := ints_of (P := fun i => 0 ≤ i ∧ i < l.length) (ds := (LL (rowsL l)).map yf) (by
        intro d hd
        obtain ⟨r, hr, rfl⟩ := List.mem_map.mp hd
        obtain ⟨k, hk, rfl⟩ := hrow r hr
        obtain ⟨y1, y2⟩ := hy k hk
        exact ⟨_, y1, nb2 _ (getD_in y2).2⟩)
      rw [hp1] at z
      refine ⟨p1, ⟨?_, hb1⟩, (sIf_t (tst 1 2 true s3 p0 ht1)).trans (sAsg_ok z rfl)⟩
      have := congrArg List.length hp1
      rw [List.length_map, List.length_map, List.length_map, rowsL_len] at this
      exact this.symm
  obtain ⟨p1, hp1, a7⟩ := st7
  have hv2 : ∀ (x : Option D) (s : D) (ps : List Int), eBi lenD (aCons (eVar 2) aNil) ([x, some (T l), some rows, some (.int m), some (.lst false (os.map D.int)), some (.lst false (na.map D.int)), some (.int w), some (.lst true (ps.map D.int)), none, none, none] : DL.Env) = .ok (.int (N l)) [x, some (T l), some rows, some (.int m), some (.lst false (os.map D.int)), some (.lst false (na.map D.int)), some (.int w), some (.lst true (ps.map D.int)), none, none, none] := fun x s ps => eBi_ok (ds := [rows]) (aCons_ok (ev_ rfl rfl) rfl) (by rw [len_lst, hLl])
  have st8 : ∃ (p2 : List Int) (s4 : D), (p2.length = N l ∧ ∀ x ∈ p2, 0 ≤ x ∧ x < l.length) ∧ sIf (eB (e2 inD (eVar 6) (eLst (aCons (eC (.int 2)) (aCons (eC (.int 3)) aNil))))) (sAsg (eFrz (eCall F_law_draw (aCons (eMove 0) (aCons (eBi lenD (aCons (eVar 1) aNil)) aNil)) [] [(0, 0)])) (gItem 7 (eCall F_law_draw (aCons (eMove 0) (aCons (eBi lenD (aCons (eVar 2) aNil)) aNil)) [] [(0, 0)]))) sNext (Q s3 p1) = .nx (Q s4 p2) ∧ Dice (B + 8) s4 := by
    cases t2 with
    | false => exact ⟨p1, s3, hp1, (sIf_f (G := sNext) (tst 2 3 false s3 p1 ht2)).trans rfl, hs3.mono (by omega)⟩
    | true =>
      obtain ⟨v, s4, k4, v0, v1, hs4⟩ := drw (ρ := Q s3 p1) (i := 0) (f := eBi lenD (aCons (eVar 1) aNil)) (m := l.length) hs3 rfl (hlen _ _ _ _ _ _ _ _ _ _) (by omega) (by omega) (by omega)
      obtain ⟨j, s5, k5, j0, j1, hs5⟩ := drw (ρ := Q s4 p1) (i := 0) (f := eBi lenD (aCons (eVar 2) aNil)) (m := N l) hs4 rfl (hv2 _ s4 _) (by omega) (by omega) (by omega)
      obtain ⟨j, rfl⟩ : ∃ k : Nat, j = k := ⟨j.toNat, by omega⟩
      refine ⟨p1.set j v, s5, ⟨by rw [List.length_set]; exact hp1.1, fun x hx => ?_⟩, (sIf_t (tst 2 3 true s3 p1 ht2)).trans (sAsg_ok (eFrz_int k4) ?_), hs5.mono (by omega)⟩
      · rcases List.mem_or_eq_of_mem_set hx with hx | rfl
        · exact hp1.2 x hx
        · exact ⟨v0, v1⟩
      · have z := put_ok (i := 7) (j := (j : Int)) (n := j) (ds := p1.map D.int) (d := .int v) (ρ := Q s4 p1) (ρ1 := Q s5 p1) rfl k5 rfl rfl (ixN_nat (by rw [List.length_map, hp1.1]; omega))
        refine z.trans ?_
        rw [set_ints]
        rfl
  obtain ⟨p2, s4, hp2, a8, hs4⟩ := st8
  have st9 : ∃ (p3 : List Int) (s5 : D), (p3.length = N l ∧ ∀ x ∈ p3, 0 ≤ x ∧ x < l.length) ∧ sIf (eB (e2 eqD (eVar 6) (eC (.int 4)))) (sAsg (eLcL 11 (iSeq (eVar 2)) (gSet 10) mYes (eFrz (eCall F_law_draw (aCons (eMove 0) (aCons (eBi lenD (aCons (eVar 1) aNil)) aNil)) [] [(0, 0)])) [10]) (gSet 7)) sNext (Q s4 p2) = .nx (Q s5 p3) ∧ Dice (B + 1000) s5 := by
    have v6 : eVar 6 (Q s4 p2) = .ok (.int w) (Q s4 p2) := ev_ rfl rfl
    by_cases q : w = 4
    · let E : D → Option D → DL.Env := fun s x => [some s, some (T l), some rows, some (.int m), some (.lst false (os.map D.int)), some (.lst false (na.map D.int)), some (.int w), some (.lst true (p2.map D.int)), none, none, x]
      obtain ⟨p3, s5, k5, l3, b3, hs5⟩ := lc_draw (E := E) (v := 10) (te := eFrz (eCall F_law_draw (aCons (eMove 0) (aCons (eBi lenD (aCons (eVar 1) aNil)) aNil)) [] [(0, 0)])) (P := fun r => 0 ≤ r ∧ r < l.length) (fun s x => rfl) (fun d s => rfl) (fun B s d hs hB => by
        obtain ⟨r, s', e, r0, r1, hs'⟩ := drw (ρ := E s (some d)) (i := 0) (f := eBi lenD (aCons (eVar 1) aNil)) (m := l.length) hs rfl (hlen _ _ _ _ _ _ _ _ _ _) (by omega) (by omega) (by omega)
        exact ⟨r, s', eFrz_int e, ⟨r0, r1⟩, hs'⟩) (LL (rowsL l)) (B + 8) s4 none hs4 (by rw [hLl]; omega)
      have z := eLcL_ok (L := 11) (g := gSet 10) (tt := mYes) (vs := [10]) (ρ := Q s4 p2) (ρ1 := E s4 none) (itR _ _ _ _ _ _ _ _ _) (by rw [hLl]; omega) rfl k5
      refine ⟨p3, s5, ⟨by rw [l3, hLl], b3⟩, (sIf_t (eB_ok (eqi_ok (j := 4) v6 rfl (decide_eq_true q)))).trans (sAsg_ok z rfl), hs5.mono (by rw [hLl]; omega)⟩
    · exact ⟨p2, s4, hp2, (sIf_f (G := sNext) (eB_ok (eqi_ok (j := 4) v6 rfl (decide_eq_false q)))).trans rfl, hs4.mono (by omega)⟩
  obtain ⟨p3, s5, hp3, a9, hs5⟩ := st9
  let ρ9 : DL.Env := pE l s5 (some rows) (some (.int m)) (some (.lst false (os.map D.int))) (some (.lst false (na.map D.int))) (some (.int w)) (some (.lst false (p3.map D.int)))
  refine ⟨s5, p3, run_ok (b := b_law_picks) (ρ := ρ9) (ρ0 := ρ0) ?_ rfl (by simp [ρ9]) rfl, ⟨c, hp3.1, hp3.2⟩, hs5⟩
  unfold b_law_picks
  rw [a1, a2, a3, a4, a5, a6]
  refine Eq.trans (seq_nx a7) ?_
  refine Eq.trans (seq_nx a8) ?_
  refine Eq.trans (seq_nx a9) ?_
  have hz : frzAt 7 (Q s5 p3) = ρ9 := by
    show [some s5, some (T l), some rows, some (.int m), some (.lst false (os.map D.int)), some (.lst false (na.map D.int)), some (.int w), some (.lst false (frzL (p3.map D.int))), none, none, none] = _
    rw [frzL_ints]
  show sRet _ (frzAt 7 _) = _
  rw [hz]
  refine sRet_ok (eBi_ok (ds := [.lst false (p3.map D.int)]) (aCons_ok (ev_ rfl rfl) rfl) ?_)
  show some (D.tup (frzL (p3.map D.int))) = _
  rw [frzL_ints]
end Lk51

set_option Elab.async false
set_option linter.all false
set_option maxRecDepth 100000
set_option maxHeartbeats 2000000
namespace Lk51
open PySem PySem.Spec L2 DL
def greats : List (List Int) := [[4, 4, 4], [4, 3, 3], [3, 4, 4], [4, 4, 2]]
def clubC (l : List Int) : Bool := l.all (fun x => decide (1 ≤ x) && decide (x ≤ 4)) && decide (1 ≤ l.length) && decide (l.length ≤ 8) && decide (Pr l ≤ 256)
theorem clubC_ok {l : List Int} (h : clubC l = true) : Club l := by
  unfold clubC at h
  simp only [Bool.and_eq_true, decide_eq_true_iff] at h
  refine ⟨fun x hx => ?_, h.1.1.2, h.1.2, h.2⟩
  have := List.all_eq_true.mp h.1.1.1 x hx
  simp only [Bool.and_eq_true, decide_eq_true_iff] at this
  exact this
theorem great_club {l : List Int} (h : l ∈ greats) : Club l := clubC_ok (List.all_eq_true.mp (show greats.all clubC = true by decide) l h)
theorem le5 {n : Nat} (h : 5 ≤ n ∧ n ≤ 8) : n = 5 ∨ n = 6 ∨ n = 7 ∨ n = 8 := by omega
theorem two_club {n : Nat} (h : 5 ≤ n ∧ n ≤ 8) : Club (List.replicate n 2) ∧ N (List.replicate n 2) = 2 ^ n ∧ mulD (.tup [.int 2]) (.int n) = some (T (List.replicate n 2)) := by
  rcases le5 h with rfl | rfl | rfl | rfl
  · exact ⟨clubC_ok (by decide), by decide, by kernel_rfl⟩
  · exact ⟨clubC_ok (by decide), by decide, by kernel_rfl⟩
  · exact ⟨clubC_ok (by decide), by decide, by kernel_rfl⟩
  · exact ⟨clubC_ok (by decide), by decide, by kernel_rfl⟩
theorem great_ok {B : Int} {s : D} (hs : Dice B s) (hB : B < 2 ^ 28) : ∃ s' l ps, F_law_great [s] = .ok (.tup [T l, T ps]) [some s'] ∧ Picks l ps := by
  let ρ0 : DL.Env := [some s, none, none, none]
  obtain ⟨r, s1, k1, r0, r1, hs1⟩ := drw (ρ := ρ0) (i := 0) (f := eC (.int 2)) (m := 2) hs rfl rfl (by omega) (by omega) (by omega)
  by_cases c : r = 0
  · obtain ⟨q, s2, k2, q0, q1, hs2⟩ := drw (ρ := [some s1, none, none, none]) (i := 0) (f := eC (.int 4)) (m := 4) hs1 rfl rfl (by omega) (by omega) (by omega)
    obtain ⟨d, hd, ed⟩ := mem_ix (o := true) (ds := greats.map T) (r := q) q0 (by exact q1)
    obtain ⟨l, hl, rfl⟩ := List.mem_map.mp hd
    have cl := great_club hl
    obtain ⟨s3, ps, k3, hps, hs3⟩ := picks_ok cl hs2 (by omega)
    let ρ2 : DL.Env := [some s2, none, none, some (T l)]
    refine ⟨s3, l, ps, run_ok (b := b_law_great) (ρ := [some s3, none, none, some (T l)]) (ρ0 := ρ0) ?_ rfl (by simp) rfl, hps⟩
    unfold b_law_great
    refine seq_ret ((sIf_t (ρ1 := [some s1, none, none, none]) (eB_ok (eqi_ok (j := 0) k1 rfl (decide_eq_true c)))).trans ?_)
    refine Eq.trans (seq_nx (ρ1 := ρ2) ?_) ?_
    · have hx : eLst (aCons (eTup (aCons (eC (.int 4)) (aCons (eC (.int 4)) (aCons (eC (.int 4)) aNil)))) (aCons (eTup (aCons (eC (.int 4)) (aCons (eC (.int 3)) (aCons (eC (.int 3)) aNil)))) (aCons (eTup (aCons (eC (.int 3)) (aCons (eC (.int 4)) (aCons (eC (.int 4)) aNil)))) (aCons (eTup (aCons (eC (.int 4)) (aCons (eC (.int 4)) (aCons (eC (.int 2)) aNil)))) aNil)))) [some s1, none, none, none] = .ok (.lst true (greats.map T)) [some s1, none, none, none] := by kernel_rfl
      exact sAsg_ok (eFrz_ok (DL.e2_ok hx k2 ed)) rfl
    · have hc : eCall F_law_picks (aCons (eMove 0) (aCons (eVar 3) aNil)) [] [(0, 0)] ρ2 = .ok (T ps) [some s3, none, none, some (T l)] := eCall_of (aCons_ok (show eMove 0 ρ2 = .ok s2 (ρ2.set 0 none) from rfl) (aCons_ok (ev_ rfl rfl) rfl)) rfl k3 rfl
      exact sRet_ok (eTup_ok (ds := [T l, T ps]) (aCons_ok (ev_ rfl rfl) (aCons_ok hc rfl)) (by simp))
  · obtain ⟨q, s2, k2, q0, q1, hs2⟩ := drw (ρ := [some s1, none, none, none]) (i := 0) (f := eC (.int 4)) (m := 4) hs1 rfl rfl (by omega) (by omega) (by omega)
    obtain ⟨n, hn⟩ : ∃ n : Nat, 5 + q = n := ⟨(5 + q).toNat, by omega⟩
    have hn5 : 5 ≤ n ∧ n ≤ 8 := by omega
    obtain ⟨cl, hN, hmul⟩ := two_club hn5
    have hp2 := pow_le hn5.2
    obtain ⟨s3, ps, k3, hps, hs3⟩ := coupling_ok hn5.2 (by omega) hs2 (by omega)
    let ρ2 : DL.Env := [some s2, some (.int n), none, none]
    let R : D → List Int → DL.Env := fun s ps => [some s, some (.int n), some (.lst true (ps.map D.int)), none]
    have t1 : ∀ (F R : SF), sSeq (sIf (eB (e2 eqD (eCall F_law_draw (aCons (eMove 0) (aCons (eC (.int 2)) aNil)) [] [(0, 0)]) (eC (.int 0)))) F sNext) R ρ0 = R [some s1, none, none, none] := fun F R => seq_nx ((sIf_f (G := sNext) (eB_ok (eqi_ok (j := 0) k1 rfl (decide_eq_false c)))).trans rfl)
    have t2 : ∀ R : SF, sSeq (sAsg (eFrz (e2 addD (eC (.int 5)) (eCall F_law_draw (aCons (eMove 0) (aCons (eC (.int 4)) aNil)) [] [(0, 0)]))) (gSet 1)) R [some s1, none, none, none] = R ρ2 := fun R => seq_nx (sAsg_ok (eFrz_int (add_ok (i := 5) rfl k2)) (by rw [hn]; rfl))
    have hc : eCall F_law_coupling (aCons (eMove 0) (aCons (eVar 1) aNil)) [] [(0, 0)] ρ2 = .ok (.tup (ps.map D.int)) [some s3, some (.int n), none, none] := eCall_of (aCons_ok (show eMove 0 ρ2 = .ok s2 (ρ2.set 0 none) from rfl) (aCons_ok (ev_ rfl rfl) rfl)) rfl k3 rfl
    have t3 : ∀ F : SF, sSeq (sAsg (eBi listD (aCons (eCall F_law_coupling (aCons (eMove 0) (aCons (eVar 1) aNil)) [] [(0, 0)]) aNil)) (gSet 2)) F ρ2 = F (R s3 ps) := fun F => seq_nx (sAsg_ok (eBi_ok (ds := [.tup (ps.map D.int)]) (aCons_ok hc rfl) rfl) rfl)
    obtain ⟨w, s4, k4, w0, w1, hs4⟩ := drw (ρ := R s3 ps) (i := 0) (f := eC (.int 3)) (m := 3) hs3 rfl rfl (by omega) (by omega) (by omega)
    have mid : ∃ s5 ps2, (sIf (eB (e2 gtD (eCall F_law_draw (aCons (eMove 0) (aCons (eC (.int 3)) aNil)) [] [(0, 0)]) (eC (.int 0)))) (sAsg (eFrz (eCall F_law_draw (aCons (eMove 0) (aCons (eVar 1) aNil)) [] [(0, 0)])) (gItem 2 (eCall F_law_draw (aCons (eMove 0) (aCons (eBor (eBi lenD (aCons (eVar 2) aNil))) aNil)) [] [(0, 0)]))) sNext) (R s3 ps) = .nx (R s5 ps2) ∧ Coup n ps2 := by
      by_cases cw : (0 : Int) < w
      · obtain ⟨v, s5, k5, v0, v1, hs5⟩ := drw (ρ := R s4 ps) (i := 0) (f := eVar 1) (m := n) hs4 rfl (ev_ rfl rfl) (by omega) (by omega) (by omega)
        obtain ⟨j, s6, k6, j0, j1, hs6⟩ := drw (ρ := R s5 ps) (i := 0) (f := eBor (eBi lenD (aCons (eVar 2) aNil))) (m := ((2 ^ n : Nat) : Int)) hs5 rfl (by
          refine eBor_int (ρ1 := ([none, some (.int n), some (.lst true (ps.map D.int)), none] : DL.Env).map (Option.map frz)) ?_
          refine eBi_ok (ds := [.lst false (frzL (ps.map D.int))]) (aCons_ok (ev_ rfl rfl) rfl) ?_
          rw [frzL_ints, len_lst, List.length_map, hps.len]) (by omega) (by omega) (by omega)
        obtain ⟨j, rfl⟩ : ∃ k : Nat, j = k := ⟨j.toNat, by omega⟩
        refine ⟨s6, ps.set j v, (sIf_t (ρ1 := R s4 ps) (eB_ok (gt_ok (j := 0) k4 rfl (decide_eq_true cw)))).trans (sAsg_ok (eFrz_int k5) ?_), hps.set j ⟨v0, v1⟩⟩
        have z := put_ok (i := 2) (j := (j : Int)) (n := j) (ds := ps.map D.int) (d := .int v) (ρ := R s5 ps) (ρ1 := R s6 ps) rfl k6 rfl rfl (ixN_nat (by rw [List.length_map, hps.len]; omega))
        refine z.trans ?_
        rw [set_ints]
        rfl
      · exact ⟨s4, ps, (sIf_f (G := sNext) (eB_ok (gt_ok (j := 0) k4 rfl (decide_eq_false cw)))).trans rfl, hps⟩
    obtain ⟨s5, ps2, k5, h2⟩ := mid
    let ρ5 : DL.Env := [some s5, some (.int n), some (.lst false (ps2.map D.int)), none]
    refine ⟨s5, List.replicate n 2, ps2, run_ok (b := b_law_great) (ρ := ρ5) (ρ0 := ρ0) ?_ rfl (by simp [ρ5]) rfl, ⟨cl, by rw [hN, h2.len], fun x hx => by rw [List.length_replicate]; exact h2.b x hx⟩⟩
    unfold b_law_great
    rw [t1, t2, t3]
    refine Eq.trans (seq_nx k5) ?_
    have hz : frzAt 2 (R s5 ps2) = ρ5 := by
      show [some s5, some (.int n), some (.lst false (frzL (ps2.map D.int))), none] = _
      rw [frzL_ints]
    show sRet _ (frzAt 2 _) = _
    rw [hz]
    have ht : eBi tupleD (aCons (eVar 2) aNil) ρ5 = .ok (T ps2) ρ5 := by
      refine eBi_ok (ds := [.lst false (ps2.map D.int)]) (aCons_ok (ev_ rfl rfl) rfl) ?_
      show some (D.tup (frzL (ps2.map D.int))) = _
      rw [frzL_ints]
    have hm : e2 mulD (eTup (aCons (eC (.int 2)) aNil)) (eVar 1) ρ5 = .ok (T (List.replicate n 2)) ρ5 := DL.e2_ok (eTup_ok (ds := [.int 2]) (aCons_ok rfl rfl) (by simp)) (ev_ rfl rfl) hmul
    exact sRet_ok (eTup_ok (ds := [T (List.replicate n 2), T ps2]) (aCons_ok hm (aCons_ok ht rfl)) (by simp))
/-! the law -/
abbrev LE (ns : List Int) (s : D) (x2 x3 x4 : Option D) : DL.Env := [some (.scr ns), some s, x2, x3, x4]
def tB : SF := (sSeq (sAsg (eFrz (eCall F_law_club (aMvL 1 (aCons (e2 ixD (eLst (aCons (eC (.int 3)) (aCons (eC (.int 3)) (aCons (eC (.int 3)) (aCons (eFrz (e2 addD (eC (.int 1)) (eCall F_law_draw (aCons (eMove 1) (aCons (eC (.int 4)) aNil)) [] [(0, 1)]))) aNil))))) (eVar 2)) aNil)) [] [(0, 1)])) (gSet 3))
  (sIf (mNot (eB (eCall F_law_right (aCons (eVar 3) (aCons (eFrz (eCall F_law_picks (aCons (eMove 1) (aCons (eVar 3) aNil)) [] [(0, 1)])) aNil)) [] []))) (sRet (eC (.bl false))) sNext))
theorem tB_ok {ns : List Int} {s : D} {B : Int} (hs : Dice B s) (hB : B < 2 ^ 27) {t : Int} (ht : 0 ≤ t ∧ t < 4) (x3 x4 : Option D) : ∃ s' y3, tB (LE ns s (some (.int t)) x3 x4) = .nx (LE ns s' (some (.int t)) y3 x4) ∧ Dice (B + 2000) s' := by
  obtain ⟨q, s1, k1, q0, q1, hs1⟩ := drw (ρ := LE ns s (some (.int t)) x3 x4) (i := 1) (f := eC (.int 4)) (m := 4) hs rfl rfl (by omega) (by omega) (by omega)
  obtain ⟨m, hm, em⟩ := mem_ixI (o := true) (os := [3, 3, 3, 1 + q]) (r := t) ht.1 (by exact ht.2)
  have hm4 : 1 ≤ m ∧ m ≤ 4 := by
    simp only [List.mem_cons, List.not_mem_nil, or_false] at hm
    omega
  obtain ⟨n, rfl⟩ : ∃ n : Nat, m = n := ⟨m.toNat, by omega⟩
  obtain ⟨s2, l, k2, cl, hl, hs2⟩ := gclub_ok (m := n) (by omega) hs1 (by omega)
  obtain ⟨s3, ps, k3, hps, hs3⟩ := picks_ok cl hs2 (by omega)
  have k4 := law_right_ok hps
  have hix : e2 ixD (eLst (aCons (eC (.int 3)) (aCons (eC (.int 3)) (aCons (eC (.int 3)) (aCons (eFrz (e2 addD (eC (.int 1)) (eCall F_law_draw (aCons (eMove 1) (aCons (eC (.int 4)) aNil)) [] [(0, 1)]))) aNil))))) (eVar 2) (LE ns s (some (.int t)) x3 x4) = .ok (.int n) (LE ns s1 (some (.int t)) x3 x4) := by
    have hx : eLst (aCons (eC (.int 3)) (aCons (eC (.int 3)) (aCons (eC (.int 3)) (aCons (eFrz (e2 addD (eC (.int 1)) (eCall F_law_draw (aCons (eMove 1) (aCons (eC (.int 4)) aNil)) [] [(0, 1)]))) aNil)))) (LE ns s (some (.int t)) x3 x4) = .ok (.lst true [.int 3, .int 3, .int 3, .int (1 + q)]) (LE ns s1 (some (.int t)) x3 x4) := eLst_ok (aCons_ok rfl (aCons_ok rfl (aCons_ok rfl (aCons_ok (eFrz_int (add_ok (i := 1) rfl k1)) rfl)))) (by simp)
    exact DL.e2_ok hx (ev_ rfl rfl) em
  have hc : eCall F_law_club (aMvL 1 (aCons (e2 ixD (eLst (aCons (eC (.int 3)) (aCons (eC (.int 3)) (aCons (eC (.int 3)) (aCons (eFrz (e2 addD (eC (.int 1)) (eCall F_law_draw (aCons (eMove 1) (aCons (eC (.int 4)) aNil)) [] [(0, 1)]))) aNil))))) (eVar 2)) aNil)) [] [(0, 1)] (LE ns s (some (.int t)) x3 x4) = .ok (T l) (LE ns s2 (some (.int t)) x3 x4) := eCall_of (ρ1 := (LE ns s1 (some (.int t)) x3 x4).set 1 none) (aMvL_ok (d0 := s) (d := s1) (ρ1 := LE ns s1 (some (.int t)) x3 x4) rfl (aCons_ok hix rfl) rfl) rfl k2 rfl
  let ρ3 := LE ns s2 (some (.int t)) (some (T l)) x4
  let ρ4 := LE ns s3 (some (.int t)) (some (T l)) x4
  have hp : eCall F_law_picks (aCons (eMove 1) (aCons (eVar 3) aNil)) [] [(0, 1)] ρ3 = .ok (T ps) ρ4 := eCall_of (aCons_ok (show eMove 1 ρ3 = .ok s2 (ρ3.set 1 none) from rfl) (aCons_ok (ev_ rfl rfl) rfl)) rfl k3 rfl
  have hr : eCall F_law_right (aCons (eVar 3) (aCons (eFrz (eCall F_law_picks (aCons (eMove 1) (aCons (eVar 3) aNil)) [] [(0, 1)])) aNil)) [] [] ρ3 = .ok (.bl true) ρ4 := eCall_of (aCons_ok (ev_ rfl rfl) (aCons_ok (eFrz_ok hp) rfl)) rfl k4 rfl
  refine ⟨s3, some (T l), ?_, hs3.mono (by omega)⟩
  unfold tB
  refine Eq.trans (seq_nx (ρ1 := ρ3) (sAsg_ok (eFrz_ok hc) rfl)) ?_
  exact (sIf_f (G := sNext) (mNot_ok (b := true) (eB_ok hr))).trans rfl
theorem t_loop {ns : List Int} (x4 : Option D) : ∀ (ds : List D) (s : D) (B : Int) (x2 x3 : Option D), (∀ d ∈ ds, ∃ t : Int, d = .int t ∧ 0 ≤ t ∧ t < 4) → Dice B s → B + 2000 * ds.length < 2 ^ 27 →
    ∃ s' y2 y3, forGo (gSet 2) tB ds (LE ns s x2 x3 x4) = .nx (LE ns s' y2 y3 x4)
  | [], s, B, x2, x3, _, _, _ => ⟨s, x2, x3, rfl⟩
  | d :: ds, s, B, x2, x3, hd, hs, hB => by
    rw [List.length_cons] at hB
    obtain ⟨t, rfl, t0, t1⟩ := hd d List.mem_cons_self
    obtain ⟨s1, y3, k1, hs1⟩ := tB_ok (ns := ns) hs (by omega) ⟨t0, t1⟩ x3 x4
    obtain ⟨s2, z2, z3, k2⟩ := t_loop (ns := ns) x4 ds s1 (B + 2000) (some (.int t)) y3 (fun d z => hd d (List.mem_cons_of_mem _ z)) hs1 (by omega)
    refine ⟨s2, z2, z3, ?_⟩
    rw [forGo_cons rfl k1]
    exact k2
theorem law_true (ns : List Int) (hl : ns.length ≤ 63) : ∃ os, F_law [.scr ns] = .ok (.bl true) os := by
  obtain ⟨s, es, hs⟩ := dice_ok hl
  let ρ0 : DL.Env := [some (.scr ns), none, none, none, none]
  have t1 : ∀ R : SF, sSeq (sAsg (eCall F_law_dice (aCons (eVar 0) aNil) [] []) (gSet 1)) R ρ0 = R (LE ns s none none none) := fun R => seq_nx (sAsg_ok (eCall_of (aCons_ok (ev_ rfl rfl) rfl) rfl es rfl) rfl)
  obtain ⟨r, s1, k1, r0, r1, hs1⟩ := drw (ρ := LE ns s none none none) (i := 1) (f := eC (.int 6)) (m := 6) hs rfl rfl (by omega) (by omega) (by omega)
  by_cases c : r = 0
  · obtain ⟨s2, l, ps, k2, hps⟩ := great_ok hs1 (by omega)
    have k3 := law_right_ok hps
    let ρ1 := LE ns s1 none none none
    let ρ2 := LE ns s2 none (some (T l)) (some (T ps))
    refine ⟨_, run_ok (b := b_law) (ρ := ρ2) (ρ0 := ρ0) ?_ rfl (by simp [ρ2]) rfl⟩
    unfold b_law
    rw [t1]
    refine seq_ret ((sIf_t (ρ1 := ρ1) (eB_ok (eqi_ok (j := 0) k1 rfl (decide_eq_true c)))).trans ?_)
    have hc : eCall F_law_great (aCons (eMove 1) aNil) [] [(0, 1)] ρ1 = .ok (.tup [T l, T ps]) (LE ns s2 none none none) := eCall_of (aCons_ok (show eMove 1 ρ1 = .ok s1 (ρ1.set 1 none) from rfl) rfl) rfl k2 rfl
    refine Eq.trans (seq_nx (ρ1 := ρ2) (sAsg_ok hc rfl)) ?_
    exact sRet_ok (eCall_of (aCons_ok (ev_ rfl rfl) (aCons_ok (ev_ rfl rfl) rfl)) rfl k3 rfl)
  · obtain ⟨s2, y2, y3, k2⟩ := t_loop (ns := ns) none (rgD 0 4) s1 1 none none (fun d hd => by
      obtain ⟨i, rfl, h0, h1⟩ := rgD_mem hd
      exact ⟨i, rfl, h0, h1⟩) (hs1.mono (by omega)) (by rw [rgD_len]; omega)
    let ρ1 := LE ns s1 none none none
    refine ⟨_, run_ok (b := b_law) (ρ := LE ns s2 y2 y3 none) (ρ0 := ρ0) ?_ rfl (by simp) rfl⟩
    unfold b_law
    rw [t1]
    refine Eq.trans (seq_nx (ρ1 := ρ1) ((sIf_f (G := sNext) (eB_ok (eqi_ok (j := 0) k1 rfl (decide_eq_false c)))).trans rfl)) ?_
    refine Eq.trans (seq_nx ((sFor_of (ρ1 := ρ1) (iRg1_ok (n := 4) (aCons_ok rfl rfl) (by omega))).trans k2)) ?_
    exact sRet_ok rfl
end Lk51

open PySem PySem.W PySem.Calls PyProof.Rows
theorem PySem.Challenge.cw_owncause_k51_whole_chairs_holds : PySem.Challenge.rw_owncause_k51_whole_chairs.Holds := by
  w_on; o_law
  refine HandSHeadRun.head_any (r := OpenLaw.row PySem.Challenge.rw_owncause_k51_whole_chairs) (q := view (OpenLaw.row PySem.Challenge.rw_owncause_k51_whole_chairs).prog [41]) (H := Lk51.hk) (ob := Lk51.ob) (M := 4000) (loose := Lk51.loose) (d := HandSHeadRun.topDef (OpenLaw.row PySem.Challenge.rw_owncause_k51_whole_chairs).prog 41) (kwd := []) Lk51.ob_eq
    (by kernel_rfl) (fun s => by kernel_rfl) Lk51.run (by kernel_rfl) (by kernel_rfl) (by kernel_rfl) (by rfl) (by first | assumption | decide +kernel) (by decide +kernel) ⟨rfl, rfl, rfl, rfl, rfl, by decide +kernel⟩ ?hw ?hc
  case hw => w_witness2
  case hc =>
    refine DL.walk_ofEW (l := PySem.Challenge.rw_owncause_k51_whole_chairs) (n := 63) (k := 15) (x := "_law_script") (CX := fun w => L2.CX (PySem.Challenge.rw_owncause_k51_whole_chairs).prog w) rfl (by decide) (by kernel_rfl) ⟨rfl, by decide, by decide⟩ ?F DL.cx_no
    intro w mg fa h Y G hmg0
    obtain ⟨K, KX, c⟩ := Y
    have hmg : mg ("law" : PySem.Str) = some (.ref fa) := by
      have e : (HandSHeadRun.topDef (OpenLaw.row PySem.Challenge.rw_owncause_k51_whole_chairs).prog 41).name = ("law" : PySem.Str) := by kernel_rfl
      rw [← e]
      exact hmg0
    obtain ⟨fd, hb, hF⟩ := Lk51.facts (P := (PySem.Challenge.rw_owncause_k51_whole_chairs).prog) (w := w) KX G hmg c
    exact ⟨K, fd, _, KX, hb, fun H a ns hl _ hS => DL.spLaw_of Lk51.law_true H a ns hl hS, hF⟩
