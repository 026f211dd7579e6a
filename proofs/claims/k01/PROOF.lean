import PyProof.Rows.All
import Wide.All
import OpenK.AllK
import Wide.FinOn
import HandS.ForMost
import HandS.ForExc
import HandS.CallSlots
import HandS.Wide
import HandS.WideBits
import HandS.TupAny
import HandS.TupMul
import HandS.Defaults
import HandS.Small
import HandS.TryOnly
import HandS.TryMany
import HandS.IsInst
import HandS.Conv
import HandS.Zip
import HandS.Rev
import HandS.Deep
import HandS.ExcOwn
import HandS.ExcIs
import HandS.HeadHook2
import HandS.Head0
import HandS.Head1
import HandS.Head2
import HandS.HeadEnd
import HandS.HeadHook1
import HandS.HeadWalk
import PySem.Challenge.RW_owncause_k01_whole_rows_and_their_number
set_option Elab.async false
set_option linter.all false
set_option maxRecDepth 100000
set_option maxHeartbeats 4000000
namespace DL
open PySem PySem.Spec L2
/-! pure data and what stands for it -/
inductive D where
  | non
  | bl (b : Bool)
  | int (i : Int)
  | str (x : Str)
  | adr (a : Addr)
  | scr (ns : List Int)
  | tup (ds : List D)
  | lst (o : Bool) (ds : List D)
  | dk (o : Bool) (ks : List Key) (ds : List D)
  | dt (o : Bool) (ks : List (List Key)) (ds : List D)
  | obj (o : Bool) (c : Str) (ns : List Str) (ds : List D)
structure RC where
  K : PySem.W.Frag
  mg : Str → Option Value
mutual
def Rep (K : RC) (F H : Hp) : D → V → List Addr → Prop
  | .non, v, A => v = .non ∧ A = []
  | .bl b, v, A => v = .bl b ∧ A = []
  | .int i, v, A => v = .int i ∧ A = []
  | .str x, v, A => v = .str x ∧ A = []
  | .adr a, v, A => v = .ref a ∧ A = []
  | .scr ns, v, A => A = [] ∧ ∃ a, v = .ref a ∧ SqL K.K F a (ns.map V.int)
  | .tup ds, v, A => A = [] ∧ ∃ a xs, v = .ref a ∧ SqT K.K F a xs ∧ RepL K F H ds xs []
  | .lst false ds, v, A => A = [] ∧ ∃ a xs, v = .ref a ∧ F a = some (.lst xs) ∧ RepL K F H ds xs []
  | .lst true ds, v, A => ∃ a xs B, v = .ref a ∧ A = a :: B ∧ H a = some (.lst xs) ∧ RepL K F H ds xs B
  | .dk false ks ds, v, A => A = [] ∧ ∃ a kvs, v = .ref a ∧ F a = some (.dK kvs) ∧ kvs.map Prod.fst = ks ∧ RepL K F H ds (kvs.map Prod.snd) []
  | .dk true ks ds, v, A => ∃ a kvs B, v = .ref a ∧ A = a :: B ∧ H a = some (.dK kvs) ∧ kvs.map Prod.fst = ks ∧ RepL K F H ds (kvs.map Prod.snd) B
  | .dt false ks ds, v, A => A = [] ∧ ∃ a kvs, v = .ref a ∧ F a = some (.dT kvs) ∧ kvs.map Prod.fst = ks ∧ RepL K F H ds (kvs.map Prod.snd) []
  | .dt true ks ds, v, A => ∃ a kvs B, v = .ref a ∧ A = a :: B ∧ H a = some (.dT kvs) ∧ kvs.map Prod.fst = ks ∧ RepL K F H ds (kvs.map Prod.snd) B
  | .obj false c ns ds, v, A => A = [] ∧ ∃ a C dx fs, v = .ref a ∧ K.mg c = some (.ref C) ∧ F a = some (.ins C dx fs) ∧ fs.map Prod.fst = ns ∧ RepL K F H ds (fs.map Prod.snd) []
  | .obj true c ns ds, v, A => ∃ a C dx fs B, v = .ref a ∧ A = a :: B ∧ K.mg c = some (.ref C) ∧ H a = some (.ins C dx fs) ∧ fs.map Prod.fst = ns ∧ RepL K F H ds (fs.map Prod.snd) B
def RepL (K : RC) (F H : Hp) : List D → List V → List Addr → Prop
  | [], vs, A => vs = [] ∧ A = []
  | d :: ds, vs, A => ∃ v ws B C, vs = v :: ws ∧ A = B ++ C ∧ Rep K F H d v B ∧ RepL K F H ds ws C
end
mutual
def frz : D → D
  | .lst _ ds => .lst false (frzL ds)
  | .dk _ ks ds => .dk false ks (frzL ds)
  | .dt _ ks ds => .dt false ks (frzL ds)
  | .obj _ c ns ds => .obj false c ns (frzL ds)
  | .tup ds => .tup ds
  | .non => .non
  | .bl b => .bl b
  | .int i => .int i
  | .str x => .str x
  | .adr a => .adr a
  | .scr ns => .scr ns
def frzL : List D → List D
  | [] => []
  | d :: ds => frz d :: frzL ds
end
variable {K : RC}
theorem Rd.mono {F F' : Hp} {a : Addr} {u : HO} (h : ∀ a o, F a = some o → F' a = some o) (r : Rd F a u) : Rd F' a u := by
  rcases r with r | ⟨o, r⟩
  · exact .inl (h _ _ r)
  · exact .inr ⟨o, h _ _ r⟩
theorem SqL.mono {K : PySem.W.Frag} {F F' : Hp} {a : Addr} {xs : List V} (h : ∀ a o, F a = some o → F' a = some o) (r : SqL K F a xs) : SqL K F' a xs := by
  rcases r with r | r
  · exact .inl (Rd.mono h r)
  · exact .inr r
theorem SqT.mono {K : PySem.W.Frag} {F F' : Hp} {a : Addr} {xs : List V} (h : ∀ a o, F a = some o → F' a = some o) (r : SqT K F a xs) : SqT K F' a xs := by
  rcases r with r | r
  · exact .inl (Rd.mono h r)
  · exact .inr r
mutual
theorem Rep.mono {F F' H H' : Hp} (h : ∀ a o, F a = some o → F' a = some o) : ∀ (d : D) (v : V) (A : List Addr), (∀ a ∈ A, ∀ o, H a = some o → H' a = some o) → Rep K F H d v A → Rep K F' H' d v A
  | .non, v, A, _, r => r
  | .bl b, v, A, _, r => r
  | .int i, v, A, _, r => r
  | .str x, v, A, _, r => r
  | .adr a, v, A, _, r => r
  | .scr ns, v, A, _, r => by
    obtain ⟨rfl, a, rfl, s⟩ := r
    exact ⟨rfl, a, rfl, SqL.mono h s⟩
  | .tup ds, v, A, k, r => by
    obtain ⟨rfl, a, xs, rfl, s, r⟩ := r
    exact ⟨rfl, a, xs, rfl, SqT.mono h s, RepL.mono h ds xs [] (fun _ z => nomatch z) r⟩
  | .lst false ds, v, A, k, r => by
    obtain ⟨rfl, a, xs, rfl, s, r⟩ := r
    exact ⟨rfl, a, xs, rfl, h _ _ s, RepL.mono h ds xs [] (fun _ z => nomatch z) r⟩
  | .lst true ds, v, A, k, r => by
    obtain ⟨a, xs, B, rfl, rfl, s, r⟩ := r
    exact ⟨a, xs, B, rfl, rfl, k a List.mem_cons_self _ s, RepL.mono h ds xs B (fun b z => k b (List.mem_cons_of_mem _ z)) r⟩
  | .dk false ks ds, v, A, k, r => by
    obtain ⟨rfl, a, kvs, rfl, s, e, r⟩ := r
    exact ⟨rfl, a, kvs, rfl, h _ _ s, e, RepL.mono h ds _ [] (fun _ z => nomatch z) r⟩
  | .dk true ks ds, v, A, k, r => by
    obtain ⟨a, kvs, B, rfl, rfl, s, e, r⟩ := r
    exact ⟨a, kvs, B, rfl, rfl, k a List.mem_cons_self _ s, e, RepL.mono h ds _ B (fun b z => k b (List.mem_cons_of_mem _ z)) r⟩
  | .dt false ks ds, v, A, k, r => by
    obtain ⟨rfl, a, kvs, rfl, s, e, r⟩ := r
    exact ⟨rfl, a, kvs, rfl, h _ _ s, e, RepL.mono h ds _ [] (fun _ z => nomatch z) r⟩
  | .dt true ks ds, v, A, k, r => by
    obtain ⟨a, kvs, B, rfl, rfl, s, e, r⟩ := r
    exact ⟨a, kvs, B, rfl, rfl, k a List.mem_cons_self _ s, e, RepL.mono h ds _ B (fun b z => k b (List.mem_cons_of_mem _ z)) r⟩
  | .obj false c ns ds, v, A, k, r => by
    obtain ⟨rfl, a, C, dx, fs, rfl, g, s, e, r⟩ := r
    exact ⟨rfl, a, C, dx, fs, rfl, g, h _ _ s, e, RepL.mono h ds _ [] (fun _ z => nomatch z) r⟩
  | .obj true c ns ds, v, A, k, r => by
    obtain ⟨a, C, dx, fs, B, rfl, rfl, g, s, e, r⟩ := r
    exact ⟨a, C, dx, fs, B, rfl, rfl, g, k a List.mem_cons_self _ s, e, RepL.mono h ds _ B (fun b z => k b (List.mem_cons_of_mem _ z)) r⟩
theorem RepL.mono {F F' H H' : Hp} (h : ∀ a o, F a = some o → F' a = some o) : ∀ (ds : List D) (vs : List V) (A : List Addr), (∀ a ∈ A, ∀ o, H a = some o → H' a = some o) → RepL K F H ds vs A → RepL K F' H' ds vs A
  | [], _, _, _, r => r
  | d :: ds, vs, A, k, r => by
    obtain ⟨v, ws, B, C, rfl, rfl, r1, r2⟩ := r
    exact ⟨v, ws, B, C, rfl, rfl, Rep.mono h d v B (fun a z => k a (List.mem_append_left _ z)) r1, RepL.mono h ds ws C (fun a z => k a (List.mem_append_right _ z)) r2⟩
end
end DL

set_option Elab.async false
set_option linter.all false
set_option maxRecDepth 100000
set_option maxHeartbeats 4000000
namespace DL
open PySem PySem.Spec L2
variable {K : RC}
abbrev Env := List (Option D)
/-- one slot -/
def Sx (K : RC) (F H : Hp) : Option D → Option V → List Addr → Prop
  | none, _, B => B = []
  | some d, s, B => ∃ v, s = some v ∧ Rep K F H d v B
def Sl (K : RC) (F H : Hp) : Env → St → List Addr → Prop
  | [], σ, A => σ = [] ∧ A = []
  | x :: ρ, σ, A => ∃ s τ B C, σ = s :: τ ∧ A = B ++ C ∧ Sx K F H x s B ∧ Sl K F H ρ τ C
def hid (A : List Addr) (H : Hp) : Hp := fun a => if a ∈ A then none else H a
theorem hid_some {A : List Addr} {H : Hp} {a : Addr} {o : HO} : hid A H a = some o ↔ a ∉ A ∧ H a = some o := by
  unfold hid
  by_cases h : a ∈ A
  · rw [if_pos h]; exact ⟨(fun z => by cases z), fun z => absurd h z.1⟩
  · rw [if_neg h]; exact ⟨fun z => ⟨h, z⟩, fun z => z.2⟩
structure Fr where
  G : Hp
  N : List Addr
structure SimA (K : RC) (fr : Fr) (ρ : Env) (σ : St) (H : Hp) (A : List Addr) : Prop where
  sl : Sl K (hid (A ++ fr.N) H) H ρ σ A
  nd : A.Nodup
  off : ∀ a ∈ A, a ∉ fr.N ∧ fr.G a = none
  keep : ∀ a o, fr.G a = some o → H a = some o
  tr : ∀ a ∈ fr.N, ∃ o, fr.G a = some o
def Sim (K : RC) (fr : Fr) (ρ : Env) (σ : St) (H : Hp) : Prop := ∃ A, SimA K fr ρ σ H A

theorem Sx.mono {F F' H H' : Hp} {x : Option D} {s : Option V} {B : List Addr} (h : ∀ a o, F a = some o → F' a = some o) (k : ∀ a ∈ B, ∀ o, H a = some o → H' a = some o) (r : Sx K F H x s B) : Sx K F' H' x s B := by
  cases x with
  | none => exact r
  | some d =>
    obtain ⟨v, e, r⟩ := r
    exact ⟨v, e, Rep.mono h d v B k r⟩
theorem Sl.mono {F F' H H' : Hp} (h : ∀ a o, F a = some o → F' a = some o) : ∀ {ρ : Env} {σ : St} {A : List Addr}, (∀ a ∈ A, ∀ o, H a = some o → H' a = some o) → Sl K F H ρ σ A → Sl K F' H' ρ σ A
  | [], _, _, _, r => r
  | x :: ρ, σ, A, k, r => by
    obtain ⟨s, τ, B, C, rfl, rfl, r1, r2⟩ := r
    exact ⟨s, τ, B, C, rfl, rfl, r1.mono h (fun a z => k a (List.mem_append_left _ z)), Sl.mono h (fun a z => k a (List.mem_append_right _ z)) r2⟩
theorem Sl.len {F H : Hp} : ∀ {ρ : Env} {σ : St} {A : List Addr}, Sl K F H ρ σ A → σ.length = ρ.length
  | [], _, _, r => by rw [r.1]; rfl
  | x :: ρ, σ, A, r => by
    obtain ⟨s, τ, B, C, rfl, rfl, r1, r2⟩ := r
    rw [List.length_cons, List.length_cons, Sl.len r2]
theorem Sl.app {F H : Hp} : ∀ {ρ1 ρ2 : Env} {σ1 σ2 : St} {A1 A2 : List Addr}, Sl K F H ρ1 σ1 A1 → Sl K F H ρ2 σ2 A2 → Sl K F H (ρ1 ++ ρ2) (σ1 ++ σ2) (A1 ++ A2)
  | [], _, _, _, _, _, r, q => by
    obtain ⟨rfl, rfl⟩ := r
    exact q
  | x :: ρ, ρ2, σ, σ2, A, A2, r, q => by
    obtain ⟨s, τ, B, C, rfl, rfl, r1, r2⟩ := r
    exact ⟨s, τ ++ σ2, B, C ++ A2, rfl, by rw [List.append_assoc], r1, Sl.app r2 q⟩
theorem Sl.cut {F H : Hp} : ∀ {ρ1 ρ2 : Env} {σ1 σ2 : St} {A : List Addr}, σ1.length = ρ1.length → Sl K F H (ρ1 ++ ρ2) (σ1 ++ σ2) A → ∃ A1 A2, A = A1 ++ A2 ∧ Sl K F H ρ1 σ1 A1 ∧ Sl K F H ρ2 σ2 A2
  | [], ρ2, σ1, σ2, A, e, r => by
    have : σ1 = [] := List.length_eq_zero_iff.mp e
    subst this
    exact ⟨[], A, rfl, ⟨rfl, rfl⟩, r⟩
  | x :: ρ, ρ2, σ1, σ2, A, e, r => by
    cases σ1 with
    | nil => cases e
    | cons s1 τ1 =>
      obtain ⟨s, τ, B, C, e1, rfl, r1, r2⟩ := r
      injection e1 with e1 e2
      subst e1 e2
      obtain ⟨A1, A2, rfl, q1, q2⟩ := Sl.cut (by simpa using e) r2
      exact ⟨B ++ A1, A2, by rw [List.append_assoc], ⟨s1, τ1, B, A1, rfl, rfl, r1, q1⟩, q2⟩
/-- a slot, and another thing put there -/
theorem Sl.at {F H : Hp} : ∀ {ρ : Env} {σ : St} {A : List Addr} {i : Nat} {x : Option D}, Sl K F H ρ σ A → ρ[i]? = some x →
    ∃ s A1 B A2, σ[i]? = some s ∧ A = A1 ++ (B ++ A2) ∧ Sx K F H x s B ∧
      ∀ {F' H' : Hp} {x' : Option D} {s' : Option V} {B' : List Addr}, (∀ a o, F a = some o → F' a = some o) → (∀ a ∈ A1 ++ A2, ∀ o, H a = some o → H' a = some o) → Sx K F' H' x' s' B' → Sl K F' H' (ρ.set i x') (σ.set i s') (A1 ++ (B' ++ A2))
  | [], _, _, _, _, _, e => by simp at e
  | y :: ρ, σ, A, 0, x, r, e => by
    obtain ⟨s, τ, B, C, rfl, rfl, r1, r2⟩ := r
    have : y = x := by simpa using e
    subst this
    exact ⟨s, [], B, C, rfl, rfl, r1, fun {F' H' x' s' B'} h k q => ⟨s', τ, B', C, rfl, rfl, q, r2.mono h (fun a z => k a (by simpa using z))⟩⟩
  | y :: ρ, σ, A, i + 1, x, r, e => by
    obtain ⟨s, τ, B, C, rfl, rfl, r1, r2⟩ := r
    obtain ⟨s0, A1, B0, A2, e0, rfl, r3, f⟩ := Sl.at (i := i) r2 (by simpa using e)
    refine ⟨s0, B ++ A1, B0, A2, by simpa using e0, by rw [List.append_assoc], r3, fun {F' H' x' s' B'} h k q => ?_⟩
    refine ⟨s, τ.set i s', B, A1 ++ (B' ++ A2), rfl, by rw [List.append_assoc], r1.mono h (fun a z => k a (by simp [z])), f h (fun a z => k a ?_) q⟩
    rcases List.mem_append.mp z with z | z
    · simp [z]
    · simp [z]

section
variable {fr : Fr} {ρ ρ' : Env} {σ σ' : St} {H H' : Hp} {A A' : List Addr}
theorem SimA.fro (S : SimA K fr ρ σ H A) (sub : ∀ a ∈ A', a ∈ A ∨ H a = none) (kp : ∀ a o, a ∉ A → H a = some o → H' a = some o) : ∀ a o, hid (A ++ fr.N) H a = some o → hid (A' ++ fr.N) H' a = some o := fun a o e => by
  rw [hid_some] at e ⊢
  obtain ⟨n, e⟩ := e
  have nA : a ∉ A := fun z => n (List.mem_append_left _ z)
  refine ⟨fun z => ?_, kp a o nA e⟩
  rcases List.mem_append.mp z with z | z
  · rcases sub a z with z | z
    · exact nA z
    · rw [e] at z; cases z
  · exact n (List.mem_append_right _ z)
theorem SimA.next (S : SimA K fr ρ σ H A) (sub : ∀ a ∈ A', a ∈ A ∨ H a = none) (nd : A'.Nodup) (kp : ∀ a o, a ∉ A → H a = some o → H' a = some o) (sl : Sl K (hid (A' ++ fr.N) H') H' ρ' σ' A') : SimA K fr ρ' σ' H' A' := by
  refine ⟨sl, nd, fun a z => ?_, fun a o e => ?_, S.tr⟩
  · rcases sub a z with q | q
    · exact S.off a q
    · refine ⟨fun w => ?_, ?_⟩
      · obtain ⟨o, e⟩ := S.tr a w
        rw [S.keep a o e] at q; cases q
      · cases e : fr.G a with
        | none => rfl
        | some o => rw [S.keep a o e] at q; cases q
  · have nA : a ∉ A := fun z => by rw [(S.off a z).2] at e; cases e
    exact kp a o nA (S.keep a o e)
theorem Sim.len (S : Sim K fr ρ σ H) : σ.length = ρ.length := let ⟨_, S⟩ := S; S.sl.len
/-- the heap grew -/
theorem SimA.grow (S : SimA K fr ρ σ H A) (k : ∀ a o, H a = some o → H' a = some o) : SimA K fr ρ σ H' A :=
  S.next (fun a z => .inl z) S.nd (fun a o _ e => k a o e) (S.sl.mono (S.fro (fun a z => .inl z) fun a o _ e => k a o e) fun a _ o e => k a o e)
theorem Sim.grow (S : Sim K fr ρ σ H) (k : ∀ a o, H a = some o → H' a = some o) : Sim K fr ρ σ H' := let ⟨A, S⟩ := S; ⟨A, S.grow k⟩
theorem Sim.drop {x : Option D} {s : Option V} (S : Sim K fr (x :: ρ) (s :: σ) H) : Sim K fr ρ σ H := by
  obtain ⟨A, S⟩ := S
  obtain ⟨s', τ, B, C, e, rfl, r1, r2⟩ := S.sl
  injection e with e1 e2
  subst e1 e2
  have sub : ∀ a ∈ C, a ∈ B ++ C ∨ H a = none := fun a z => .inl (List.mem_append_right _ z)
  exact ⟨C, S.next sub (List.nodup_append.mp S.nd).2.1 (fun a o _ e => e) (r2.mono (S.fro sub fun a o _ e => e) fun a _ o e => e)⟩
theorem Sim.dropN {ρ1 : Env} {σ1 : St} (e : σ1.length = ρ1.length) (S : Sim K fr (ρ1 ++ ρ) (σ1 ++ σ) H) : Sim K fr ρ σ H := by
  induction ρ1 generalizing σ1 with
  | nil =>
    have : σ1 = [] := List.length_eq_zero_iff.mp e
    subst this
    exact S
  | cons x ρ1 ih =>
    cases σ1 with
    | nil => cases e
    | cons s σ1 => exact ih (by simpa using e) S.drop
theorem nodup_swap {A B : List Addr} (h : (A ++ B).Nodup) : (B ++ A).Nodup := by
  rw [List.nodup_append] at h ⊢
  exact ⟨h.2.1, h.1, fun a ha b hb e => h.2.2 b hb a ha e.symm⟩
/-- exchange -/
theorem Sim.swap {ρ1 ρ2 : Env} {σ1 σ2 : St} (e : σ1.length = ρ1.length) (S : Sim K fr (ρ1 ++ ρ2) (σ1 ++ σ2) H) : Sim K fr (ρ2 ++ ρ1) (σ2 ++ σ1) H := by
  obtain ⟨A, S⟩ := S
  obtain ⟨A1, A2, rfl, q1, q2⟩ := Sl.cut e S.sl
  have sub : ∀ a ∈ A2 ++ A1, a ∈ A1 ++ A2 ∨ H a = none := fun a z => .inl (List.mem_append.mpr (List.mem_append.mp z).symm)
  have f := S.fro sub (H' := H) fun a o _ e => e
  exact ⟨A2 ++ A1, S.next sub (nodup_swap S.nd) (fun a o _ e => e) (Sl.app (q2.mono f fun a _ o e => e) (q1.mono f fun a _ o e => e))⟩
/-- what the owned addresses are: tracked -/
theorem own_tr : True := trivial
end
mutual
theorem Rep.tr {F H : Hp} : ∀ (d : D) (v : V) (A : List Addr), Rep K F H d v A → ∀ a ∈ A, ∃ o, H a = some o
  | .non, v, A, r, a, z => by rw [r.2] at z; cases z
  | .bl b, v, A, r, a, z => by rw [r.2] at z; cases z
  | .int i, v, A, r, a, z => by rw [r.2] at z; cases z
  | .str x, v, A, r, a, z => by rw [r.2] at z; cases z
  | .adr _, v, A, r, a, z => by rw [r.2] at z; cases z
  | .scr ns, v, A, r, a, z => by rw [r.1] at z; cases z
  | .tup ds, v, A, r, a, z => by rw [r.1] at z; cases z
  | .obj false c ns ds, v, A, r, a, z => by rw [r.1] at z; cases z
  | .obj true c ns ds, v, A, r, a, z => by
    obtain ⟨p, C, dx, fs, B, rfl, rfl, g, s, e, r⟩ := r
    rcases List.mem_cons.mp z with z | z
    · subst z; exact ⟨_, s⟩
    · exact RepL.tr ds _ B r a z
  | .lst false ds, v, A, r, a, z => by rw [r.1] at z; cases z
  | .dk false ks ds, v, A, r, a, z => by rw [r.1] at z; cases z
  | .dt false ks ds, v, A, r, a, z => by rw [r.1] at z; cases z
  | .lst true ds, v, A, r, a, z => by
    obtain ⟨p, xs, B, rfl, rfl, s, r⟩ := r
    rcases List.mem_cons.mp z with z | z
    · subst z; exact ⟨_, s⟩
    · exact RepL.tr ds xs B r a z
  | .dk true ks ds, v, A, r, a, z => by
    obtain ⟨p, kvs, B, rfl, rfl, s, e, r⟩ := r
    rcases List.mem_cons.mp z with z | z
    · subst z; exact ⟨_, s⟩
    · exact RepL.tr ds _ B r a z
  | .dt true ks ds, v, A, r, a, z => by
    obtain ⟨p, kvs, B, rfl, rfl, s, e, r⟩ := r
    rcases List.mem_cons.mp z with z | z
    · subst z; exact ⟨_, s⟩
    · exact RepL.tr ds _ B r a z
theorem RepL.tr {F H : Hp} : ∀ (ds : List D) (vs : List V) (A : List Addr), RepL K F H ds vs A → ∀ a ∈ A, ∃ o, H a = some o
  | [], vs, A, r, a, z => by rw [r.2] at z; cases z
  | d :: ds, vs, A, r, a, z => by
    obtain ⟨v, ws, B, C, rfl, rfl, r1, r2⟩ := r
    rcases List.mem_append.mp z with z | z
    · exact Rep.tr d v B r1 a z
    · exact RepL.tr ds ws C r2 a z
end
theorem Sl.tr {F H : Hp} : ∀ {ρ : Env} {σ : St} {A : List Addr}, Sl K F H ρ σ A → ∀ a ∈ A, ∃ o, H a = some o
  | [], σ, A, r, a, z => by rw [r.2] at z; cases z
  | x :: ρ, σ, A, r, a, z => by
    obtain ⟨s, τ, B, C, rfl, rfl, r1, r2⟩ := r
    rcases List.mem_append.mp z with z | z
    · cases x with
      | none => rw [show B = [] from r1] at z; cases z
      | some d =>
        obtain ⟨v, _, r1⟩ := r1
        exact Rep.tr d v B r1 a z
    · exact r2.tr a z
mutual
theorem Rep.frz {F F' H : Hp} (h : ∀ a o, F a = some o → F' a = some o) : ∀ (d : D) (v : V) (A : List Addr), (∀ a ∈ A, ∀ o, H a = some o → F' a = some o) → Rep K F H d v A → Rep K F' H (frz d) v []
  | .non, v, A, _, r => ⟨r.1, rfl⟩
  | .bl b, v, A, _, r => ⟨r.1, rfl⟩
  | .int i, v, A, _, r => ⟨r.1, rfl⟩
  | .str x, v, A, _, r => ⟨r.1, rfl⟩
  | .adr a, v, A, _, r => ⟨r.1, rfl⟩
  | .tup ds, v, A, k, r => by
    obtain ⟨rfl, a, xs, rfl, s, r⟩ := r
    exact ⟨rfl, a, xs, rfl, SqT.mono h s, RepL.mono h ds xs [] (fun _ z => nomatch z) r⟩
  | .lst false ds, v, A, k, r => by
    obtain ⟨rfl, a, xs, rfl, s, r⟩ := r
    exact ⟨rfl, a, xs, rfl, h _ _ s, RepL.frz h ds xs [] (fun _ z => nomatch z) r⟩
  | .lst true ds, v, A, k, r => by
    obtain ⟨a, xs, B, rfl, rfl, s, r⟩ := r
    exact ⟨rfl, a, xs, rfl, k a List.mem_cons_self _ s, RepL.frz h ds xs B (fun b z => k b (List.mem_cons_of_mem _ z)) r⟩
  | .dk false ks ds, v, A, k, r => by
    obtain ⟨rfl, a, kvs, rfl, s, e, r⟩ := r
    exact ⟨rfl, a, kvs, rfl, h _ _ s, e, RepL.frz h ds _ [] (fun _ z => nomatch z) r⟩
  | .dk true ks ds, v, A, k, r => by
    obtain ⟨a, kvs, B, rfl, rfl, s, e, r⟩ := r
    exact ⟨rfl, a, kvs, rfl, k a List.mem_cons_self _ s, e, RepL.frz h ds _ B (fun b z => k b (List.mem_cons_of_mem _ z)) r⟩
  | .dt false ks ds, v, A, k, r => by
    obtain ⟨rfl, a, kvs, rfl, s, e, r⟩ := r
    exact ⟨rfl, a, kvs, rfl, h _ _ s, e, RepL.frz h ds _ [] (fun _ z => nomatch z) r⟩
  | .dt true ks ds, v, A, k, r => by
    obtain ⟨a, kvs, B, rfl, rfl, s, e, r⟩ := r
    exact ⟨rfl, a, kvs, rfl, k a List.mem_cons_self _ s, e, RepL.frz h ds _ B (fun b z => k b (List.mem_cons_of_mem _ z)) r⟩
  | .scr ns, v, A, k, r => by
    obtain ⟨rfl, a, rfl, s⟩ := r
    exact ⟨rfl, a, rfl, SqL.mono h s⟩
  | .obj false c ns ds, v, A, k, r => by
    obtain ⟨rfl, a, C, dx, fs, rfl, g, s, e, r⟩ := r
    exact ⟨rfl, a, C, dx, fs, rfl, g, h _ _ s, e, RepL.frz h ds _ [] (fun _ z => nomatch z) r⟩
  | .obj true c ns ds, v, A, k, r => by
    obtain ⟨a, C, dx, fs, B, rfl, rfl, g, s, e, r⟩ := r
    exact ⟨rfl, a, C, dx, fs, rfl, g, k a List.mem_cons_self _ s, e, RepL.frz h ds _ B (fun b z => k b (List.mem_cons_of_mem _ z)) r⟩
theorem RepL.frz {F F' H : Hp} (h : ∀ a o, F a = some o → F' a = some o) : ∀ (ds : List D) (vs : List V) (A : List Addr), (∀ a ∈ A, ∀ o, H a = some o → F' a = some o) → RepL K F H ds vs A → RepL K F' H (frzL ds) vs []
  | [], vs, A, k, r => ⟨r.1, rfl⟩
  | d :: ds, vs, A, k, r => by
    obtain ⟨v, ws, B, C, rfl, rfl, r1, r2⟩ := r
    exact ⟨v, ws, [], [], rfl, rfl, Rep.frz h d v B (fun a z => k a (List.mem_append_left _ z)) r1, RepL.frz h ds ws C (fun a z => k a (List.mem_append_right _ z)) r2⟩
end
section
variable {fr : Fr} {ρ ρ' : Env} {σ σ' : St} {H H' : Hp} {A A' : List Addr} {d : D} {v : V}
/-- the frame: what stands behind is out of sight and comes back -/
theorem Sim.frame {ρ1 ρ2 : Env} {σ1 σ2 : St} (e : σ1.length = ρ1.length) (S : Sim K fr (ρ1 ++ ρ2) (σ1 ++ σ2) H) : ∃ fr', Sim K fr' ρ1 σ1 H ∧ ∀ ρ1' σ1' H', Sim K fr' ρ1' σ1' H' → Sim K fr (ρ1' ++ ρ2) (σ1' ++ σ2) H' := by
  obtain ⟨A, S⟩ := S
  obtain ⟨A1, A2, rfl, q1, q2⟩ := Sl.cut e S.sl
  have nd := List.nodup_append.mp S.nd
  refine ⟨⟨hid A1 H, A2 ++ fr.N⟩, ⟨A1, ?_, nd.1, fun a z => ⟨fun w => ?_, ?_⟩, fun a o e => (hid_some.mp e).2, fun a z => ?_⟩, ?_⟩
  · refine q1.mono (fun a o e => ?_) fun a _ o e => e
    rw [hid_some] at e ⊢
    exact ⟨fun z => e.1 (by simpa [or_assoc] using z), e.2⟩
  · rcases List.mem_append.mp w with w | w
    · exact nd.2.2 a z a w rfl
    · exact (S.off a (List.mem_append_left _ z)).1 w
  · show hid A1 H a = none
    unfold hid
    rw [if_pos z]
  · rcases List.mem_append.mp z with z | z
    · obtain ⟨o, e⟩ := q2.tr a z
      exact ⟨o, hid_some.mpr ⟨fun w => nd.2.2 a w a z rfl, e⟩⟩
    · obtain ⟨o, e⟩ := S.tr a z
      exact ⟨o, hid_some.mpr ⟨fun w => (S.off a (List.mem_append_left _ w)).1 z, S.keep a o e⟩⟩
  · rintro ρ1' σ1' H' ⟨A1', T⟩
    have k : ∀ a o, a ∉ A1 → H a = some o → H' a = some o := fun a o n e => T.keep a o (hid_some.mpr ⟨n, e⟩)
    have d12 : ∀ a ∈ A1', a ∉ A2 := fun a z w => (T.off a z).1 (List.mem_append_left _ w)
    refine ⟨A1' ++ A2, Sl.app (T.sl.mono (fun a o e => ?_) fun a _ o e => e) (q2.mono (fun a o e => ?_) fun a z o e => k a o (fun w => nd.2.2 a w a z rfl) e), List.nodup_append.mpr ⟨T.nd, nd.2.1, fun a z b w q => d12 a z (q ▸ w)⟩, fun a z => ?_, fun a o e => ?_, S.tr⟩
    · rw [hid_some] at e ⊢
      exact ⟨fun z => e.1 (by simpa [or_assoc] using z), e.2⟩
    · rw [hid_some] at e ⊢
      have n1 : a ∉ A1 := fun z => e.1 (by simp [z])
      refine ⟨fun z => ?_, k a o n1 e.2⟩
      rcases List.mem_append.mp z with z | z
      · rcases List.mem_append.mp z with z | z
        · have g : hid A1 H a = none := (T.off a z).2
          rw [show hid A1 H a = some o from hid_some.mpr ⟨n1, e.2⟩] at g
          cases g
        · exact e.1 (by simp [z])
      · exact e.1 (by simp [z])
    · rcases List.mem_append.mp z with z | z
      · refine ⟨fun w => (T.off a z).1 (List.mem_append_right _ w), ?_⟩
        cases g : fr.G a with
        | none => rfl
        | some o =>
          have n1 : a ∉ A1 := fun w => by rw [(S.off a (List.mem_append_left _ w)).2] at g; cases g
          have q : hid A1 H a = none := (T.off a z).2
          rw [show hid A1 H a = some o from hid_some.mpr ⟨n1, S.keep a o g⟩] at q
          cases q
      · exact S.off a (List.mem_append_right _ z)
    · have n1 : a ∉ A1 := fun w => by rw [(S.off a (List.mem_append_left _ w)).2] at e; cases e
      exact k a o n1 (S.keep a o e)
/-- a temp stands ahead: the rest goes on without it -/
theorem Sim.hold {x : Option D} {s : Option V} (S : Sim K fr (x :: ρ) (s :: σ) H) : ∃ fr', Sim K fr' ρ σ H ∧ ∀ ρ' σ' H', Sim K fr' ρ' σ' H' → Sim K fr (x :: ρ') (s :: σ') H' := by
  have T := Sim.swap (ρ1 := [x]) (σ1 := [s]) rfl S
  obtain ⟨fr', a, b⟩ := Sim.frame S.drop.len T
  refine ⟨fr', a, fun ρ' σ' H' h => ?_⟩
  have z := b ρ' σ' H' h
  exact Sim.swap (ρ1 := ρ') (ρ2 := [x]) h.len z
theorem Sim.holdN {ρ1 : Env} {σ1 : St} (e : σ1.length = ρ1.length) (S : Sim K fr (ρ1 ++ ρ) (σ1 ++ σ) H) : ∃ fr', Sim K fr' ρ σ H ∧ ∀ ρ' σ' H', Sim K fr' ρ' σ' H' → Sim K fr (ρ1 ++ ρ') (σ1 ++ σ') H' := by
  have T := Sim.swap e S
  obtain ⟨fr', a, b⟩ := Sim.frame (S.dropN e).len T
  exact ⟨fr', a, fun ρ' σ' H' h => Sim.swap h.len (b ρ' σ' H' h)⟩
/-- the first one frozen -/
theorem Sim.frz (S : Sim K fr (some d :: ρ) (some v :: σ) H) : Sim K fr (some (frz d) :: ρ) (some v :: σ) H := by
  obtain ⟨A, S⟩ := S
  obtain ⟨s', τ, B, C, e, rfl, ⟨v', e1, r1⟩, r2⟩ := S.sl
  injection e with e2 e3
  subst e2 e3
  cases e1
  have nd := List.nodup_append.mp S.nd
  have sub : ∀ a ∈ C, a ∈ B ++ C ∨ H a = none := fun a z => .inl (List.mem_append_right _ z)
  have f := S.fro sub (H' := H) fun a o _ e => e
  refine ⟨C, S.next sub nd.2.1 (fun a o _ e => e) ⟨some v, σ, [], C, rfl, rfl, ⟨v, rfl, Rep.frz f d v B (fun a z o e => hid_some.mpr ⟨fun w => ?_, e⟩) r1⟩, r2.mono f fun a _ o e => e⟩⟩
  rcases List.mem_append.mp w with w | w
  · exact nd.2.2 a z a w rfl
  · exact (S.off a (List.mem_append_left _ z)).1 w
/-- flat data -/
def flat : D → Option V
  | .non => some .non
  | .bl b => some (.bl b)
  | .int i => some (.int i)
  | .str x => some (.str x)
  | .adr a => some (.ref a)
  | _ => none
theorem flat_rep {F H : Hp} (h : flat d = some v) : Rep K F H d v [] := by
  cases d <;> simp [flat] at h <;> subst h <;> exact ⟨rfl, rfl⟩
theorem rep_flat {F H : Hp} {w : V} {B : List Addr} (h : flat d = some v) (r : Rep K F H d w B) : w = v ∧ B = [] := by
  cases d <;> simp [flat] at h <;> subst h <;> exact r
theorem Sim.pushF (S : Sim K fr ρ σ H) (h : flat d = some v) : Sim K fr (some d :: ρ) (some v :: σ) H := by
  obtain ⟨A, S⟩ := S
  exact ⟨A, S.next (fun a z => .inl z) S.nd (fun a o _ e => e) ⟨some v, σ, [], A, rfl, rfl, ⟨v, rfl, flat_rep h⟩, S.sl⟩⟩
theorem Sim.topF (S : Sim K fr (some d :: ρ) (some v :: σ) H) {w : V} (h : flat d = some w) : v = w := by
  obtain ⟨A, S⟩ := S
  obtain ⟨s', τ, B, C, e, rfl, ⟨v', e1, r1⟩, r2⟩ := S.sl
  injection e with e2 e3
  subst e2
  cases e1
  exact (rep_flat h r1).1
/-- frozen data -/
def fro : D → Bool
  | .lst o _ => !o
  | .dk o _ _ => !o
  | .dt o _ _ => !o
  | .obj o _ _ _ => !o
  | _ => true
theorem fro_rep {F H : Hp} {B : List Addr} (h : fro d = true) (r : Rep K F H d v B) : B = [] := by
  cases d with
  | lst o ds => cases o with
    | false => exact r.1
    | true => cases h
  | dk o ks ds => cases o with
    | false => exact r.1
    | true => cases h
  | dt o ks ds => cases o with
    | false => exact r.1
    | true => cases h
  | obj o c ns ds => cases o with
    | false => exact r.1
    | true => cases h
  | tup ds => exact r.1
  | scr ns => exact r.1
  | _ => exact r.2
theorem fro_frz : ∀ d : D, fro (DL.frz d) = true
  | .lst _ _ => rfl
  | .dk _ _ _ => rfl
  | .dt _ _ _ => rfl
  | .tup _ => rfl
  | .scr _ => rfl
  | .obj _ _ _ _ => rfl
  | .non => rfl
  | .bl _ => rfl
  | .int _ => rfl
  | .str _ => rfl
  | .adr _ => rfl
theorem Sim.dup {i : Nat} (S : Sim K fr ρ σ H) (e : ρ[i]? = some (some d)) (h : fro d = true) : ∃ v, σ[i]? = some (some v) ∧ Sim K fr (some d :: ρ) (some v :: σ) H := by
  obtain ⟨A, S⟩ := S
  obtain ⟨s, A1, B, A2, e1, rfl, ⟨v, rfl, r⟩, _⟩ := S.sl.at e
  have := fro_rep h r
  subst this
  exact ⟨v, e1, _, S.next (fun a z => .inl z) S.nd (fun a o _ e => e) ⟨some v, σ, [], _, rfl, rfl, ⟨v, rfl, r⟩, S.sl⟩⟩
theorem set_self {α : Type} : ∀ {l : List α} {i : Nat} {x : α}, l[i]? = some x → l.set i x = l
  | [], _, _, h => by simp at h
  | a :: l, 0, x, h => by
    have : a = x := by simpa using h
    subst this; rfl
  | a :: l, i + 1, x, h => by
    show a :: l.set i x = a :: l
    rw [set_self (by simpa using h)]
theorem perm_nodup {A B C : List Addr} (h : (A ++ (B ++ C)).Nodup) : (B ++ (A ++ C)).Nodup := by
  refine List.Perm.nodup (l := A ++ (B ++ C)) ?_ h
  exact (List.perm_append_comm_assoc A B C)
/-- moved out of its slot -/
theorem Sim.move {i : Nat} (S : Sim K fr ρ σ H) (e : ρ[i]? = some (some d)) : ∃ v, σ[i]? = some (some v) ∧ Sim K fr (some d :: ρ.set i none) (some v :: σ) H := by
  obtain ⟨A, S⟩ := S
  obtain ⟨s, A1, B, A2, e1, rfl, ⟨v, rfl, r⟩, f⟩ := S.sl.at e
  have sub : ∀ a ∈ B ++ (A1 ++ A2), a ∈ A1 ++ (B ++ A2) ∨ H a = none := fun a z => .inl (by
    simp only [List.mem_append] at z ⊢
    rcases z with z | z | z
    · exact .inr (.inl z)
    · exact .inl z
    · exact .inr (.inr z))
  have g := S.fro sub (H' := H) fun a o _ e => e
  have q := f (x' := none) (s' := some v) (B' := []) g (fun a _ o e => e) rfl
  rw [set_self e1] at q
  exact ⟨v, e1, _, S.next sub (perm_nodup S.nd) (fun a o _ e => e) ⟨some v, σ, B, A1 ++ A2, rfl, rfl, ⟨v, rfl, Rep.mono g d v B (fun a _ o e => e) r⟩, q⟩⟩
/-- stored in a slot -/
theorem Sim.store {i : Nat} (S : Sim K fr (some d :: ρ) (some v :: σ) H) (hi : i < ρ.length) : Sim K fr (ρ.set i (some d)) (σ.set i (some v)) H := by
  obtain ⟨A, S⟩ := S
  obtain ⟨s', τ, B, C, e, rfl, ⟨v', e1, r1⟩, r2⟩ := S.sl
  injection e with e2 e3
  subst e2 e3
  cases e1
  obtain ⟨s, A1, B0, A2, e1, rfl, r, f⟩ := r2.at (List.getElem?_eq_getElem hi)
  have sub : ∀ a ∈ A1 ++ (B ++ A2), a ∈ B ++ (A1 ++ (B0 ++ A2)) ∨ H a = none := fun a z => .inl (by
    simp only [List.mem_append] at z ⊢
    rcases z with z | z | z
    · exact .inr (.inl z)
    · exact .inl z
    · exact .inr (.inr (.inr z)))
  have g := S.fro sub (H' := H) fun a o _ e => e
  refine ⟨_, S.next sub ?_ (fun a o _ e => e) (f (x' := some d) (s' := some v) (B' := B) g (fun a _ o e => e) ⟨v, rfl, Rep.mono g d v B (fun a _ o e => e) r1⟩)⟩
  refine perm_nodup ?_
  refine List.Nodup.sublist ?_ S.nd
  exact (List.append_sublist_append_left B).mpr ((List.append_sublist_append_left A1).mpr (List.sublist_append_right B0 A2))
theorem Sim.back {i : Nat} (S : Sim K fr (some d :: ρ) (some v :: σ) H) (h : σ[i]? = some (some v)) : Sim K fr (ρ.set i (some d)) σ H := by
  have hi : i < ρ.length := by
    have := S.drop.len
    rw [← this]
    exact (List.getElem?_eq_some_iff.mp h).1
  have z := S.store hi
  rw [set_self h] at z
  exact z
theorem Sim.clear {i : Nat} (S : Sim K fr ρ σ H) (s : Option V) : Sim K fr (ρ.set i none) (σ.set i s) H := by
  by_cases hi : i < ρ.length
  · obtain ⟨A, S⟩ := S
    obtain ⟨s0, A1, B0, A2, e1, rfl, r, f⟩ := S.sl.at (List.getElem?_eq_getElem hi)
    have sub : ∀ a ∈ A1 ++ ([] ++ A2), a ∈ A1 ++ (B0 ++ A2) ∨ H a = none := fun a z => .inl (by
      simp only [List.mem_append] at z ⊢
      rcases z with z | z | z
      · exact .inl z
      · cases z
      · exact .inr (.inr z))
    have g := S.fro sub (H' := H) fun a o _ e => e
    refine ⟨_, S.next sub ?_ (fun a o _ e => e) (f (x' := none) (s' := s) (B' := []) g (fun a _ o e => e) rfl)⟩
    refine List.Nodup.sublist ?_ S.nd
    exact (List.append_sublist_append_left A1).mpr (List.sublist_append_right B0 A2)
  · have h1 : ρ.set i none = ρ := List.set_eq_of_length_le (by omega)
    have h2 : σ.set i s = σ := List.set_eq_of_length_le (by rw [S.len]; omega)
    rw [h1, h2]
    exact S
end
end DL

set_option Elab.async false
set_option linter.all false
set_option maxRecDepth 100000
set_option maxHeartbeats 4000000
namespace DL
open PySem PySem.Spec L2
abbrev rc (X : Cx) : RC := ⟨X.K, X.mg⟩
/-! what an expression comes to -/
inductive Res (α : Type) where
  | ok (a : α) (ρ : Env)
  | exc (c : Str) (fs : List (Str × D)) (ρ : Env)
  | stuck
abbrev M (α : Type) := Env → Res α
def mbind {α β : Type} (m : M α) (f : α → M β) : M β := fun ρ => match m ρ with
  | .ok a ρ' => f a ρ'
  | .exc c fs ρ' => .exc c fs ρ'
  | .stuck => .stuck
def mret {α : Type} (a : α) : M α := fun ρ => .ok a ρ
def mlift {α : Type} : Option α → M α
  | some a => fun ρ => .ok a ρ
  | none => fun _ => .stuck
def toV (d : D) : V := (flat d).getD .non
/-- an exception as it lies -/
def ExcR (mg : Str → Option Value) (c : Str) (fs : List (Str × D)) (cls : Value) (dd : Option Addr) (H : Hp) : Prop :=
  ∃ C, mg c = some (.ref C) ∧ cls = .ref C ∧ ((fs = [] ∧ dd = none) ∨ (fs ≠ [] ∧ ∃ a, dd = some a ∧ H a = some (.xd (fs.map fun p => (p.1, toV p.2)))))
def QX (K : RC) (W : WX) (fr : Fr) (σ : L2.St) (c : Str) (fs : List (Str × D)) (ρ : Env) : Prop :=
  ∀ cls dd H, ExcR K.mg c fs cls dd H → Sim K fr ρ σ H → W cls dd σ H
def QR {α : Type} (K : RC) (W : WX) (fr : Fr) (σ : L2.St) (r : Res α) (post : α → Env → Prop) : Prop := match r with
  | .ok a ρ => post a ρ
  | .exc c fs ρ => QX K W fr σ c fs ρ
  | .stuck => False
section
variable {K : RC} {W : WX} {fr fr' : Fr} {σ : L2.St} {H : Hp}
theorem QR.bind {α β : Type} {m : M α} {f : α → M β} {ρ : Env} {post : β → Env → Prop} (h : QR K W fr σ (mbind m f ρ) post) : QR K W fr σ (m ρ) fun a ρ' => QR K W fr σ (f a ρ') post := by
  unfold mbind at h
  cases e : m ρ with
  | ok a ρ' => rw [e] at h; exact h
  | exc c fs ρ' => rw [e] at h; exact h
  | stuck => rw [e] at h; exact h
theorem QR.mono {α : Type} {r : Res α} {p q : α → Env → Prop} (h : QR K W fr σ r p) (k : ∀ a ρ, p a ρ → q a ρ) : QR K W fr σ r q := by
  cases r with
  | ok a ρ => exact k a ρ h
  | exc c fs ρ => exact h
  | stuck => exact h
/-- under a longer frame -/
theorem QR.frame {α : Type} {r : Res α} {p : α → Env → Prop} (h : QR K W fr σ r p) (k : ∀ ρ H, Sim K fr' ρ σ H → Sim K fr ρ σ H) : QR K W fr' σ r p := by
  cases r with
  | ok a ρ => exact h
  | exc c fs ρ => exact fun cls dd H e s => h cls dd H e (k ρ H s)
  | stuck => exact h
theorem QR.lift {α : Type} {o : Option α} {ρ : Env} {p : α → Env → Prop} (h : QR K W fr σ (mlift o ρ) p) : ∃ a, o = some a ∧ p a ρ := by
  cases o with
  | none => exact h.elim
  | some a => exact ⟨a, rfl, h⟩
end
/-- an expression's value -/
def QE (K : RC) (W : WX) (fr : Fr) (σ : L2.St) (r : Res D) (Q : VK) : Prop := QR K W fr σ r fun d ρ => ∀ v H, Sim K fr (some d :: ρ) (some v :: σ) H → Q v H
structure ED {ι : Type} (X : ι → Cx) (K : RC) (W : WX) (e : Expr) (f : M D) : Prop where
  ex : ∃ t, (∀ i, PE (X i) e t) ∧ ∀ fr ρ σ H Q, Sim K fr ρ σ H → QE K W fr σ (f ρ) Q → t σ H Q
def QT (K : RC) (W : WX) (fr : Fr) (σ : L2.St) (r : Res Bool) (Q : Bool → Hp → Prop) : Prop := QR K W fr σ r fun b ρ => ∀ H, Sim K fr ρ σ H → Q b H
structure TD {ι : Type} (X : ι → Cx) (K : RC) (W : WX) (e : Expr) (f : M Bool) : Prop where
  ex : ∃ t, (∀ i, PT (X i) e t) ∧ ∀ fr ρ σ H Q, Sim K fr ρ σ H → QT K W fr σ (f ρ) Q → t σ H Q
/-- and, or as tests -/
structure WD {ι : Type} (X : ι → Cx) (K : RC) (W : WX) (e : Expr) (f : M Bool) : Prop where
  ex : ∃ t, (∀ i, PW (X i) e t) ∧ ∀ fr ρ σ H Q, Sim K fr ρ σ H → QT K W fr σ (f ρ) Q → t σ H Q
def revL (ds : List D) : Env := ds.reverse.map some
/-- arguments: the values lie as temps, the last one ahead -/
def QA (K : RC) (W : WX) (fr : Fr) (σ : L2.St) (r : Res (List D)) (Q : List V → Hp → Prop) : Prop :=
  QR K W fr σ r fun ds ρ => ∀ vs H, vs.length = ds.length → Sim K fr (ds.map some ++ ρ) (vs.map some ++ σ) H → Q vs H
structure AD {ι : Type} (X : ι → Cx) (K : RC) (W : WX) (es : List Expr) (f : M (List D)) : Prop where
  ex : ∃ t, (∀ i, PA (X i) es t) ∧ ∀ fr ρ σ H Q, Sim K fr ρ σ H → QA K W fr σ (f ρ) Q → t σ H Q
section
variable {ι : Type} {X : ι → Cx} {K : RC} {W : WX} {e a b c : Expr} {es : List Expr} {f fa fb fc : M D} {pos : Pos}
/-! ### two in a row, under the first one's hold -/
theorem two {fr : Fr} {ρ1 : Env} {σ : L2.St} {H1 : Hp} {dx : D} {vx : V} {tb : TE} {R : V → Hp → Prop} {post : D → Env → Prop} (S : Sim K fr (some dx :: ρ1) (some vx :: σ) H1)
    (hb : ∀ fr ρ σ H Q, Sim K fr ρ σ H → QE K W fr σ (fb ρ) Q → tb σ H Q) (h : QR K W fr σ (fb ρ1) post)
    (k : ∀ dy ρ2 vy H2, post dy ρ2 → Sim K fr (some dy :: some dx :: ρ2) (some vy :: some vx :: σ) H2 → R vy H2) : tb σ H1 R := by
  obtain ⟨fr', S', back⟩ := S.hold
  refine hb fr' ρ1 σ H1 R S' ?_
  refine (h.frame fun ρ H s => (back ρ σ H s).drop).mono fun dy ρ2 hp vy H2 s => ?_
  refine k dy ρ2 vy H2 hp ?_
  have z := back (some dy :: ρ2) (some vy :: σ) H2 s
  have z1 : Sim K fr ([some dx] ++ ([some dy] ++ ρ2)) ([some vx] ++ ([some vy] ++ σ)) H2 := z
  -- swap the first two
  obtain ⟨A, T⟩ := z
  obtain ⟨s1, τ1, B1, C1, e1, rfl, r1, r2⟩ := T.sl
  injection e1 with e1 e2
  subst e1 e2
  obtain ⟨s2, τ2, B2, C2, e3, rfl, r3, r4⟩ := r2
  injection e3 with e3 e4
  subst e3 e4
  have sub : ∀ q ∈ B2 ++ (B1 ++ C2), q ∈ B1 ++ (B2 ++ C2) ∨ H2 q = none := fun q z => .inl (by
    simp only [List.mem_append] at z ⊢
    rcases z with z | z | z
    · exact .inr (.inl z)
    · exact .inl z
    · exact .inr (.inr z))
  have g := T.fro sub (H' := H2) fun a o _ e => e
  exact ⟨_, T.next sub (perm_nodup T.nd) (fun a o _ e => e) ⟨some vy, some vx :: σ, B2, B1 ++ C2, rfl, rfl, r3.mono g fun a _ o e => e, some vx, σ, B1, C2, rfl, rfl, r1.mono g fun a _ o e => e, r4.mono g fun a _ o e => e⟩⟩
/-! ### names, constants -/
def eVar (i : Nat) : M D := fun ρ => match ρ[i]? with
  | some (some d) => if fro d = true then .ok d ρ else .stuck
  | _ => .stuck
theorem ed_var (i : Nat) {x : Str} {pos : Pos} (h : ∀ j, PE (X j) (.Name x pos) (tVar i)) : ED X K W (.Name x pos) (eVar i) := ⟨tVar i, h, fun fr ρ σ H Q S q => by
  unfold eVar at q
  cases e : ρ[i]? with
  | none => rw [e] at q; exact q.elim
  | some o => cases o with
    | none => rw [e] at q; exact q.elim
    | some d =>
      rw [e] at q
      by_cases hf : fro d = true
      · simp only [hf, if_true] at q
        obtain ⟨v, e1, S1⟩ := S.dup e hf
        exact ⟨v, e1, q v H S1⟩
      · simp only [hf] at q
        exact q.elim⟩
/-- the variable is handed over (and gone) -/
def eMove (i : Nat) : M D := fun ρ => match ρ[i]? with
  | some (some d) => .ok d (ρ.set i none)
  | _ => .stuck
theorem ed_move (i : Nat) {x : Str} {pos : Pos} (h : ∀ j, PE (X j) (.Name x pos) (tVar i)) : ED X K W (.Name x pos) (eMove i) := ⟨tVar i, h, fun fr ρ σ H Q S q => by
  unfold eMove at q
  cases e : ρ[i]? with
  | none => rw [e] at q; exact q.elim
  | some o => cases o with
    | none => rw [e] at q; exact q.elim
    | some d =>
      rw [e] at q
      obtain ⟨v, e1, S1⟩ := S.move e
      exact ⟨v, e1, q v H S1⟩⟩
def eC (d : D) : M D := fun ρ => .ok d ρ
theorem ed_const {d : D} {v : V} (hf : flat d = some v) (h : ∀ i, PE (X i) e (tC v)) : ED X K W e (eC d) := ⟨tC v, h, fun fr ρ σ H Q S q => q v H (S.pushF hf)⟩
theorem ed_int {i j pos} : ED X K W (.Constant (.int i) j pos) (eC (.int i)) := ed_const rfl fun _ => pe_int
theorem ed_bl {i j pos} : ED X K W (.Constant (.bool i) j pos) (eC (.bl i)) := ed_const rfl fun _ => pe_bl
theorem ed_str {i j pos} : ED X K W (.Constant (.str i) j pos) (eC (.str i)) := ed_const rfl fun _ => pe_str
theorem ed_non {j pos} : ED X K W (.Constant .none j pos) (eC .non) := ed_const rfl fun _ => pe_non
/-- what was made is frozen -/
def eFrz (f : M D) : M D := mbind f fun d => mret (frz d)
theorem ed_frz (h : ED X K W e f) : ED X K W e (eFrz f) := by
  obtain ⟨t, p, s⟩ := h.ex
  exact ⟨t, p, fun fr ρ σ H Q S q => s fr ρ σ H Q S (QR.mono (QR.bind q) fun d ρ' q' v H' S' => q' v H' S'.frz)⟩
/-! ### operators -/
def e1 (F : D → Option D) (fa : M D) : M D := mbind fa fun x => mlift (F x)
def e2 (F : D → D → Option D) (fa fb : M D) : M D := mbind fa fun x => mbind fb fun y => mlift (F x y)
/-- r computes F -/
def OpS (K : RC) (r : R2) (F : D → D → Option D) : Prop := ∀ fr ρ σ H dx dy vx vy d Q, Sim K fr (some dy :: some dx :: ρ) (some vy :: some vx :: σ) H → F dx dy = some d →
  (∀ v H', Sim K fr (some d :: ρ) (some v :: σ) H' → Q v H') → r vx vy H Q
def UnS (K : RC) (r : V → Hp → VK → Prop) (F : D → Option D) : Prop := ∀ fr ρ σ H dx vx d Q, Sim K fr (some dx :: ρ) (some vx :: σ) H → F dx = some d →
  (∀ v H', Sim K fr (some d :: ρ) (some v :: σ) H' → Q v H') → r vx H Q
theorem sim_tOp {r : R2} {F : D → D → Option D} (ho : OpS K r F) {ta tb : TE} (ha : ∀ fr ρ σ H Q, Sim K fr ρ σ H → QE K W fr σ (fa ρ) Q → ta σ H Q) (hb : ∀ fr ρ σ H Q, Sim K fr ρ σ H → QE K W fr σ (fb ρ) Q → tb σ H Q)
    {fr : Fr} {ρ : Env} {σ : L2.St} {H : Hp} {Q : VK} (S : Sim K fr ρ σ H) (q : QE K W fr σ (e2 F fa fb ρ) Q) : tOp r ta tb σ H Q := by
  refine ha fr ρ σ H _ S ((QR.bind q).mono fun dx ρ1 q1 vx H1 S1 => ?_)
  refine two S1 hb (QR.bind q1) fun dy ρ2 vy H2 q2 S2 => ?_
  obtain ⟨d, e, q3⟩ := QR.lift q2
  exact ho fr ρ2 σ H2 dx dy vx vy d Q S2 e q3
theorem ed_op {op : Operator} {r : R2} {F : D → D → Option D} (h : ∀ i, OpR (X i) (binaryOp op) r) (ho : OpS K r F) (ha : ED X K W a fa) (hb : ED X K W b fb) : ED X K W (.BinOp a op b pos) (e2 F fa fb) := by
  obtain ⟨ta, pa, sa⟩ := ha.ex
  obtain ⟨tb, pb, sb⟩ := hb.ex
  exact ⟨tOp r ta tb, (fun i => pe_op (h i) (pa i) (pb i)), fun fr ρ σ H Q S q => sim_tOp ho sa sb S q⟩
theorem ed_cmp {op : CmpOp} {r : R2} {F : D → D → Option D} (h : ∀ i, OpR (X i) (compareOp op) r) (ho : OpS K r F) (ha : ED X K W a fa) (hb : ED X K W b fb) (hm : behindInMarks op b = false) : ED X K W (.Compare a [op] [b] pos) (e2 F fa fb) := by
  obtain ⟨ta, pa, sa⟩ := ha.ex
  obtain ⟨tb, pb, sb⟩ := hb.ex
  exact ⟨tOp r ta tb, (fun i => pe_cmpR (h i) (pa i) (pb i) hm), fun fr ρ σ H Q S q => sim_tOp ho sa sb S q⟩
def isB : D → Option Bool
  | .bl b => some b
  | _ => none
def eB (f : M D) : M Bool := mbind f fun d => mlift (isB d)
theorem sim_tTest {t : TE} (s : ∀ fr ρ σ H Q, Sim K fr ρ σ H → QE K W fr σ (f ρ) Q → t σ H Q) {fr : Fr} {ρ : Env} {σ : L2.St} {H : Hp} {Q : Bool → Hp → Prop} (S : Sim K fr ρ σ H) (q : QT K W fr σ (eB f ρ) Q) : tTest t σ H Q := by
  refine s fr ρ σ H _ S ((QR.bind q).mono fun d ρ1 q1 v H1 S1 => ?_)
  obtain ⟨b, e, q2⟩ := QR.lift q1
  cases d <;> simp [isB] at e
  subst e
  have := S1.topF rfl
  subst this
  exact ⟨_, rfl, q2 H1 S1.drop⟩
theorem td_cmp {op : CmpOp} {r : R2} {F : D → D → Option D} (h : ∀ i, OpR (X i) (compareOp op) r) (ho : OpS K r F) (ha : ED X K W a fa) (hb : ED X K W b fb) (hm : behindInMarks op b = false) : TD X K W (.Compare a [op] [b] pos) (eB (e2 F fa fb)) := by
  obtain ⟨ta, pa, sa⟩ := ha.ex
  obtain ⟨tb, pb, sb⟩ := hb.ex
  exact ⟨tTest (tOp r ta tb), (fun i => pt_cmpR (h i) (pa i) (pb i) hm), fun fr ρ σ H Q S q => sim_tTest (fun fr ρ σ H Q S q => sim_tOp ho sa sb S q) S q⟩
/-- a test of an expression that gives a bool -/
theorem td_val (h : ED X K W e f) (he : ∀ i whole, isTrue e (X i).env whole = (do let v ← whole; standAt e.pos; holding [v] (truthy v)) := by intro _ _; rfl) : TD X K W e (eB f) := by
  obtain ⟨t, p, s⟩ := h.ex
  exact ⟨tB t, (fun i => pt_val (p i) (he i)), fun fr ρ σ H Q S q => sim_tTest s S q⟩
theorem td_of (h : WD X K W e f') : TD X K W e f' := by
  obtain ⟨t, p, s⟩ := h.ex
  exact ⟨t, (fun i => (p i).pt), s⟩
def mAnd (f g : M Bool) : M Bool := mbind f fun b => if b = true then g else mret false
def mOr (f g : M Bool) : M Bool := mbind f fun b => if b = true then mret true else g
def mNot (f : M Bool) : M Bool := mbind f fun b => mret (!b)
variable {ga gb : M Bool} {rest : List Expr}
theorem wd_and1 (h : TD X K W a ga) : WD X K W (.BoolOp .And [a] pos) ga := by
  obtain ⟨t, p, s⟩ := h.ex
  exact ⟨t, (fun i => pw_and1 (p i)), s⟩
theorem wd_or1 (h : TD X K W a ga) : WD X K W (.BoolOp .Or [a] pos) ga := by
  obtain ⟨t, p, s⟩ := h.ex
  exact ⟨t, (fun i => pw_or1 (p i)), s⟩
theorem wd_and (h : TD X K W a ga) (h2 : WD X K W (.BoolOp .And (b :: rest) pos) gb) : WD X K W (.BoolOp .And (a :: b :: rest) pos) (mAnd ga gb) := by
  obtain ⟨t, p, s⟩ := h.ex
  obtain ⟨u, p2, s2⟩ := h2.ex
  refine ⟨tAnd t u, (fun i => pw_and (p i) (p2 i)), fun fr ρ σ H Q S q => ?_⟩
  refine s fr ρ σ H _ S ((QR.bind q).mono fun k ρ1 q1 H1 S1 => ?_)
  cases k with
  | true => rw [if_pos rfl] at q1 ⊢; exact s2 fr ρ1 σ H1 Q S1 q1
  | false => rw [if_neg Bool.false_ne_true] at q1 ⊢; exact q1 H1 S1
theorem wd_or (h : TD X K W a ga) (h2 : WD X K W (.BoolOp .Or (b :: rest) pos) gb) : WD X K W (.BoolOp .Or (a :: b :: rest) pos) (mOr ga gb) := by
  obtain ⟨t, p, s⟩ := h.ex
  obtain ⟨u, p2, s2⟩ := h2.ex
  refine ⟨tOr t u, (fun i => pw_or (p i) (p2 i)), fun fr ρ σ H Q S q => ?_⟩
  refine s fr ρ σ H _ S ((QR.bind q).mono fun k ρ1 q1 H1 S1 => ?_)
  cases k with
  | true => rw [if_pos rfl] at q1 ⊢; exact q1 H1 S1
  | false => rw [if_neg Bool.false_ne_true] at q1 ⊢; exact s2 fr ρ1 σ H1 Q S1 q1
theorem td_not (h : TD X K W a ga) : TD X K W (.UnaryOp .Not a pos) (mNot ga) := by
  obtain ⟨t, p, s⟩ := h.ex
  exact ⟨tNot t, (fun i => pt_not (p i)), fun fr ρ σ H Q S q => s fr ρ σ H _ S ((QR.bind q).mono fun k ρ1 q1 H1 S1 => q1 H1 S1)⟩
/-! as values -/
def eAnd (f g : M D) : M D := mbind f fun x => mbind (mlift (isB x)) fun b => if b = true then g else mret (.bl false)
def eOr (f g : M D) : M D := mbind f fun x => mbind (mlift (isB x)) fun b => if b = true then mret (.bl true) else g
def eNot (f : M D) : M D := mbind f fun x => mbind (mlift (isB x)) fun b => mret (.bl !b)
def eIf (c : M Bool) (f g : M D) : M D := mbind c fun b => if b = true then f else g
theorem ed_one {op} (h : ED X K W a fa) : ED X K W (.BoolOp op [a] pos) fa := by
  obtain ⟨t, p, s⟩ := h.ex
  exact ⟨t, (fun i => pe_one (p i)), s⟩
theorem isB_eq {d : D} {b : Bool} (h : isB d = some b) : d = .bl b := by
  cases d <;> simp [isB] at h
  rw [h]
theorem ed_and (h : ED X K W a fa) (h2 : ED X K W (.BoolOp .And (b :: rest) pos) fb) : ED X K W (.BoolOp .And (a :: b :: rest) pos) (eAnd fa fb) := by
  obtain ⟨t, p, s⟩ := h.ex
  obtain ⟨u, p2, s2⟩ := h2.ex
  refine ⟨tAndV t u, (fun i => pe_and (p i) (p2 i)), fun fr ρ σ H Q S q => ?_⟩
  refine s fr ρ σ H _ S ((QR.bind q).mono fun d ρ1 q1 v H1 S1 => ?_)
  obtain ⟨k, e, q2⟩ := QR.lift (QR.bind q1)
  have := isB_eq e
  subst this
  have := S1.topF rfl
  subst this
  refine ⟨k, rfl, ?_⟩
  cases k with
  | true => rw [if_pos rfl] at q2 ⊢; exact s2 fr ρ1 σ H1 Q S1.drop q2
  | false => rw [if_neg Bool.false_ne_true] at q2 ⊢; exact q2 _ H1 (S1.drop.pushF rfl)
theorem ed_or (h : ED X K W a fa) (h2 : ED X K W (.BoolOp .Or (b :: rest) pos) fb) : ED X K W (.BoolOp .Or (a :: b :: rest) pos) (eOr fa fb) := by
  obtain ⟨t, p, s⟩ := h.ex
  obtain ⟨u, p2, s2⟩ := h2.ex
  refine ⟨tOrV t u, (fun i => pe_or (p i) (p2 i)), fun fr ρ σ H Q S q => ?_⟩
  refine s fr ρ σ H _ S ((QR.bind q).mono fun d ρ1 q1 v H1 S1 => ?_)
  obtain ⟨k, e, q2⟩ := QR.lift (QR.bind q1)
  have := isB_eq e
  subst this
  have := S1.topF rfl
  subst this
  refine ⟨k, rfl, ?_⟩
  cases k with
  | true => rw [if_pos rfl] at q2 ⊢; exact q2 _ H1 (S1.drop.pushF rfl)
  | false => rw [if_neg Bool.false_ne_true] at q2 ⊢; exact s2 fr ρ1 σ H1 Q S1.drop q2
theorem ed_not (h : ED X K W a fa) : ED X K W (.UnaryOp .Not a pos) (eNot fa) := by
  obtain ⟨t, p, s⟩ := h.ex
  refine ⟨tNotV t, (fun i => pe_not (p i)), fun fr ρ σ H Q S q => ?_⟩
  refine s fr ρ σ H _ S ((QR.bind q).mono fun d ρ1 q1 v H1 S1 => ?_)
  obtain ⟨k, e, q2⟩ := QR.lift (QR.bind q1)
  have := isB_eq e
  subst this
  have := S1.topF rfl
  subst this
  exact ⟨k, rfl, q2 _ H1 (S1.drop.pushF rfl)⟩
theorem ed_if (hc : TD X K W c gc) (h : ED X K W a fa) (h2 : ED X K W b fb) : ED X K W (.IfExp c a b pos) (eIf gc fa fb) := by
  obtain ⟨tc, pc, sc⟩ := hc.ex
  obtain ⟨t, p, s⟩ := h.ex
  obtain ⟨u, p2, s2⟩ := h2.ex
  refine ⟨tIf tc t u, (fun i => pe_ifExp (pc i) (p i) (p2 i)), fun fr ρ σ H Q S q => ?_⟩
  refine sc fr ρ σ H _ S ((QR.bind q).mono fun k ρ1 q1 H1 S1 => ?_)
  cases k with
  | true => rw [if_pos rfl] at q1 ⊢; exact s fr ρ1 σ H1 Q S1 q1
  | false => rw [if_neg Bool.false_ne_true] at q1 ⊢; exact s2 fr ρ1 σ H1 Q S1 q1
/-! ### arguments -/
def aNil : M (List D) := mret []
def aCons (f : M D) (g : M (List D)) : M (List D) := mbind f fun d => mbind g fun ds => mret (d :: ds)
theorem ad_nil : AD X K W [] aNil := ⟨tNil, (fun _ => pa_nil), fun fr ρ σ H Q S q => q [] H rfl S⟩
theorem ad_cons {g : M (List D)} (h : ED X K W e f) (hr : AD X K W es g) (hs : ∀ i, starEach (e :: es) (X i).env = (false, eval e (X i).env) :: starEach es (X i).env := by intro _; rfl) : AD X K W (e :: es) (aCons f g) := by
  obtain ⟨t, p, s⟩ := h.ex
  obtain ⟨u, p2, s2⟩ := hr.ex
  refine ⟨tCons t u, (fun i => pa_cons (p i) (p2 i) (hs i)), fun fr ρ σ H Q S q => ?_⟩
  refine s fr ρ σ H _ S ((QR.bind q).mono fun d ρ1 q1 v H1 S1 => ?_)
  obtain ⟨fr', S', back⟩ := S1.hold
  refine s2 fr' ρ1 σ H1 _ S' (((QR.bind q1).frame fun ρ H s => (back ρ σ H s).drop).mono fun ds ρ2 q2 vs H2 hl S2 => ?_)
  exact q2 (v :: vs) H2 (by simp [hl]) (back _ _ H2 S2)
end
end DL

set_option Elab.async false
set_option linter.all false
set_option maxRecDepth 100000
set_option maxHeartbeats 4000000
namespace DL
open PySem PySem.Spec L2
variable {K : RC}
/-! ### sequences taken apart and made -/
theorem RepL.len {F H : Hp} : ∀ {ds : List D} {vs : List V} {A : List Addr}, RepL K F H ds vs A → vs.length = ds.length
  | [], vs, A, r => by rw [r.1]; rfl
  | d :: ds, vs, A, r => by
    obtain ⟨v, ws, B, C, rfl, rfl, r1, r2⟩ := r
    rw [List.length_cons, List.length_cons, r2.len]
theorem RepL.sl {F H : Hp} : ∀ {ds : List D} {vs : List V} {A : List Addr}, RepL K F H ds vs A → Sl K F H (ds.map some) (vs.map some) A
  | [], vs, A, r => by
    obtain ⟨rfl, rfl⟩ := r
    exact ⟨rfl, rfl⟩
  | d :: ds, vs, A, r => by
    obtain ⟨v, ws, B, C, rfl, rfl, r1, r2⟩ := r
    exact ⟨some v, ws.map some, B, C, rfl, rfl, ⟨v, rfl, r1⟩, r2.sl⟩
theorem Sl.repL {F H : Hp} : ∀ {ds : List D} {vs : List V} {A : List Addr}, Sl K F H (ds.map some) (vs.map some) A → RepL K F H ds vs A
  | [], vs, A, r => by
    obtain ⟨e, rfl⟩ := r
    cases vs with
    | nil => exact ⟨rfl, rfl⟩
    | cons v vs => cases e
  | d :: ds, vs, A, r => by
    obtain ⟨s, τ, B, C, e, rfl, ⟨v, rfl, r1⟩, r2⟩ := r
    cases vs with
    | nil => cases e
    | cons w vs =>
      have e : some w :: vs.map some = some v :: τ := e
      injection e with e1 e2
      injection e1 with e1
      subst e1 e2
      exact ⟨_, vs, B, C, rfl, rfl, r1, Sl.repL r2⟩
theorem RepL.app {F H : Hp} : ∀ {ds es : List D} {vs ws : List V} {A B : List Addr}, RepL K F H ds vs A → RepL K F H es ws B → RepL K F H (ds ++ es) (vs ++ ws) (A ++ B)
  | [], es, vs, ws, A, B, r, q => by
    obtain ⟨rfl, rfl⟩ := r
    exact q
  | d :: ds, es, vs, ws, A, B, r, q => by
    obtain ⟨v, us, B', C, rfl, rfl, r1, r2⟩ := r
    exact ⟨v, us ++ ws, B', C ++ B, rfl, by rw [List.append_assoc], r1, r2.app q⟩
section
variable {fr : Fr} {ρ : Env} {σ : L2.St} {H : Hp} {d : D} {v : V} {ds : List D} {vs : List V}
/-- the top data's own description -/
theorem Sim.top (S : Sim K fr (some d :: ρ) (some v :: σ) H) : ∃ F B, Rep K F H d v B ∧ (∀ a o, F a = some o → H a = some o) := by
  obtain ⟨A, S⟩ := S
  obtain ⟨s', τ, B, C, e, rfl, ⟨v', e1, r1⟩, r2⟩ := S.sl
  injection e with e2 e3
  subst e2
  cases e1
  exact ⟨_, B, r1, fun a o e => (hid_some.mp e).2⟩
/-- a list or tuple ahead, its items in its place -/
def items : D → Option (List D)
  | .tup ds => some ds
  | .lst _ ds => some ds
  | .scr ns => some (ns.map D.int)
  | _ => none
def isL : D → Bool
  | .lst _ _ => true
  | .scr _ => true
  | _ => false
theorem rep_ints {F H : Hp} : ∀ ns : List Int, RepL K F H (ns.map D.int) (ns.map V.int) []
  | [] => ⟨rfl, rfl⟩
  | n :: ns => ⟨.int n, ns.map V.int, [], [], rfl, rfl, ⟨rfl, rfl⟩, rep_ints ns⟩
theorem Sim.explode (S : Sim K fr (some d :: ρ) (some v :: σ) H) (e : items d = some ds) : ∃ p xs, v = .ref p ∧ xs.length = ds.length ∧ (if isL d = true then SqL K.K H p xs else SqT K.K H p xs) ∧
    ((∀ o es, d = .lst o es → H p = some (.lst xs)) ∧ Sim K fr (ds.map some ++ ρ) (xs.map some ++ σ) H) := by
  obtain ⟨A, S⟩ := S
  obtain ⟨s', τ, B, C, e0, rfl, ⟨v', e1, r1⟩, r2⟩ := S.sl
  injection e0 with e2 e3
  subst e2 e3
  cases e1
  have go : ∀ xs B', (∀ a ∈ B', a ∈ B) → B'.Nodup → RepL K (hid (B ++ C ++ fr.N) H) H ds xs B' → Sim K fr (ds.map some ++ ρ) (xs.map some ++ σ) H := fun xs B' hs hn r => by
    have nd := List.nodup_append.mp S.nd
    have sub : ∀ a ∈ B' ++ C, a ∈ B ++ C ∨ H a = none := fun a z => .inl (by
      rcases List.mem_append.mp z with z | z
      · exact List.mem_append_left _ (hs a z)
      · exact List.mem_append_right _ z)
    have f := S.fro sub (H' := H) fun a o _ e => e
    refine ⟨B' ++ C, S.next sub (List.nodup_append.mpr ⟨hn, nd.2.1, fun a ha b hb => nd.2.2 a (hs a ha) b hb⟩) (fun a o _ e => e) (Sl.app (r.sl.mono f fun a _ o e => e) (r2.mono f fun a _ o e => e))⟩
  have hH : ∀ a o, hid (B ++ C ++ fr.N) H a = some o → H a = some o := fun a o e => (hid_some.mp e).2
  cases d with
  | tup es =>
    cases e
    obtain ⟨rfl, a, xs, rfl, s, r⟩ := r1
    exact ⟨a, xs, rfl, r.len, SqT.mono hH s, (fun _ _ z => nomatch z), go xs [] (fun _ z => nomatch z) .nil r⟩
  | lst o es =>
    cases e
    cases o with
    | false =>
      obtain ⟨rfl, a, xs, rfl, s, r⟩ := r1
      exact ⟨a, xs, rfl, r.len, SqL.of (hH _ _ s), (fun _ _ _ => hH _ _ s), go xs [] (fun _ z => nomatch z) .nil r⟩
    | true =>
      obtain ⟨a, xs, B1, rfl, rfl, s, r⟩ := r1
      exact ⟨a, xs, rfl, r.len, SqL.of s, (fun _ _ _ => s), go xs B1 (fun b z => List.mem_cons_of_mem _ z) (List.nodup_append.mp S.nd).1.of_cons r⟩
  | scr ns =>
    cases e
    obtain ⟨rfl, a, rfl, s⟩ := r1
    exact ⟨a, _, rfl, by simp, SqL.mono hH s, (fun _ _ z => nomatch z), go _ [] (fun _ z => nomatch z) .nil (rep_ints ns)⟩
  | _ => cases e
theorem isTrueOf : True := trivial
theorem nodup_cons_fresh {A : List Addr} {p : Addr} {H : Hp} (nd : A.Nodup) (hp : H p = none) (tr : ∀ a ∈ A, ∃ o, H a = some o) : (p :: A).Nodup :=
  List.nodup_cons.mpr ⟨(fun z => by obtain ⟨o, e⟩ := tr p z; rw [hp] at e; cases e), nd⟩
/-- a new object of the items that lie ahead: a list of one's own -/
theorem Sim.newL {p : Addr} (S : Sim K fr (ds.map some ++ ρ) (vs.map some ++ σ) H) (hl : vs.length = ds.length) (hp : H p = none) : Sim K fr (some (.lst true ds) :: ρ) (some (.ref p) :: σ) (upd H p (.lst vs)) := by
  obtain ⟨A, S⟩ := S
  obtain ⟨A1, A2, rfl, q1, q2⟩ := Sl.cut (by simpa using hl) S.sl
  have tr := S.sl.tr
  have sub : ∀ a ∈ p :: (A1 ++ A2), a ∈ A1 ++ A2 ∨ H a = none := fun a z => by
    rcases List.mem_cons.mp z with z | z
    · subst z; exact .inr hp
    · exact .inl z
  have kp : ∀ a o, H a = some o → upd H p (.lst vs) a = some o := fun a o e => by rw [upd_ne (ne_of_none e hp)]; exact e
  have f := S.fro sub (H' := upd H p (.lst vs)) fun a o _ e => kp a o e
  exact ⟨p :: (A1 ++ A2), S.next sub (nodup_cons_fresh S.nd hp tr) (fun a o _ e => kp a o e) ⟨some (.ref p), σ, p :: A1, A2, rfl, rfl, ⟨.ref p, rfl, p, vs, A1, rfl, rfl, upd_same, (q1.repL).mono f _ _ _ fun a _ o e => kp a o e⟩, q2.mono f fun a _ o e => kp a o e⟩⟩
/-- a tuple: its items are frozen -/
theorem Sim.newT {p : Addr} (S : Sim K fr (ds.map some ++ ρ) (vs.map some ++ σ) H) (hl : vs.length = ds.length) (hp : H p = none) : Sim K fr (some (.tup (frzL ds)) :: ρ) (some (.ref p) :: σ) (upd H p (.tup vs)) := by
  obtain ⟨A, S⟩ := S
  obtain ⟨A1, A2, rfl, q1, q2⟩ := Sl.cut (by simpa using hl) S.sl
  have nd := List.nodup_append.mp S.nd
  have sub : ∀ a ∈ A2, a ∈ A1 ++ A2 ∨ H a = none := fun a z => .inl (List.mem_append_right _ z)
  have kp : ∀ a o, H a = some o → upd H p (.tup vs) a = some o := fun a o e => by rw [upd_ne (ne_of_none e hp)]; exact e
  have f := S.fro sub (H' := upd H p (.tup vs)) fun a o _ e => kp a o e
  have nin : ∀ a, a ∉ A2 → a ∉ fr.N → a ∉ A2 ++ fr.N := fun a h1 h2 z => (List.mem_append.mp z).elim h1 h2
  have r : RepL K (hid (A2 ++ fr.N) (upd H p (.tup vs))) H (frzL ds) vs [] := RepL.frz f ds vs A1 (fun a z o e => hid_some.mpr ⟨nin a (fun w => nd.2.2 a z a w rfl) (S.off a (List.mem_append_left _ z)).1, kp a o e⟩) q1.repL
  have pN : p ∉ A2 ++ fr.N := nin p (fun z => by obtain ⟨o, e⟩ := q2.tr p z; rw [hp] at e; cases e) fun z => by obtain ⟨o, e⟩ := S.tr p z; rw [S.keep p o e] at hp; cases hp
  exact ⟨A2, S.next sub nd.2.1 (fun a o _ e => kp a o e) ⟨some (.ref p), σ, [], A2, rfl, rfl, ⟨.ref p, rfl, rfl, p, vs, rfl, SqT.of (hid_some.mpr ⟨pN, upd_same⟩), RepL.mono (fun _ _ e => e) _ _ _ (fun _ z => nomatch z) r⟩, q2.mono f fun a _ o e => kp a o e⟩⟩
/-- the visible part of a frame -/
def VF (fr : Fr) : Hp := hid fr.N fr.G
theorem SimA.vf {A : List Addr} (S : SimA K fr ρ σ H A) : ∀ a o, VF fr a = some o → hid (A ++ fr.N) H a = some o := fun a o e => by
  obtain ⟨n, e⟩ := hid_some.mp e
  refine hid_some.mpr ⟨fun z => ?_, S.keep a o e⟩
  rcases List.mem_append.mp z with z | z
  · rw [(S.off a z).2] at e; cases e
  · exact n z
theorem Sim.vfH (S : Sim K fr ρ σ H) : ∀ a o, VF fr a = some o → H a = some o := fun a o e => let ⟨_, S⟩ := S; S.keep a o (hid_some.mp e).2
/-- what stands in the visible part is at hand -/
theorem Sim.pushG {H0 : Hp} (S : Sim K fr ρ σ H) (r : Rep K (VF fr) H0 d v []) : Sim K fr (some d :: ρ) (some v :: σ) H := by
  obtain ⟨A, S⟩ := S
  exact ⟨A, S.next (fun a z => .inl z) S.nd (fun a o _ e => e) ⟨some v, σ, [], A, rfl, rfl, ⟨v, rfl, Rep.mono S.vf d v [] (fun _ z => nomatch z) r⟩, S.sl⟩⟩
/-- a frozen thing held aside stands in the visible part -/
theorem Sim.holdF (S : Sim K fr (some d :: ρ) (some v :: σ) H) (hf : fro d = true) : ∃ fr', Sim K fr' ρ σ H ∧ Rep K (VF fr') H d v [] ∧ ∀ ρ' σ' H', Sim K fr' ρ' σ' H' → Sim K fr ρ' σ' H' := by
  obtain ⟨A, S⟩ := S
  obtain ⟨s', τ, B, C, e0, rfl, ⟨v', e1, r1⟩, r2⟩ := S.sl
  injection e0 with e2 e3
  subst e2 e3
  cases e1
  have := fro_rep hf r1
  subst this
  have T : SimA K fr ρ σ H C := ⟨r2, S.nd, S.off, S.keep, S.tr⟩
  refine ⟨⟨hid C H, fr.N⟩, ⟨C, r2, S.nd, fun a z => ⟨(S.off a z).1, by show hid C H a = none; unfold hid; rw [if_pos z]⟩, fun a o e => (hid_some.mp e).2, fun a z => ?_⟩, ?_, ?_⟩
  · obtain ⟨o, e⟩ := S.tr a z
    exact ⟨o, hid_some.mpr ⟨fun w => (S.off a w).1 z, S.keep a o e⟩⟩
  · refine Rep.mono (fun a o e => ?_) d _ [] (fun _ z => nomatch z) r1
    obtain ⟨n, e⟩ := hid_some.mp e
    exact hid_some.mpr ⟨fun z => n (List.mem_append_right _ z), hid_some.mpr ⟨fun z => n (List.mem_append_left _ z), e⟩⟩
  · rintro ρ' σ' H' ⟨A', U⟩
    refine ⟨A', U.sl, U.nd, fun a z => ⟨(U.off a z).1, ?_⟩, fun a o e => ?_, S.tr⟩
    · cases g : fr.G a with
      | none => rfl
      | some o =>
        have q : hid C H a = none := (U.off a z).2
        have nC : a ∉ C := fun w => by rw [(S.off a w).2] at g; cases g
        rw [show hid C H a = some o from hid_some.mpr ⟨nC, S.keep a o g⟩] at q
        cases q
    · have nC : a ∉ C := fun w => by rw [(S.off a w).2] at e; cases e
      exact U.keep a o (hid_some.mpr ⟨nC, S.keep a o e⟩)
end
/-! ### statements -/
inductive RS where
  | nx (ρ : Env)
  | ret (d : D) (ρ : Env)
  | brk (ρ : Env)
  | cnt (ρ : Env)
  | exc (c : Str) (fs : List (Str × D)) (ρ : Env)
  | stuck
abbrev SF := Env → RS
def KeepS (pr : List Nat) (σ0 σ : L2.St) : Prop := ∀ j ∈ pr, σ[j]? = σ0[j]?
theorem KeepS.refl {pr : List Nat} {σ : L2.St} : KeepS pr σ σ := fun _ _ => rfl
theorem KeepS.trans {pr : List Nat} {σ0 σ1 σ2 : L2.St} (a : KeepS pr σ0 σ1) (b : KeepS pr σ1 σ2) : KeepS pr σ0 σ2 := fun j h => (b j h).trans (a j h)
theorem KeepS.set {pr : List Nat} {σ : L2.St} {i : Nat} {s : Option V} (h : i ∉ pr) : KeepS pr σ (σ.set i s) := fun j hj => by
  rw [List.getElem?_set_ne]
  intro e
  subst e
  exact h hj
def QS (K : RC) (W : WX) (pr : List Nat) (fr : Fr) (σ0 : L2.St) (r : RS) (Dn : Ends) : Prop := match r with
  | .nx ρ => ∀ σ H, KeepS pr σ0 σ → Sim K fr ρ σ H → Dn.nx σ H
  | .ret d ρ => ∀ v σ H, KeepS pr σ0 σ → Sim K fr (some d :: ρ) (some v :: σ) H → Dn.rt v H
  | .brk ρ => ∀ σ H, KeepS pr σ0 σ → Sim K fr ρ σ H → Dn.bk σ H
  | .cnt ρ => ∀ σ H, KeepS pr σ0 σ → Sim K fr ρ σ H → Dn.ct σ H
  | .exc c fs ρ => ∀ cls dd σ H, KeepS pr σ0 σ → ExcR K.mg c fs cls dd H → Sim K fr ρ σ H → W cls dd σ H
  | .stuck => False
structure SD {ι : Type} (X : ι → Cx) (K : RC) (W : WX) (pr : List Nat) (st : Stmt) (F : SF) : Prop where
  ex : ∃ t, (∀ i, PS (X i) st t) ∧ ∀ fr ρ σ H Dn, Sim K fr ρ σ H → QS K W pr fr σ (F ρ) Dn → t Dn σ H
structure SDs {ι : Type} (X : ι → Cx) (K : RC) (W : WX) (pr : List Nat) (sts : List Stmt) (F : SF) : Prop where
  ex : ∃ t, (∀ i, PSs (X i) sts t) ∧ ∀ fr ρ σ H Dn, Sim K fr ρ σ H → QS K W pr fr σ (F ρ) Dn → t Dn σ H
/-- later entry: what is kept from there is kept from here -/
theorem QS.from {K : RC} {W : WX} {pr : List Nat} {fr : Fr} {σ0 σ : L2.St} {r : RS} {Dn : Ends} (k : KeepS pr σ0 σ) (q : QS K W pr fr σ0 r Dn) : QS K W pr fr σ r Dn := by
  cases r with
  | nx ρ => exact fun σ' H k' s => q σ' H (k.trans k') s
  | ret d ρ => exact fun v σ' H k' s => q v σ' H (k.trans k') s
  | brk ρ => exact fun σ' H k' s => q σ' H (k.trans k') s
  | cnt ρ => exact fun σ' H k' s => q σ' H (k.trans k') s
  | exc c fs ρ => exact fun cls dd σ' H k' x s => q cls dd σ' H (k.trans k') x s
  | stuck => exact q
theorem QS.frame {K : RC} {W : WX} {pr : List Nat} {fr fr' : Fr} {σ0 : L2.St} {r : RS} {Dn : Ends} (q : QS K W pr fr σ0 r Dn) (k : ∀ ρ σ H, Sim K fr' ρ σ H → Sim K fr ρ σ H) : QS K W pr fr' σ0 r Dn := by
  cases r with
  | nx ρ => exact fun σ' H k' s => q σ' H k' (k _ _ _ s)
  | ret d ρ => exact fun v σ' H k' s => q v σ' H k' (k _ _ _ s)
  | brk ρ => exact fun σ' H k' s => q σ' H k' (k _ _ _ s)
  | cnt ρ => exact fun σ' H k' s => q σ' H k' (k _ _ _ s)
  | exc c fs ρ => exact fun cls dd σ' H k' x s => q cls dd σ' H k' x (k _ _ _ s)
  | stuck => exact q
/-- an expression, then a statement's rest -/
def sE {α : Type} (m : M α) (f : α → SF) : SF := fun ρ => match m ρ with
  | .ok a ρ' => f a ρ'
  | .exc c fs ρ' => .exc c fs ρ'
  | .stuck => .stuck
theorem QS.ofE {α : Type} {K : RC} {W : WX} {pr : List Nat} {fr : Fr} {σ : L2.St} {m : M α} {f : α → SF} {ρ : Env} {Dn : Ends} (q : QS K W pr fr σ (sE m f ρ) Dn) : QR K W fr σ (m ρ) fun a ρ' => QS K W pr fr σ (f a ρ') Dn := by
  unfold sE at q
  cases e : m ρ with
  | ok a ρ' => rw [e] at q; exact q
  | exc c fs ρ' => rw [e] at q; exact fun cls dd H x s => q cls dd σ H .refl x s
  | stuck => rw [e] at q; exact q
def sNext : SF := fun ρ => .nx ρ
def sSeq (f g : SF) : SF := fun ρ => match f ρ with
  | .nx ρ' => g ρ'
  | r => r
def sIf (c : M Bool) (f g : SF) : SF := sE c fun b => if b = true then f else g
def sRet (f : M D) : SF := sE f fun d ρ => .ret d ρ
def sRetN : SF := fun ρ => .ret .non ρ
def sDrop (f : M D) : SF := sE f fun _ ρ => .nx ρ
def sBrk : SF := fun ρ => .brk ρ
def sCnt : SF := fun ρ => .cnt ρ
section
variable {ι : Type} {X : ι → Cx} {K : RC} {W : WX} {pr : List Nat} {st : Stmt} {sts : List Stmt} {F G : SF} {e : Expr} {f : M D} {pos : Pos}
theorem ss_nil : SDs X K W pr [] sNext := ⟨tNext, (fun _ => pss_nil), fun fr ρ σ H Dn S q => q σ H .refl S⟩
theorem ss_one (h : SD X K W pr st F) : SDs X K W pr [st] F := by
  obtain ⟨t, p, s⟩ := h.ex
  exact ⟨t, (fun i => pss_one (p i)), s⟩
theorem ss_cons (h : SD X K W pr st F) (h2 : SDs X K W pr sts G) : SDs X K W pr (st :: sts) (sSeq F G) := by
  obtain ⟨t, p, s⟩ := h.ex
  obtain ⟨u, p2, s2⟩ := h2.ex
  refine ⟨tSeq t u, (fun i => pss_cons (p i) (p2 i)), fun fr ρ σ H Dn S q => s fr ρ σ H _ S ?_⟩
  unfold sSeq at q
  cases e : F ρ with
  | nx ρ' =>
    rw [e] at q
    exact fun σ' H' k S' => s2 fr ρ' σ' H' Dn S' (q.from k)
  | ret d ρ' => rw [e] at q; exact q
  | brk ρ' => rw [e] at q; exact q
  | cnt ρ' => rw [e] at q; exact q
  | exc c fs ρ' => rw [e] at q; exact q
  | stuck => rw [e] at q; exact q
theorem sd_pass : SD X K W pr (.Pass pos) sNext := ⟨tNext, (fun _ => ps_pass), fun fr ρ σ H Dn S q => q σ H .refl S⟩
theorem sd_brk : SD X K W pr (.Break pos) sBrk := ⟨tBreak, (fun _ => ps_break), fun fr ρ σ H Dn S q => q σ H .refl S⟩
theorem sd_cnt : SD X K W pr (.Continue pos) sCnt := ⟨tCont, (fun _ => ps_continue), fun fr ρ σ H Dn S q => q σ H .refl S⟩
theorem sd_doc {x j pos'} : SD X K W pr (.Expr (.Constant (.str x) j pos) pos') sNext := ⟨tNext, (fun _ => ps_doc), fun fr ρ σ H Dn S q => q σ H .refl S⟩
theorem sd_expr (h : ED X K W e f) (hs : ∀ i, swapsWith e none pos.line (X i).env = pure false := by intro _; rfl) : SD X K W pr (.Expr e pos) (sDrop f) := by
  obtain ⟨t, p, s⟩ := h.ex
  exact ⟨tDrop t, (fun i => ps_expr (p i) (hs i)), fun fr ρ σ H Dn S q => s fr ρ σ H _ S (q.ofE.mono fun d ρ' q' v H' S' => q' σ H' .refl S'.drop)⟩
theorem sd_ret (h : ED X K W e f) : SD X K W pr (.Return (some e) pos) (sRet f) := by
  obtain ⟨t, p, s⟩ := h.ex
  exact ⟨tRet t, (fun i => ps_ret (p i)), fun fr ρ σ H Dn S q => s fr ρ σ H _ S (q.ofE.mono fun d ρ' q' v H' S' => q' v σ H' .refl S')⟩
theorem sd_retN : SD X K W pr (.Return none pos) sRetN := ⟨tRetN, (fun _ => ps_retN), fun fr ρ σ H Dn S q => q .non σ H .refl (S.pushF rfl)⟩
theorem sd_if {c : Expr} {gc : M Bool} {a b : List Stmt} (hc : TD X K W c gc) (h : SDs X K W pr a F) (h2 : SDs X K W pr b G) : SD X K W pr (.If c a b pos) (sIf gc F G) := by
  obtain ⟨tc, pc, sc⟩ := hc.ex
  obtain ⟨t, p, s⟩ := h.ex
  obtain ⟨u, p2, s2⟩ := h2.ex
  refine ⟨tIfS tc t u, (fun i => ps_if (pc i) (p i) (p2 i)), fun fr ρ σ H Dn S q => sc fr ρ σ H _ S (q.ofE.mono fun k ρ1 q1 H1 S1 => ?_)⟩
  cases k with
  | true => rw [if_pos rfl] at q1 ⊢; exact s fr ρ1 σ H1 Dn S1 q1
  | false => rw [if_neg Bool.false_ne_true] at q1 ⊢; exact s2 fr ρ1 σ H1 Dn S1 q1
/-! targets: what is to be stored lies ahead -/
structure GD {ι : Type} (X : ι → Cx) (K : RC) (pr : List Nat) (tg : Expr) (g : D → Env → Option Env) : Prop where
  ex : ∃ t, (∀ i, PG (X i) tg t) ∧ ∀ fr ρ σ H d v ρ' Q, Sim K fr (some d :: ρ) (some v :: σ) H → g d ρ = some ρ' → (∀ σ' H', KeepS pr σ σ' → Sim K fr ρ' σ' H' → Q σ' H') → t v σ H Q
  len : ∀ d ρ ρ', g d ρ = some ρ' → ρ'.length = ρ.length
def gSet (i : Nat) : D → Env → Option Env := fun d ρ => if i < ρ.length then some (ρ.set i (some d)) else none
theorem gd_name {i : Nat} {x : Str} (h : ∀ j, PG (X j) (.Name x pos) (gName i)) (hp : i ∉ pr := by decide) : GD X K pr (.Name x pos) (gSet i) := ⟨⟨gName i, h, fun fr ρ σ H d v ρ' Q S e q => by
  unfold gSet at e
  by_cases hi : i < ρ.length
  · rw [if_pos hi] at e
    cases e
    exact q _ H (KeepS.set hp) (S.store hi)
  · rw [if_neg hi] at e
    cases e⟩, fun d ρ ρ' e => by
  unfold gSet at e
  by_cases hi : i < ρ.length
  · rw [if_pos hi] at e
    cases e
    exact List.length_set
  · rw [if_neg hi] at e
    cases e⟩
/-- several -/
structure GDs {ι : Type} (X : ι → Cx) (K : RC) (pr : List Nat) (tgs : List Expr) (g : List D → Env → Option Env) : Prop where
  ex : ∃ t, (∀ i, PGs (X i) tgs t) ∧ ∀ fr ρ σ H ds vs ρ' Q, vs.length = ds.length → Sim K fr (ds.map some ++ ρ) (vs.map some ++ σ) H → g ds ρ = some ρ' → (∀ σ' H', KeepS pr σ σ' → Sim K fr ρ' σ' H' → Q σ' H') → t vs σ H Q
  len : ∀ ds ρ ρ', g ds ρ = some ρ' → ρ'.length = ρ.length
def gsNil : List D → Env → Option Env := fun ds ρ => if ds.isEmpty = true then some ρ else none
def gsCons (g : D → Env → Option Env) (r : List D → Env → Option Env) : List D → Env → Option Env := fun ds ρ => match ds with
  | [] => none
  | d :: ds => (g d ρ).bind fun ρ' => r ds ρ'
theorem gds_nil : GDs X K pr [] gsNil := ⟨⟨gNil, (fun _ => pgs_nil), fun fr ρ σ H ds vs ρ' Q hl S e q => by
  cases ds with
  | nil =>
    cases vs with
    | nil =>
      cases e
      exact ⟨rfl, q σ H .refl S⟩
    | cons v vs => cases hl
  | cons d ds => cases e⟩, fun ds ρ ρ' e => by
  cases ds with
  | nil => cases e; rfl
  | cons d ds => cases e⟩
theorem gds_cons {tg : Expr} {tgs : List Expr} {g : D → Env → Option Env} {r : List D → Env → Option Env} (h : GD X K pr tg g) (h2 : GDs X K pr tgs r) (hs : ∀ i, (assignEach (tg :: tgs) (X i).env).map (·.2) = assign tg (X i).env :: (assignEach tgs (X i).env).map (·.2) := by intro _; rfl) : GDs X K pr (tg :: tgs) (gsCons g r) := by
  obtain ⟨t, p, s⟩ := h.ex
  obtain ⟨u, p2, s2⟩ := h2.ex
  refine ⟨⟨gCons t u, (fun i => pgs_cons (p i) (p2 i) (hs i)), fun fr ρ σ H ds vs ρ' Q hl S e q => ?_⟩, fun ds ρ ρ' e => ?_⟩
  rotate_left
  · cases ds with
    | nil => cases e
    | cons d ds =>
      unfold gsCons at e
      cases e1 : g d ρ with
      | none => simp [e1] at e
      | some ρ1 =>
        simp [e1] at e
        rw [h2.len _ _ _ e, h.len _ _ _ e1]
  cases ds with
  | nil => cases e
  | cons d ds =>
    cases vs with
    | nil => cases hl
    | cons v vs =>
      refine ⟨v, vs, rfl, ?_⟩
      have hl' : vs.length = ds.length := by simpa using hl
      unfold gsCons at e
      cases e1 : g d ρ with
      | none => simp [e1] at e
      | some ρ1 =>
        simp [e1] at e
        -- d stays, the others are held
        have S' : Sim K fr ([some d] ++ (ds.map some ++ ρ)) ([some v] ++ (vs.map some ++ σ)) H := S
        have S1 := Sim.swap (ρ1 := [some d]) (σ1 := [some v]) rfl S'
        rw [List.append_assoc, List.append_assoc] at S1
        obtain ⟨fr', S2, back⟩ := Sim.holdN (by simpa using hl') S1
        have S3 := Sim.swap (ρ1 := ρ) (ρ2 := [some d]) (by have := S2.len; simpa using this) S2
        refine s fr' ρ σ H d v ρ1 _ S3 e1 fun σ1 H1 k1 S4 => ?_
        have S5 := back _ _ _ S4
        exact s2 fr ρ1 σ1 H1 ds vs ρ' Q hl' S5 e fun σ2 H2 k2 S6 => q σ2 H2 (k1.trans k2) S6
def gTupD (n : Nat) (r : List D → Env → Option Env) : D → Env → Option Env := fun d ρ => match d with
  | .tup ds => if ds.length = n then r ds ρ else none
  | _ => none
theorem gd_tup {tgs : List Expr} {k : Nat} {r : List D → Env → Option Env} {t : TGs} {n : Nat} (hp : ∀ i t, PGs (X i) tgs t → PG (X i) (.Tuple tgs k pos) (gTup K.K n t)) (h : GDs X K pr tgs r) : GD X K pr (.Tuple tgs k pos) (gTupD n r) := by
  obtain ⟨u, p, s⟩ := h.ex
  refine ⟨⟨gTup K.K n u, (fun i => hp i u (p i)), fun fr ρ σ H d v ρ' Q S e q => ?_⟩, fun d ρ ρ' e => ?_⟩
  rotate_left
  · cases d with
    | tup ds =>
      unfold gTupD at e
      by_cases hn : ds.length = n
      · simp [hn] at e
        exact h.len _ _ _ e
      · simp [hn] at e
    | _ => cases e
  cases d with
  | tup ds =>
    unfold gTupD at e
    by_cases hn : ds.length = n
    · simp [hn] at e
      obtain ⟨a, xs, rfl, hl, ht, _, S1⟩ := S.explode (ds := ds) rfl
      exact ⟨a, xs, rfl, ht, by rw [hl, hn], s fr ρ σ H ds xs ρ' Q hl S1 e q⟩
    · simp [hn] at e
  | _ => cases e
def sAsg (f : M D) (g : D → Env → Option Env) : SF := sE f fun d ρ => match g d ρ with
  | some ρ' => .nx ρ'
  | none => .stuck
theorem sd_asg {tg : Expr} {g : D → Env → Option Env} (hp : ∀ i te tg', PE (X i) e te → PG (X i) tg tg' → PS (X i) (.Assign [tg] e pos) (tAsg te tg')) (h : ED X K W e f) (hg : GD X K pr tg g) : SD X K W pr (.Assign [tg] e pos) (sAsg f g) := by
  obtain ⟨t, p, s⟩ := h.ex
  obtain ⟨u, p2, s2⟩ := hg.ex
  refine ⟨tAsg t u, (fun i => hp i t u (p i) (p2 i)), fun fr ρ σ H Dn S q => s fr ρ σ H _ S (q.ofE.mono fun d ρ1 q1 v H1 S1 => ?_)⟩
  cases e1 : g d ρ1 with
  | none => rw [e1] at q1; exact q1.elim
  | some ρ2 =>
    rw [e1] at q1
    exact s2 fr ρ1 σ H1 d v ρ2 _ S1 e1 q1
/-- the variable in a slot is frozen from here on (nothing runs) -/
def frzAt (i : Nat) (ρ : Env) : Env := match ρ[i]? with
  | some (some d) => ρ.set i (some (frz d))
  | _ => ρ
def sFrz (i : Nat) (F : SF) : SF := fun ρ => F (frzAt i ρ)
theorem set_set_ {α : Type} : ∀ {l : List α} {i : Nat} {x y : α}, (l.set i x).set i y = l.set i y
  | [], _, _, _ => rfl
  | a :: l, 0, x, y => rfl
  | a :: l, i + 1, x, y => by
    show a :: (l.set i x).set i y = a :: l.set i y
    rw [set_set_]
theorem Sim.frzAt {K : RC} {fr : Fr} {ρ : Env} {σ : L2.St} {H : Hp} {i : Nat} (S : Sim K fr ρ σ H) : Sim K fr (DL.frzAt i ρ) σ H := by
  unfold DL.frzAt
  cases e : ρ[i]? with
  | none => exact S
  | some o => cases o with
    | none => exact S
    | some d =>
      obtain ⟨v, e1, S1⟩ := S.move e
      have z := S1.frz.back e1
      rw [set_set_] at z
      exact z
theorem ss_frz {i : Nat} (h : SDs X K W pr sts F) : SDs X K W pr sts (sFrz i F) := by
  obtain ⟨t, p, s⟩ := h.ex
  exact ⟨t, p, fun fr ρ σ H Dn S q => s fr (frzAt i ρ) σ H Dn S.frzAt q⟩
end
end DL

set_option Elab.async false
set_option linter.all false
set_option maxRecDepth 100000
set_option maxHeartbeats 4000000
namespace DL
open PySem PySem.Spec L2
/-! ### while -/
def whileN (c : M Bool) (b : SF) : Nat → SF
  | 0 => fun _ => .stuck
  | n + 1 => sE c fun k => if k = true then (fun ρ => match b ρ with
      | .nx ρ' => whileN c b n ρ'
      | .cnt ρ' => whileN c b n ρ'
      | .brk ρ' => .nx ρ'
      | r => r) else sNext
open Classical in
noncomputable def sWhile (c : M Bool) (b : SF) : SF := fun ρ => if h : ∃ n, whileN c b n ρ ≠ .stuck then whileN c b h.choose ρ else .stuck
theorem whileN_mono (c : M Bool) (b : SF) : ∀ (n m : Nat) (ρ : Env), n ≤ m → whileN c b n ρ ≠ .stuck → whileN c b m ρ = whileN c b n ρ
  | 0, _, _, _, h => absurd rfl h
  | n + 1, 0, _, hm, _ => absurd hm (by omega)
  | n + 1, m + 1, ρ, hm, h => by
    unfold whileN sE at h ⊢
    cases e : c ρ with
    | stuck => rfl
    | exc x y z => rfl
    | ok k ρ1 =>
      rw [e] at h
      simp only at h ⊢
      cases k with
      | false => rfl
      | true =>
        rw [if_pos rfl] at h ⊢
        rw [if_pos rfl]
        cases e2 : b ρ1 with
        | nx ρ2 => rw [e2] at h; exact whileN_mono c b n m ρ2 (by omega) h
        | cnt ρ2 => rw [e2] at h; exact whileN_mono c b n m ρ2 (by omega) h
        | _ => rfl
theorem sWhile_of {c : M Bool} {b : SF} {n : Nat} {ρ : Env} {r : RS} (h : whileN c b n ρ = r) (hr : r ≠ .stuck) : sWhile c b ρ = r := by
  have ex : ∃ n, whileN c b n ρ ≠ .stuck := ⟨n, by rw [h]; exact hr⟩
  unfold sWhile
  rw [dif_pos ex]
  have h1 := ex.choose_spec
  rcases Nat.le_total n ex.choose with q | q
  · rw [whileN_mono c b n _ ρ q (by rw [h]; exact hr), h]
  · rw [← whileN_mono c b _ n ρ q h1, h]
theorem sWhile_eq (c : M Bool) (b : SF) (ρ : Env) : sWhile c b ρ = sE c (fun k => if k = true then (fun ρ => match b ρ with
      | .nx ρ' => sWhile c b ρ'
      | .cnt ρ' => sWhile c b ρ'
      | .brk ρ' => .nx ρ'
      | r => r) else sNext) ρ := by
  unfold sE
  have one : ∀ n, whileN c b (n + 1) ρ = sE c (fun k => if k = true then (fun ρ => match b ρ with
      | .nx ρ' => whileN c b n ρ'
      | .cnt ρ' => whileN c b n ρ'
      | .brk ρ' => .nx ρ'
      | r => r) else sNext) ρ := fun n => rfl
  have stuckOf : ∀ ρ', (∀ n, whileN c b n ρ' = .stuck) → sWhile c b ρ' = .stuck := fun ρ' hs => by
    unfold sWhile
    rw [dif_neg]
    rintro ⟨n, h⟩
    exact h (hs n)
  have tail : ∀ ρ2, (∀ n, whileN c b (n + 1) ρ = whileN c b n ρ2) → sWhile c b ρ = sWhile c b ρ2 := fun ρ2 hs => by
    by_cases h : ∃ n, whileN c b n ρ2 ≠ .stuck
    · obtain ⟨n, h⟩ := h
      rw [sWhile_of rfl h, sWhile_of (hs n) h]
    · have h2 : ∀ n, whileN c b n ρ2 = .stuck := fun n => Classical.byContradiction fun q => h ⟨n, q⟩
      rw [stuckOf ρ2 h2]
      refine stuckOf ρ fun n => ?_
      cases n with
      | zero => rfl
      | succ n => rw [hs n, h2 n]
  have done : ∀ r, whileN c b 1 ρ = r → r ≠ .stuck → sWhile c b ρ = r := fun r h hr => sWhile_of h hr
  cases e : c ρ with
  | stuck =>
    refine stuckOf ρ fun n => ?_
    cases n with
    | zero => rfl
    | succ n => rw [one n]; unfold sE; rw [e]
  | exc x y z =>
    refine done _ ?_ (fun q => nomatch q)
    rw [one 0]; unfold sE; rw [e]
  | ok k ρ1 =>
    cases k with
    | false =>
      refine done _ ?_ (fun q => nomatch q)
      rw [one 0]; unfold sE; rw [e]; rfl
    | true =>
      simp only [if_true]
      have u : ∀ n, whileN c b (n + 1) ρ = (match b ρ1 with
        | .nx ρ' => whileN c b n ρ'
        | .cnt ρ' => whileN c b n ρ'
        | .brk ρ' => .nx ρ'
        | r => r) := fun n => by rw [one n]; unfold sE; rw [e]; rfl
      cases e2 : b ρ1 with
      | nx ρ2 => exact tail ρ2 fun n => by rw [u n, e2]
      | cnt ρ2 => exact tail ρ2 fun n => by rw [u n, e2]
      | brk ρ2 => exact done _ (by rw [u 0, e2]) (fun q => nomatch q)
      | ret d ρ2 => exact done _ (by rw [u 0, e2]) (fun q => nomatch q)
      | exc x y z => exact done _ (by rw [u 0, e2]) (fun q => nomatch q)
      | stuck =>
        refine stuckOf ρ fun n => ?_
        cases n with
        | zero => rfl
        | succ n => rw [u n, e2]
section
variable {ι : Type} {X : ι → Cx} {K : RC} {W : WX} {pr : List Nat} {F G : SF} {e : Expr} {f : M D} {pos : Pos}
theorem sd_while {c : Expr} {gc : M Bool} {body : List Stmt} (hp : ∀ i, PassesOwn (model (X i).prog (X i).w) (X i).A (X i).env (X i).xe) (hc : TD X K W c gc) (hb : SDs X K W pr body F) : SD X K W pr (.While c body [] pos) (sWhile gc F) := by
  obtain ⟨tc, pc, sc⟩ := hc.ex
  obtain ⟨t, p, s⟩ := hb.ex
  refine ⟨tWhile tc t, (fun i => ps_while (hp i) (pc i) (p i)), fun fr ρ σ H Dn S q => ?_⟩
  have ex : ∃ n, QS K W pr fr σ (whileN gc F n ρ) Dn := by
    unfold sWhile at q
    by_cases h : ∃ n, whileN gc F n ρ ≠ .stuck
    · rw [dif_pos h] at q; exact ⟨_, q⟩
    · rw [dif_neg h] at q; exact q.elim
  obtain ⟨n0, q0⟩ := ex
  refine ⟨fun m σ1 H1 => ∃ ρ1, Sim K fr ρ1 σ1 H1 ∧ QS K W pr fr σ1 (whileN gc F m ρ1) Dn, ⟨n0, ρ, S, q0⟩, ?_⟩
  rintro m σ1 H1 ⟨ρ1, S1, q1⟩
  cases m with
  | zero => exact q1.elim
  | succ m =>
    refine sc fr ρ1 σ1 H1 _ S1 ((QS.ofE q1).mono fun k ρ2 q2 H2 S2 => ?_)
    cases k with
    | false =>
      rw [if_neg Bool.false_ne_true] at q2 ⊢
      exact q2 σ1 H2 .refl S2
    | true =>
      rw [if_pos rfl] at q2 ⊢
      refine ⟨fun σ' H' => ∃ ρ', Sim K fr ρ' σ' H' ∧ QS K W pr fr σ' (whileN gc F m ρ') Dn, fun σ' H' h => ⟨m, by omega, h⟩, ?_⟩
      refine s fr ρ2 σ1 H2 _ S2 ?_
      cases e2 : F ρ2 with
      | nx ρ3 =>
        rw [e2] at q2
        exact fun σ3 H3 k3 S3 => ⟨ρ3, S3, QS.from k3 q2⟩
      | cnt ρ3 =>
        rw [e2] at q2
        exact fun σ3 H3 k3 S3 => ⟨ρ3, S3, QS.from k3 q2⟩
      | brk ρ3 => rw [e2] at q2; exact fun σ3 H3 k3 S3 => q2 σ3 H3 k3 S3
      | ret d ρ3 => rw [e2] at q2; exact q2
      | exc x y z => rw [e2] at q2; exact q2
      | stuck => rw [e2] at q2; exact q2.elim
/-! ### for -/
/-- the walk J yields the data ds under the frame fr -/
structure Yields (K : RC) (J : It) (fr : Fr) (ds : List D) : Prop where
  go : ∀ i H ρ σ, Sim K fr ρ σ H → i < ds.length → J.go i H
  stop : ∀ i H ρ σ, Sim K fr ρ σ H → ds.length ≤ i → J.stop i H
  yld : ∀ i H x H' ρ σ d, Sim K fr ρ σ H → ds[i]? = some d → J.yld i H x H' → Sim K fr (some d :: ρ) (some x :: σ) H'
structure ID {ι : Type} (X : ι → Cx) (K : RC) (W : WX) (tg iter : Expr) (f : M (List D)) : Prop where
  ex : ∃ wi, (∀ i, PI (X i) tg iter wi) ∧ ∀ fr ρ σ H R, Sim K fr ρ σ H → QR K W fr σ (f ρ) (fun ds ρ' => ∀ J H1 fr1, Sim K fr1 ρ' σ H1 → (∀ ρ σ H, Sim K fr1 ρ σ H → Sim K fr ρ σ H) → Yields K J fr1 ds → R J H1) → wi σ H R
def forGo (g : D → Env → Option Env) (b : SF) : List D → SF
  | [] => fun ρ => .nx ρ
  | d :: ds => fun ρ => match g d ρ with
    | none => .stuck
    | some ρ1 => match b ρ1 with
      | .nx ρ' => forGo g b ds ρ'
      | .cnt ρ' => forGo g b ds ρ'
      | .brk ρ' => .nx ρ'
      | r => r
def sFor (f : M (List D)) (g : D → Env → Option Env) (b : SF) : SF := sE f fun ds => forGo g b ds
theorem drop_get {α : Type} {l : List α} {i : Nat} {d : α} (h : l[i]? = some d) : l.drop i = d :: l.drop (i + 1) := by
  obtain ⟨hi, e⟩ := List.getElem?_eq_some_iff.mp h
  rw [List.drop_eq_getElem_cons hi, e]
theorem sd_for {tg iter : Expr} {body : List Stmt} {fi : M (List D)} {g : D → Env → Option Env} (hp : ∀ i, PassesOwn (model (X i).prog (X i).w) (X i).A (X i).env (X i).xe) (hc : ∀ i, (X i).calm = true) (hi : ID X K W tg iter fi) (hg : GD X K pr tg g) (hb : SDs X K W pr body F)
    (hs : ∀ i x, foldedSetIterable iter (X i).env x = pure x := by intro _ _; rfl) : SD X K W pr (.For tg iter body [] pos) (sFor fi g F) := by
  obtain ⟨wi, pi, si⟩ := hi.ex
  obtain ⟨u, p2, s2⟩ := hg.ex
  obtain ⟨t, p, s⟩ := hb.ex
  refine ⟨tFor wi u t, (fun i => ps_for (hp i) (hc i) (pi i) (p2 i) (p i) (hs i)), fun fr ρ σ H Dn S q => ?_⟩
  refine si fr ρ σ H _ S ((QS.ofE q).mono fun ds ρ1 q1 J H1 fr1 S1 back Y => ?_)
  refine ⟨fun i m σ2 H2 => ∃ ρ2, i + m = ds.length ∧ Sim K fr1 ρ2 σ2 H2 ∧ QS K W pr fr1 σ2 (forGo g F (ds.drop i) ρ2) Dn, ⟨ds.length, ρ1, by omega, S1, q1.frame back⟩, ?_⟩
  rintro i m σ2 H2 ⟨ρ2, hm, S2, q2⟩
  by_cases hlt : i < ds.length
  · refine .inr ⟨Y.go i H2 ρ2 σ2 S2 hlt, fun σ' H' => ∃ ρ', i + 1 + (m - 1) = ds.length ∧ Sim K fr1 ρ' σ' H' ∧ QS K W pr fr1 σ' (forGo g F (ds.drop (i + 1)) ρ') Dn, fun σ' H' h => ⟨m - 1, by omega, h⟩, fun x H' hy => ?_⟩
    have hd : ds[i]? = some ds[i] := List.getElem?_eq_getElem hlt
    have S3 := Y.yld i H2 x H' ρ2 σ2 ds[i] S2 hd hy
    rw [drop_get hd] at q2
    unfold forGo at q2
    cases e1 : g ds[i] ρ2 with
    | none => rw [e1] at q2; exact q2.elim
    | some ρ3 =>
      rw [e1] at q2
      refine s2 fr1 ρ2 σ2 H' ds[i] x ρ3 _ S3 e1 fun σ4 H4 k4 S4 => ?_
      refine s fr1 ρ3 σ4 H4 _ S4 ?_
      simp only at q2
      cases e2 : F ρ3 with
      | nx ρ5 =>
        rw [e2] at q2
        exact fun σ5 H5 k5 S5 => ⟨ρ5, by omega, S5, QS.from (k4.trans k5) q2⟩
      | cnt ρ5 =>
        rw [e2] at q2
        exact fun σ5 H5 k5 S5 => ⟨ρ5, by omega, S5, QS.from (k4.trans k5) q2⟩
      | brk ρ5 => rw [e2] at q2; exact fun σ5 H5 k5 S5 => q2 σ5 H5 (k4.trans k5) S5
      | ret d ρ5 => rw [e2] at q2; exact fun v σ5 H5 k5 S5 => q2 v σ5 H5 (k4.trans k5) S5
      | exc x y z => rw [e2] at q2; exact fun cls dd σ5 H5 k5 xx S5 => q2 cls dd σ5 H5 (k4.trans k5) xx S5
      | stuck => rw [e2] at q2; exact q2.elim
  · refine .inl ⟨Y.stop i H2 ρ2 σ2 S2 (by omega), ?_⟩
    rw [List.drop_eq_nil_of_le (by omega)] at q2
    exact q2 σ2 H2 .refl S2
/-! ### comprehensions -/
def wipeE (ρ : Env) : List Nat → Env
  | [] => ρ
  | v :: vs => (wipeE ρ vs).set v none
theorem Sim.wiped {K : RC} {fr : Fr} {ρ : Env} {σ : L2.St} {H : Hp} (S : Sim K fr ρ σ H) : ∀ vs : List Nat, Sim K fr (wipeE ρ vs) (wipe σ vs) H
  | [] => S
  | v :: vs => (Sim.wiped S vs).clear none
theorem wipeE_none : ∀ {vs : List Nat} {ρ : Env} {i : Nat}, i ∈ vs → i < ρ.length → (wipeE ρ vs)[i]? = some none
  | [], _, _, h, _ => by cases h
  | v :: vs, ρ, i, h, hl => by
    have wl : ∀ vs : List Nat, (wipeE ρ vs).length = ρ.length := fun vs => by
      induction vs with
      | nil => rfl
      | cons w ws ih => show ((wipeE ρ ws).set w none).length = _; rw [List.length_set, ih]
    show ((wipeE ρ vs).set v none)[i]? = some none
    by_cases e : v = i
    · subst e
      rw [List.getElem?_set_self (by rw [wl]; exact hl)]
    · rw [List.getElem?_set_ne e]
      rcases List.mem_cons.mp h with z | z
      · exact absurd z.symm e
      · exact wipeE_none z hl
/-- empty slots may hold anything -/
theorem Sl.any {K : RC} {F H : Hp} : ∀ {ρ : Env} {σ τ : L2.St} {A : List Addr}, Sl K F H ρ σ A → τ.length = σ.length → (∀ i : Nat, ρ[i]? ≠ some none → τ[i]? = σ[i]?) → Sl K F H ρ τ A
  | [], σ, τ, A, r, hl, _ => by
    obtain ⟨rfl, rfl⟩ := r
    exact ⟨List.length_eq_zero_iff.mp hl, rfl⟩
  | x :: ρ, σ, τ, A, r, hl, h => by
    obtain ⟨s, σ', B, C, rfl, rfl, r1, r2⟩ := r
    cases τ with
    | nil => cases hl
    | cons t τ =>
      have r2' := Sl.any (τ := τ) r2 (by simpa using hl) fun i hi => by simpa using h (i + 1) (by simpa using hi)
      refine ⟨t, τ, B, C, rfl, rfl, ?_, r2'⟩
      cases x with
      | none => exact r1
      | some d =>
        have z := h 0 (by simp)
        have z : some t = some s := by simpa using z
        cases z
        exact r1
theorem wipe_get : ∀ {vs : List Nat} {σ : L2.St} {i : Nat}, i ∉ vs → (wipe σ vs)[i]? = σ[i]?
  | [], _, _, _ => rfl
  | v :: vs, σ, i, h => by
    show ((wipe σ vs).set v none)[i]? = _
    rw [List.getElem?_set_ne (fun e => h (by simp [e])), wipe_get (fun z => h (List.mem_cons_of_mem _ z))]
theorem Sim.unwipe {K : RC} {fr : Fr} {ρ : Env} {σ : L2.St} {H : Hp} {vs : List Nat} (S : Sim K fr (wipeE ρ vs) (wipe σ vs) H) : Sim K fr (wipeE ρ vs) σ H := by
  obtain ⟨A, S⟩ := S
  have hl := S.sl.len
  have wl : (wipeE ρ vs).length = ρ.length := by
    clear hl S
    induction vs with
    | nil => rfl
    | cons w ws ih => show ((wipeE ρ ws).set w none).length = _; rw [List.length_set, ih]
  have hl2 : σ.length = ρ.length := by rw [← wl, ← hl, wipe_length]
  refine ⟨A, S.sl.any (by rw [wipe_length]) fun i hi => ?_, S.nd, S.off, S.keep, S.tr⟩
  by_cases h : i ∈ vs
  · by_cases hl3 : i < ρ.length
    · exact absurd (wipeE_none h hl3) hi
    · rw [List.getElem?_eq_none (by omega), List.getElem?_eq_none (by rw [wipe_length]; omega)]
  · exact (wipe_get h).symm
theorem wipe_eq {pr vs : List Nat} {σ σ' : L2.St} (k : KeepS pr σ σ') (hl : σ'.length = σ.length) (hp : ∀ j, j < σ.length → j ∉ vs → j ∈ pr) : wipe σ' vs = wipe σ vs := by
  refine List.ext_getElem? fun i => ?_
  have gs : ∀ (σ : L2.St) (vs : List Nat) (i : Nat), i ∈ vs → i < σ.length → (wipe σ vs)[i]? = some none := fun σ vs i h hl => by
    induction vs with
    | nil => cases h
    | cons v vs ih =>
      show ((wipe σ vs).set v none)[i]? = some none
      by_cases e : v = i
      · subst e
        rw [List.getElem?_set_self (by rw [wipe_length]; exact hl)]
      · rw [List.getElem?_set_ne e]
        rcases List.mem_cons.mp h with z | z
        · exact absurd z.symm e
        · exact ih z
  by_cases hi : i < σ.length
  · by_cases h : i ∈ vs
    · rw [gs σ' vs i h (by omega), gs σ vs i h hi]
    · rw [wipe_get h, wipe_get h]
      exact k i (hp i hi h)
  · rw [List.getElem?_eq_none (by rw [wipe_length]; omega), List.getElem?_eq_none (by rw [wipe_length]; omega)]
/-- one more item at the end of the list ahead -/
theorem Sim.append {K : RC} {fr : Fr} {ρ : Env} {σ : L2.St} {H : Hp} {ds : List D} {d : D} {p : Addr} {v : V} (S : Sim K fr (some (.lst true ds) :: some d :: ρ) (some (.ref p) :: some v :: σ) H) :
    ∃ xs, H p = some (.lst xs) ∧ xs.length = ds.length ∧ Sim K fr (some (.lst true (ds ++ [d])) :: ρ) (some (.ref p) :: σ) (upd H p (.lst (xs ++ [v]))) := by
  obtain ⟨A, S⟩ := S
  obtain ⟨s1, τ1, B1, C1, e1, rfl, ⟨v1, ev, r1⟩, r2⟩ := S.sl
  injection e1 with e1 e2
  subst e1 e2
  cases ev
  obtain ⟨s2, τ2, B2, C2, e3, rfl, ⟨v2, ev, r3⟩, r4⟩ := r2
  injection e3 with e3 e4
  subst e3 e4
  cases ev
  obtain ⟨a, xs, B, ea, rfl, hx, r1⟩ := r1
  cases ea
  refine ⟨xs, hx, r1.len, p :: (B ++ B2) ++ C2, ?_⟩
  have sub : ∀ a ∈ p :: (B ++ B2) ++ C2, a ∈ p :: B ++ (B2 ++ C2) ∨ H a = none := fun a z => .inl (by simpa [List.append_assoc] using z)
  have nd : (p :: (B ++ B2) ++ C2).Nodup := by
    have := S.nd
    simpa [List.append_assoc] using this
  have pn : p ∉ B ++ (B2 ++ C2) := by
    have := S.nd
    rw [List.cons_append] at this
    exact (List.nodup_cons.mp this).1
  have kp : ∀ a o, a ≠ p → H a = some o → upd H p (.lst (xs ++ [v])) a = some o := fun a o n e => by rw [upd_ne n]; exact e
  have kpA : ∀ a o, a ∉ p :: B ++ (B2 ++ C2) → H a = some o → upd H p (.lst (xs ++ [v])) a = some o := fun a o n e => kp a o (fun z => n (by simp [z])) e
  have f := S.fro sub (H' := upd H p (.lst (xs ++ [v]))) kpA
  have ne : ∀ a, a ∈ B ++ (B2 ++ C2) → a ≠ p := fun a z e => pn (e ▸ z)
  refine S.next sub nd kpA ⟨some (.ref p), _, p :: (B ++ B2), C2, rfl, rfl, ⟨.ref p, rfl, p, xs ++ [v], B ++ B2, rfl, rfl, upd_same, ?_⟩, r4.mono f fun a z o e => kp a o (ne a (by simp [z])) e⟩
  refine RepL.app (RepL.mono f _ _ _ (fun a z o e => kp a o (ne a (by simp [z])) e) r1) ?_
  exact ⟨v, [], B2, [], rfl, by simp, Rep.mono f _ _ _ (fun a z o e => kp a o (ne a (by simp [z])) e) r3, rfl, rfl⟩
def noX {α : Type} (r : Res α) : Res α := match r with
  | .exc _ _ _ => .stuck
  | r => r
def lcGo (g : D → Env → Option Env) (tt : M Bool) (te : M D) (vs : List Nat) : List D → M (List D)
  | [] => fun ρ => .ok [] (wipeE ρ vs)
  | d :: ds => fun ρ => match g d (wipeE ρ vs) with
    | none => .stuck
    | some ρ1 => mbind tt (fun b => if b = true then mbind te fun y => mbind (lcGo g tt te vs ds) fun ys => mret (y :: ys) else lcGo g tt te vs ds) ρ1
def eLc (fi : M (List D)) (g : D → Env → Option Env) (tt : M Bool) (te : M D) (vs : List Nat) : M D := mbind fi fun ds ρ => if ds.length < sizeLine then noX (mbind (lcGo g tt te vs ds) (fun ys => mret (.lst true ys)) ρ) else .stuck
abbrev W0 : WX := fun _ _ _ _ => False
end
end DL

set_option Elab.async false
set_option linter.all false
set_option maxRecDepth 100000
set_option maxHeartbeats 4000000
namespace DL
open PySem PySem.Spec L2
section
variable {K : RC} {fr : Fr} {ρ : Env} {σ : L2.St} {H : Hp}
theorem Sim.xch {x y : Option D} {s t : Option V} (S : Sim K fr (x :: y :: ρ) (s :: t :: σ) H) : Sim K fr (y :: x :: ρ) (t :: s :: σ) H := by
  obtain ⟨A, T⟩ := S
  obtain ⟨s1, τ1, B1, C1, e1, rfl, r1, r2⟩ := T.sl
  injection e1 with e1 e2
  subst e1 e2
  obtain ⟨s2, τ2, B2, C2, e3, rfl, r3, r4⟩ := r2
  injection e3 with e3 e4
  subst e3 e4
  have sub : ∀ q ∈ B2 ++ (B1 ++ C2), q ∈ B1 ++ (B2 ++ C2) ∨ H q = none := fun q z => .inl (by
    simp only [List.mem_append] at z ⊢
    rcases z with z | z | z
    · exact .inr (.inl z)
    · exact .inl z
    · exact .inr (.inr z))
  have g := T.fro sub (H' := H) fun a o _ e => e
  exact ⟨_, T.next sub (perm_nodup T.nd) (fun a o _ e => e) ⟨t, s :: σ, B2, B1 ++ C2, rfl, rfl, r3.mono g fun a _ o e => e, s, σ, B1, C2, rfl, rfl, r1.mono g fun a _ o e => e, r4.mono g fun a _ o e => e⟩⟩
theorem Sim.wiped1 {x : Option D} {s : Option V} (S : Sim K fr (x :: ρ) (s :: σ) H) (vs : List Nat) : Sim K fr (x :: wipeE ρ vs) (s :: wipe σ vs) H := by
  obtain ⟨fr', S', back⟩ := S.hold
  exact back _ _ _ (S'.wiped vs)
theorem Sim.unwipe1 {x : Option D} {s : Option V} {vs : List Nat} (S : Sim K fr (x :: wipeE ρ vs) (s :: wipe σ vs) H) : Sim K fr (x :: wipeE ρ vs) (s :: σ) H := by
  obtain ⟨fr', S', back⟩ := S.hold
  exact back _ _ _ S'.unwipe
theorem wipeE_len (ρ : Env) : ∀ vs : List Nat, (wipeE ρ vs).length = ρ.length
  | [] => rfl
  | v :: vs => by show ((wipeE ρ vs).set v none).length = _; rw [List.length_set, wipeE_len ρ vs]
end
abbrev blkF {ι : Type} (X : ι → Cx) (scope : Scope) : (ι × Shared × Hp × Addr × List (Str × Addr) × List Addr) → Cx := fun j => (X j.1).blk j.2.1 j.2.2.1 scope (compEnvC scope j.2.2.2.2.1 j.2.2.2.1 (X j.1).env) j.2.2.2.2.2
/-- a comprehension's tests -/
structure LD {ι : Type} (X : ι → Cx) (K : RC) (ifs : List Expr) (f : M Bool) : Prop where
  ex : ∃ t, (∀ i, PTs (X i) ifs t) ∧ ∀ fr ρ σ H Q, Sim K fr ρ σ H → QT K W0 fr σ (f ρ) Q → t σ H Q
def mYes : M Bool := mret true
def prOf (L : Nat) (vs : List Nat) : List Nat := (List.range L).filter fun j => !vs.contains j
theorem mem_prOf {L : Nat} {vs : List Nat} {j : Nat} (h : j < L) (n : j ∉ vs) : j ∈ prOf L vs := by
  unfold prOf
  rw [List.mem_filter]
  exact ⟨List.mem_range.mpr h, by simpa using n⟩
def eLcL (L : Nat) (fi : M (List D)) (g : D → Env → Option Env) (tt : M Bool) (te : M D) (vs : List Nat) : M D := mbind fi fun ds ρ => if ds.length < sizeLine ∧ ρ.length = L then noX (mbind (lcGo g tt te vs ds) (fun ys => mret (.lst true ys)) ρ) else .stuck
theorem noX_ok {α : Type} {r : Res α} {K : RC} {W : WX} {fr : Fr} {σ : L2.St} {p : α → Env → Prop} (h : QR K W fr σ (noX r) p) : ∃ a ρ, r = .ok a ρ ∧ p a ρ := by
  cases r with
  | ok a ρ => exact ⟨a, ρ, rfl, h⟩
  | exc c fs ρ => exact h.elim
  | stuck => exact h.elim
theorem mbind_ok {α β : Type} {m : M α} {f : α → M β} {ρ ρ' : Env} {b : β} (h : mbind m f ρ = .ok b ρ') : ∃ a ρ1, m ρ = .ok a ρ1 ∧ f a ρ1 = .ok b ρ' := by
  unfold mbind at h
  cases e : m ρ with
  | ok a ρ1 => rw [e] at h; exact ⟨a, ρ1, rfl, h⟩
  | exc c fs ρ1 => rw [e] at h; cases h
  | stuck => rw [e] at h; cases h
section
variable {ι : Type} {X : ι → Cx} {K : RC} {W : WX}
theorem ld_nil {κ : Type} {Y : κ → Cx} : LD Y K [] mYes := ⟨tYes, (fun _ => pts_nil), fun fr ρ σ H Q S q => q H S⟩
theorem ld_one {κ : Type} {Y : κ → Cx} {c : Expr} {f : M Bool} (h : TD Y K W0 c f) : LD Y K [c] f := by
  obtain ⟨t, p, s⟩ := h.ex
  exact ⟨t, (fun i => pts_one (p i)), s⟩
theorem lc_parts {elt tg iter : Expr} {ifs : List Expr} {scope : Scope} {vs : List Nat} {fi : M (List D)} {g : D → Env → Option Env} {gt : M Bool} {fe : M D} (L : Nat) (hc : ∀ i, (X i).calm = true) (hN : ∀ i, (X i).N.Nodup)
    (hi : ID X K W tg iter fi) (hg : GD (blkF X scope) K (prOf L vs) tg g) (ht : LD (blkF X scope) K ifs gt) (he : ED (blkF X scope) K W0 elt fe) :
    ∃ wi u tt te, (∀ i, PI (X i) tg iter wi) ∧ (∀ j, PG (blkF X scope j) tg u) ∧ (∀ j, PTs (blkF X scope j) ifs tt) ∧ (∀ j, PE (blkF X scope j) elt te) ∧ ∀ fr ρ σ H Q, Sim K fr ρ σ H → QE K W fr σ (eLcL L fi g gt fe vs ρ) Q → tLc wi u tt te vs σ H Q := by
  obtain ⟨wi, pi, si⟩ := hi.ex
  obtain ⟨u, p2, s2⟩ := hg.ex
  obtain ⟨tt, p3, s3⟩ := ht.ex
  obtain ⟨te, p4, s4⟩ := he.ex
  refine ⟨wi, u, tt, te, pi, p2, p3, p4, fun fr ρ σ H Q S q => ?_⟩
  refine si fr ρ σ H _ S ((QR.bind q).mono fun ds ρ1 q1 J H1 fr1 S1 back Y => ?_)
  by_cases hz : ds.length < sizeLine ∧ ρ1.length = L
  · simp only [hz, and_self, if_true] at q1
    obtain ⟨dl, ρe, e, q2⟩ := noX_ok q1
    obtain ⟨ys, ρe', e2, e3⟩ := mbind_ok e
    cases e3
    intro Dd hD
    have S0 : Sim K fr1 (some (.lst true []) :: ρ1) (some (.ref Dd) :: σ) (upd H1 Dd (.lst [])) := Sim.newL (ds := []) (vs := []) S1 rfl hD
    refine ⟨fun i m H2 => ∃ acc ρ2 ys ρe, i + m = ds.length ∧ acc.length ≤ i ∧ ρ2.length = L ∧ Sim K fr1 (some (.lst true acc) :: wipeE ρ2 vs) (some (.ref Dd) :: wipe σ vs) H2 ∧ lcGo g gt fe vs (ds.drop i) ρ2 = .ok ys ρe ∧
      ∀ v H, Sim K fr1 (some (.lst true (acc ++ ys)) :: ρe) (some v :: σ) H → Q v H, ⟨ds.length, [], ρ1, ys, _, by omega, Nat.le_refl _, hz.2, S0.wiped1 vs, e2, fun v H S => q2 v H (back _ _ _ S)⟩, ?_⟩
    rintro i m H2 ⟨acc, ρ2, ys, ρe, hm, ha, hL, S2, el, fin⟩
    by_cases hlt : i < ds.length
    · refine .inr ⟨Y.go i H2 _ _ S2 hlt, fun H' => ∃ acc ρ2 ys ρe, i + 1 + (m - 1) = ds.length ∧ acc.length ≤ i + 1 ∧ ρ2.length = L ∧ Sim K fr1 (some (.lst true acc) :: wipeE ρ2 vs) (some (.ref Dd) :: wipe σ vs) H' ∧ lcGo g gt fe vs (ds.drop (i + 1)) ρ2 = .ok ys ρe ∧
        ∀ v H, Sim K fr1 (some (.lst true (acc ++ ys)) :: ρe) (some v :: σ) H → Q v H, fun H' h => ⟨m - 1, by omega, h⟩, fun x H' hy => ?_⟩
      have hd : ds[i]? = some ds[i] := List.getElem?_eq_getElem hlt
      have S3 := (Y.yld i H2 x H' _ _ ds[i] S2 hd hy).xch
      obtain ⟨fr2, S4, back2⟩ := S3.hold
      rw [drop_get hd] at el
      unfold lcGo at el
      cases e1 : g ds[i] (wipeE ρ2 vs) with
      | none => rw [e1] at el; cases el
      | some ρ3 =>
        rw [e1] at el
        obtain ⟨b, ρ5, et, el⟩ := mbind_ok el
        have l3 : ρ3.length = L := by rw [hg.len _ _ _ e1, wipeE_len, hL]
        refine s2 fr2 (wipeE ρ2 vs) (wipe σ vs) H' ds[i] x ρ3 _ S4 e1 fun σ4 H4 k4 S5 => ?_
        have l4 : σ4.length = L := by rw [S5.len, l3]
        have lσ : σ.length = L := by
          have := S4.drop.len
          rw [wipe_length, wipeE_len, hL] at this
          exact this
        have hw : wipe σ4 vs = wipe σ vs := by
          rw [wipe_eq k4 (by rw [wipe_length, l4, lσ]) fun j hj hn => mem_prOf (by rw [wipe_length, lσ] at hj; exact hj) hn]
          have idem : ∀ (vs' : List Nat), (∀ j ∈ vs', j ∈ vs) → wipe (wipe σ vs) vs' = wipe σ vs := fun vs' => by
            induction vs' with
            | nil => exact fun _ => rfl
            | cons w ws ih =>
              intro h
              show (wipe (wipe σ vs) ws).set w none = _
              rw [ih fun j hj => h j (List.mem_cons_of_mem _ hj)]
              by_cases hwl : w < (wipe σ vs).length
              · refine set_self ?_
                have gs : ∀ (vs : List Nat) (i : Nat), i ∈ vs → i < σ.length → (wipe σ vs)[i]? = some none := fun vs i h hl => by
                  induction vs with
                  | nil => cases h
                  | cons v vs ih =>
                    show ((wipe σ vs).set v none)[i]? = some none
                    by_cases e : v = i
                    · subst e
                      rw [List.getElem?_set_self (by rw [wipe_length]; exact hl)]
                    · rw [List.getElem?_set_ne e]
                      rcases List.mem_cons.mp h with z | z
                      · exact absurd z.symm e
                      · exact ih z
                exact gs vs w (h w List.mem_cons_self) (by rw [wipe_length] at hwl; exact hwl)
              · exact List.set_eq_of_length_le (by omega)
          exact idem vs fun _ h => h
        refine ⟨hw, s3 fr2 ρ3 σ4 H4 _ S5 ?_⟩
        rw [et]
        show ∀ H, Sim K fr2 ρ5 σ4 H → _
        intro H5 S6
        have l5 : ρ5.length = L := by rw [← S6.len, l4]
        cases b with
        | false =>
          rw [if_neg Bool.false_ne_true] at el ⊢
          have S7 := (back2 _ _ _ S6).wiped1 vs
          rw [hw] at S7
          exact ⟨acc, ρ5, ys, ρe, by omega, by omega, l5, S7, el, fin⟩
        | true =>
          rw [if_pos rfl] at el ⊢
          obtain ⟨y, ρ6, ey, el⟩ := mbind_ok el
          obtain ⟨ys', ρ7, er, el⟩ := mbind_ok el
          cases el
          refine s4 fr2 ρ5 σ4 H5 _ S6 ?_
          rw [ey]
          show ∀ v H, Sim K fr2 (some y :: ρ6) (some v :: σ4) H → _
          intro v H6 S7
          have S8 := back2 _ _ _ S7
          obtain ⟨xs, hx, hl, S9⟩ := S8.append
          have l6 : ρ6.length = L := by
            have := S7.drop.len
            rw [← this, l4]
          refine ⟨xs, hx, by omega, acc ++ [y], ρ6, ys', ρe, by omega, by simp; omega, l6, ?_, er, ?_⟩
          · have := S9.wiped1 vs
            rw [hw] at this
            exact this
          · intro v H S
            exact fin v H (by simpa [List.append_assoc] using S)
    · rw [List.drop_eq_nil_of_le (by omega)] at el
      cases el
      refine .inl ⟨Y.stop i H2 _ _ S2 (by omega), fin _ _ ?_⟩
      rw [List.append_nil]
      exact S2.unwipe1
  · simp only [hz, if_false] at q1
    exact q1.elim
theorem ed_lc {elt tg iter : Expr} {ifs : List Expr} {scope : Scope} {own : List (Str × Nat)} {pos : Pos} {fi : M (List D)} {g : D → Env → Option Env} {gt : M Bool} {fe : M D} (L : Nat) (hc : ∀ i, (X i).calm = true) (hN : ∀ i, (X i).N.Nodup)
    (hi : ID X K W tg iter fi) (ok : ∀ i, BlkOk (X i).N (X i).env.scope scope own) (hg : GD (blkF X scope) K (prOf L (own.map (·.2))) tg g) (ht : LD (blkF X scope) K ifs gt) (he : ED (blkF X scope) K W0 elt fe)
    (hs : ∀ i x, foldedSetIterable iter (X i).env x = pure x := by intro _ _; rfl) : ED X K W (.ListComp elt [⟨tg, iter, ifs, 0⟩] scope pos) (eLcL L fi g gt fe (own.map (·.2))) := by
  obtain ⟨wi, u, tt, te, pi, p2, p3, p4, sm⟩ := lc_parts L hc hN hi hg ht he
  exact ⟨tLc wi u tt te (own.map (·.2)), (fun i => pe_lc (hc i) (hN i) (pi i) (ok i) (fun s H C cl fp => p2 (i, s, H, C, cl, fp)) (fun s H C cl fp => p3 (i, s, H, C, cl, fp)) (fun s H C cl fp => p4 (i, s, H, C, cl, fp)) (hs i)), sm⟩
/-- y = [..], y a local: stored within the comprehension's frame -/
theorem sd_setLc {elt tg iter : Expr} {ifs : List Expr} {scope : Scope} {own : List (Str × Nat)} {y : Str} {py pos spos : Pos} {pr : List Nat} {fi : M (List D)} {g : D → Env → Option Env} {gt : M Bool} {fe : M D} {i : Nat} (L : Nat) (hc : ∀ i, (X i).calm = true) (hN : ∀ i, (X i).N.Nodup)
    (hy : ∀ j, (X j).N[i]? = some y) (hyl : ∀ j, (X j).env.scope.names.lookup y = some .local) (hk : ∀ j, (X j).env.scope.kind = .function) (hl : (py.line == pos.line) = true) (ha : (scope.names.any fun (n, k) => n == y && (k == .local || k == .cell)) = false) (hp : i ∉ pr)
    (hi : ID X K W tg iter fi) (ok : ∀ i, BlkOk (X i).N (X i).env.scope scope own) (hg : GD (blkF X scope) K (prOf L (own.map (·.2))) tg g) (ht : LD (blkF X scope) K ifs gt) (he : ED (blkF X scope) K W0 elt fe)
    (hs : ∀ i x, foldedSetIterable iter (X i).env x = pure x := by intro _ _; rfl) : SD X K W pr (.Assign [.Name y py] (.ListComp elt [⟨tg, iter, ifs, 0⟩] scope pos) spos) (sAsg (eLcL L fi g gt fe (own.map (·.2))) (gSet i)) := by
  obtain ⟨wi, u, tt, te, pi, p2, p3, p4, sm⟩ := lc_parts L hc hN hi hg ht he
  refine ⟨tAsg (tLc wi u tt te (own.map (·.2))) (gName i), (fun j => ps_setLc (hc j) (hN j) (hy j) (hyl j) (sw_true (hk j) (hyl j) hl ha) (pi j) (ok j) (fun s H C cl fp => p2 (j, s, H, C, cl, fp)) (fun s H C cl fp => p3 (j, s, H, C, cl, fp)) (fun s H C cl fp => p4 (j, s, H, C, cl, fp)) (hs j)), fun fr ρ σ H Dn S q => ?_⟩
  show tLc wi u tt te (own.map (·.2)) σ H (fun x H1 => gName i x σ H1 Dn.nx)
  refine sm fr ρ σ H _ S (q.ofE.mono fun d ρ1 q1 v H1 S1 => ?_)
  unfold gSet at q1
  by_cases hi : i < ρ1.length
  · rw [if_pos hi] at q1
    exact q1 _ H1 (KeepS.set hp) (S1.store hi)
  · rw [if_neg hi] at q1
    exact q1.elim
theorem sd_setLcF {elt tg iter : Expr} {ifs : List Expr} {scope : Scope} {own : List (Str × Nat)} {y : Str} {py pos spos : Pos} {pr : List Nat} {fi : M (List D)} {g : D → Env → Option Env} {gt : M Bool} {fe : M D} {i : Nat} (L : Nat) (hc : ∀ i, (X i).calm = true) (hN : ∀ i, (X i).N.Nodup)
    (hy : ∀ j, (X j).N[i]? = some y) (hyl : ∀ j, (X j).env.scope.names.lookup y = some .local) (hk : ∀ j, (X j).env.scope.kind = .function) (hl : (py.line == pos.line) = true) (ha : (scope.names.any fun (n, k) => n == y && (k == .local || k == .cell)) = false) (hp : i ∉ pr)
    (hi : ID X K W tg iter fi) (ok : ∀ i, BlkOk (X i).N (X i).env.scope scope own) (hg : GD (blkF X scope) K (prOf L (own.map (·.2))) tg g) (ht : LD (blkF X scope) K ifs gt) (he : ED (blkF X scope) K W0 elt fe)
    (hs : ∀ i x, foldedSetIterable iter (X i).env x = pure x := by intro _ _; rfl) : SD X K W pr (.Assign [.Name y py] (.ListComp elt [⟨tg, iter, ifs, 0⟩] scope pos) spos) (sAsg (eFrz (eLcL L fi g gt fe (own.map (·.2)))) (gSet i)) := by
  obtain ⟨wi, u, tt, te, pi, p2, p3, p4, sm⟩ := lc_parts L hc hN hi hg ht he
  refine ⟨tAsg (tLc wi u tt te (own.map (·.2))) (gName i), (fun j => ps_setLc (hc j) (hN j) (hy j) (hyl j) (sw_true (hk j) (hyl j) hl ha) (pi j) (ok j) (fun s H C cl fp => p2 (j, s, H, C, cl, fp)) (fun s H C cl fp => p3 (j, s, H, C, cl, fp)) (fun s H C cl fp => p4 (j, s, H, C, cl, fp)) (hs j)), fun fr ρ σ H Dn S q => ?_⟩
  show tLc wi u tt te (own.map (·.2)) σ H (fun x H1 => gName i x σ H1 Dn.nx)
  refine sm fr ρ σ H _ S (q.ofE.bind.mono fun d ρ1 q1 v H1 S1 => ?_)
  have q1 : QS K W pr fr σ (match gSet i (frz d) ρ1 with | some ρ' => .nx ρ' | none => .stuck) Dn := q1
  unfold gSet at q1
  by_cases hi : i < ρ1.length
  · rw [if_pos hi] at q1
    exact q1 _ H1 (KeepS.set hp) (S1.frz.store hi)
  · rw [if_neg hi] at q1
    exact q1.elim
end
end DL

set_option Elab.async false
set_option linter.all false
set_option maxRecDepth 100000
set_option maxHeartbeats 4000000
namespace DL
open PySem PySem.Spec L2
/-! ### what a def promises -/
def outs (pr : List Nat) (n : Nat) (ρ : Env) : Env := (wipeE ρ ((List.range n).filter fun j => !pr.contains j)).take n
def spD (K : RC) (n : Nat) (F : List D → Res D) : Sp := fun vs H Q E => ∃ fr ds, vs.length = n ∧ ds.length = n ∧ Sim K fr (ds.map some) (vs.map some) H ∧ match F ds with
  | .ok d os => ∀ v H', Sim K fr (some d :: os) (some v :: vs.map some) H' → Q v H'
  | .exc c fs os => ∀ cls dd H', ExcR K.mg c fs cls dd H' → Sim K fr os (vs.map some) H' → E cls dd H'
  | .stuck => False
def runS (pr : List Nat) (n L : Nat) (b : SF) (ds : List D) : Res D := match b (ds.map some ++ List.replicate (L - ds.length) none) with
  | .nx ρ => if n ≤ ρ.length then .ok .non (outs pr n ρ) else .stuck
  | .ret d ρ => if n ≤ ρ.length then .ok d (outs pr n ρ) else .stuck
  | .exc c fs ρ => if n ≤ ρ.length then .exc c fs (outs pr n ρ) else .stuck
  | _ => .stuck
section
variable {K : RC} {fr : Fr} {ρ : Env} {σ : L2.St} {H : Hp}
theorem Sim.none_end (S : Sim K fr ρ σ H) (m : Nat) : Sim K fr (ρ ++ List.replicate m none) (σ ++ List.replicate m none) H := by
  obtain ⟨A, S⟩ := S
  have r : ∀ m, Sl K (hid (A ++ fr.N) H) H (List.replicate m none) (List.replicate m none) [] := fun m => by
    induction m with
    | zero => exact ⟨rfl, rfl⟩
    | succ m ih => exact ⟨none, _, [], [], rfl, rfl, rfl, ih⟩
  have z := Sl.app S.sl (r m)
  rw [List.append_nil] at z
  exact ⟨A, z, S.nd, S.off, S.keep, S.tr⟩
theorem Sim.any {τ : L2.St} (S : Sim K fr ρ σ H) (hl : τ.length = σ.length) (h : ∀ i : Nat, ρ[i]? ≠ some none → τ[i]? = σ[i]?) : Sim K fr ρ τ H := by
  obtain ⟨A, S⟩ := S
  exact ⟨A, S.sl.any hl h, S.nd, S.off, S.keep, S.tr⟩
theorem Sim.takeN (S : Sim K fr ρ σ H) (n : Nat) : Sim K fr (ρ.take n) (σ.take n) H := by
  have S' : Sim K fr (ρ.take n ++ ρ.drop n) (σ.take n ++ σ.drop n) H := by rw [List.take_append_drop, List.take_append_drop]; exact S
  have hl : (σ.take n).length = (ρ.take n).length := by rw [List.length_take, List.length_take, S.len]
  exact (S'.swap hl).dropN (by rw [List.length_drop, List.length_drop, S.len])
theorem Sim.outs {pr : List Nat} {n : Nat} {vs : List V} {m : Nat} (S : Sim K fr ρ σ H) (hn : vs.length = n) (k : KeepS pr (vs.map some ++ List.replicate m none) σ) (hl : n ≤ ρ.length) : Sim K fr (DL.outs pr n ρ) (vs.map some) H := by
  unfold DL.outs
  have S1 := (S.wiped ((List.range n).filter fun j => !pr.contains j)).takeN n
  refine S1.any (by rw [List.length_map, List.length_take, wipe_length, S.len, hn]; omega) fun i hi => ?_
  by_cases h : i < n
  · rw [List.getElem?_take_of_lt h] at hi
    by_cases hp : i ∈ pr
    · rw [List.getElem?_take_of_lt h, wipe_get (fun z => by
        have := (List.mem_filter.mp z).2
        simp [hp] at this), k i hp, List.getElem?_append_left (by rw [List.length_map]; omega)]
    · exact absurd (wipeE_none (List.mem_filter.mpr ⟨List.mem_range.mpr h, by simp [hp]⟩) (by omega)) hi
  · rw [List.getElem?_eq_none (by rw [List.length_map]; omega), List.getElem?_eq_none (by rw [List.length_take]; omega)]
end
section
variable {P : Program} {w : World} {K : PySem.W.Frag} {mg : Str → Option Value} {base : Heap}
/-- THE RULE for a def -/
theorem fnok_of {x qual : Str} {params : Arguments} {body : List Stmt} {scope : Scope} {dvs : List V} {kws : List (Str × V)} {f : Addr} {fd : FuncData} {N ps : List Str} {k : Nat} {pr : List Nat} {b : SF}
    (F : FunD K x qual params body scope dvs kws f fd) (S : FnScope N ps scope)
    (hb : ∀ (cdv : Value) (A : Around) (outer : List PySem.Env) (s : Shared) (H : Hp) (E : XK), Room k (A.deeper (PyProof.Rows.envOfC qual scope s.heap.objs.size f cdv)) →
      SDs (fun _ : Unit => cxOf (L2.CX P w) P w K mg base N qual scope f cdv A outer s H E) ⟨K, mg⟩ (fun cls d _ H => E cls d H) pr body b) : FnOk P w K mg base (L2.CX P w) (k + 1) f fd ps (spD ⟨K, mg⟩ ps.length (runS pr ps.length N.length b)) := by
  refine F.ok S (fun vs H Q E h => h.choose_spec.choose_spec.1) fun cdv A outer s H vs Q E hr h => ?_
  obtain ⟨t, p, sm⟩ := (hb cdv A outer s H E hr).ex
  obtain ⟨fr, ds, hv, hd, Sm, q⟩ := h
  refine ⟨t, p (), ?_⟩
  have hpl : ps.length ≤ N.length := by have := congrArg List.length S.pre; rw [List.length_take] at this; omega
  have S0 : Sim ⟨K, mg⟩ fr (ds.map some ++ List.replicate (N.length - ds.length) none) (L2.start N vs) H := by
    unfold L2.start
    rw [hd, hv]
    exact Sm.none_end _
  refine sm fr _ (L2.start N vs) H _ S0 ?_
  unfold runS at q
  have len : ∀ {ρ : Env} {σ : L2.St} {H' : Hp}, Sim ⟨K, mg⟩ fr ρ σ H' → KeepS pr (L2.start N vs) σ → ps.length ≤ ρ.length → Sim ⟨K, mg⟩ fr (outs pr ps.length ρ) (vs.map some) H' := fun {ρ σ H'} Sx k hl => by
    unfold L2.start at k
    exact Sx.outs hv k hl
  cases e : b (ds.map some ++ List.replicate (N.length - ds.length) none) with
  | nx ρ =>
    rw [e] at q
    by_cases hl : ps.length ≤ ρ.length
    · simp only [hl, if_true] at q
      exact fun σ H' k Sx => q .non H' ((len Sx k hl).pushF rfl)
    · simp only [hl, if_false] at q
  | ret d ρ =>
    rw [e] at q
    by_cases hl : ps.length ≤ ρ.length
    · simp only [hl, if_true] at q
      intro v σ H' k Sx
      obtain ⟨fr', Sy, back⟩ := Sx.hold
      refine q v H' (back _ _ _ ?_)
      unfold L2.start at k
      exact Sy.outs hv k hl
    · simp only [hl, if_false] at q
  | exc c fs ρ =>
    rw [e] at q
    by_cases hl : ps.length ≤ ρ.length
    · simp only [hl, if_true] at q
      exact fun cls dd σ H' k xx Sx => q cls dd H' xx (len Sx k hl)
    · simp only [hl, if_false] at q
  | brk ρ => rw [e] at q; exact q.elim
  | cnt ρ => rw [e] at q; exact q.elim
  | stuck => rw [e] at q; exact q.elim
end
/-- a def of the text: what it computes -/
def FnD (P : Program) (w : World) (K : PySem.W.Frag) (mg : Str → Option Value) (base : Heap) (k : Nat) (x : Str) (n : Nat) (dfl : List D) (F : List D → Res D) : Prop :=
  ∃ f fd ps ds, mg x = some (.ref f) ∧ PySem.W.keepIn K (.ref f) = true ∧ Binds K fd ps ds ∧ Vals (dfl.map toV) ds ∧ (∀ d ∈ dfl, (flat d).isSome = true) ∧ ps.length = n ∧ FnOk P w K mg base (L2.CX P w) k f fd ps (spD ⟨K, mg⟩ n F)
abbrev FnX (X : Cx) := FnD X.prog X.w X.K X.mg X.base
/-! ### calls -/
def restore : List (Nat × Nat) → Env → Env → Env
  | [], _, ρ => ρ
  | (j, i) :: rs, os, ρ => match os[j]? with
    | some (some d) => restore rs (os.set j none) (ρ.set i (some d))
    | _ => restore rs os ρ
def eCall (F : List D → Res D) (fa : M (List D)) (dfl : List D) (rs : List (Nat × Nat)) : M D := mbind fa fun ds ρ => match F (ds ++ dfl) with
  | .ok d os => .ok d (restore rs os ρ)
  | .exc c fs os => .exc c fs (restore rs os ρ)
  | .stuck => .stuck
/-- arguments, of which those in rs are handed over by their slots -/
def QM (K : RC) (W : WX) (fr : Fr) (σ : L2.St) (rs : List (Nat × Nat)) (r : Res (List D)) (Q : List V → Hp → Prop) : Prop :=
  QR K W fr σ r fun ds ρ => ∀ vs H, vs.length = ds.length → (∀ p ∈ rs, ∃ v, vs[p.1]? = some v ∧ σ[p.2]? = some (some v)) → Sim K fr (ds.map some ++ ρ) (vs.map some ++ σ) H → Q vs H
structure AM {ι : Type} (X : ι → Cx) (K : RC) (W : WX) (es : List Expr) (f : M (List D)) (rs : List (Nat × Nat)) : Prop where
  ex : ∃ t, (∀ i, PA (X i) es t) ∧ ∀ fr ρ σ H Q, Sim K fr ρ σ H → QM K W fr σ rs (f ρ) Q → t σ H Q
def shift (rs : List (Nat × Nat)) : List (Nat × Nat) := rs.map fun p => (p.1 + 1, p.2)
section
variable {ι : Type} {X : ι → Cx} {K : RC} {W : WX} {e : Expr} {es : List Expr} {f : M D} {g : M (List D)} {rs : List (Nat × Nat)} {pos : Pos}
theorem am_nil : AM X K W [] aNil [] := ⟨tNil, (fun _ => pa_nil), fun fr ρ σ H Q S q => q [] H rfl (fun _ z => nomatch z) S⟩
theorem am_cons (h : ED X K W e f) (hr : AM X K W es g rs) (hs : ∀ i, starEach (e :: es) (X i).env = (false, eval e (X i).env) :: starEach es (X i).env := by intro _; rfl) : AM X K W (e :: es) (aCons f g) (shift rs) := by
  obtain ⟨t, p, s⟩ := h.ex
  obtain ⟨u, p2, s2⟩ := hr.ex
  refine ⟨tCons t u, (fun i => pa_cons (p i) (p2 i) (hs i)), fun fr ρ σ H Q S q => ?_⟩
  refine s fr ρ σ H _ S ((QR.bind q).mono fun d ρ1 q1 v H1 S1 => ?_)
  obtain ⟨fr', S', back⟩ := S1.hold
  refine s2 fr' ρ1 σ H1 _ S' (((QR.bind q1).frame fun ρ H s => (back ρ σ H s).drop).mono fun ds ρ2 q2 vs H2 hl hrs S2 => ?_)
  refine q2 (v :: vs) H2 (by simp [hl]) (fun p hp => ?_) (back _ _ H2 S2)
  obtain ⟨p', hp', rfl⟩ := List.mem_map.mp hp
  obtain ⟨u, h1, h2⟩ := hrs p' hp'
  exact ⟨u, by simpa using h1, h2⟩
theorem am_mv (i : Nat) {x : Str} (h : ∀ j, PE (X j) (.Name x pos) (tVar i)) (hr : AM X K W es g rs) (hs : ∀ i, starEach (.Name x pos :: es) (X i).env = (false, eval (.Name x pos) (X i).env) :: starEach es (X i).env := by intro _; rfl) : AM X K W (.Name x pos :: es) (aCons (eMove i) g) ((0, i) :: shift rs) := by
  obtain ⟨u, p2, s2⟩ := hr.ex
  refine ⟨tCons (tVar i) u, (fun j => pa_cons (h j) (p2 j) (hs j)), fun fr ρ σ H Q S q => ?_⟩
  have q0 := QR.bind q
  unfold eMove at q0
  cases e : ρ[i]? with
  | none => rw [e] at q0; exact q0.elim
  | some o => cases o with
    | none => rw [e] at q0; exact q0.elim
    | some d =>
      rw [e] at q0
      obtain ⟨v, e1, S1⟩ := S.move e
      refine ⟨v, e1, ?_⟩
      obtain ⟨fr', S', back⟩ := S1.hold
      refine s2 fr' _ σ H _ S' (((QR.bind q0).frame fun ρ H s => (back ρ σ H s).drop).mono fun ds ρ2 q2 vs H2 hl hrs S2 => ?_)
      refine q2 (v :: vs) H2 (by simp [hl]) (fun p hp => ?_) (back _ _ H2 S2)
      rcases List.mem_cons.mp hp with z | hp
      · subst z; exact ⟨v, rfl, e1⟩
      · obtain ⟨p', hp', rfl⟩ := List.mem_map.mp hp
        obtain ⟨u, h1, h2⟩ := hrs p' hp'
        exact ⟨u, by simpa using h1, h2⟩
theorem getElem?_app {α : Type} {a b : List α} {i : Nat} {x : α} (h : a[i]? = some x) : (a ++ b)[i]? = some x := by
  rw [List.getElem?_append_left (List.getElem?_eq_some_iff.mp h).1, h]
/-- what was handed over is put back -/
theorem Sim.restore {fr : Fr} {σ : L2.St} {H : Hp} {vs : List V} : ∀ {rs : List (Nat × Nat)} {os ρ : Env}, os.length = vs.length → (∀ p ∈ rs, ∃ v, vs[p.1]? = some v ∧ σ[p.2]? = some (some v)) → Sim K fr (os ++ ρ) (vs.map some ++ σ) H → Sim K fr (DL.restore rs os ρ) σ H
  | [], os, ρ, hl, _, S => S.dropN (by rw [List.length_map, hl])
  | (j, i) :: rs, os, ρ, hl, h, S => by
    unfold DL.restore
    have h' : ∀ p ∈ rs, ∃ v, vs[p.1]? = some v ∧ σ[p.2]? = some (some v) := fun p hp => h p (List.mem_cons_of_mem _ hp)
    cases e : os[j]? with
    | none => exact Sim.restore hl h' S
    | some o => cases o with
      | none => exact Sim.restore hl h' S
      | some d =>
        obtain ⟨v, hv, hs⟩ := h (j, i) List.mem_cons_self
        obtain ⟨v', e1, S1⟩ := S.move (getElem?_app e)
        have ev : v' = v := by
          have z : (vs.map some ++ σ)[j]? = some (some v) := getElem?_app (by rw [List.getElem?_map, hv]; rfl)
          rw [z] at e1
          cases e1
          rfl
        subst ev
        have hj : j < os.length := (List.getElem?_eq_some_iff.mp e).1
        rw [List.set_append_left _ _ hj] at S1
        have hi : (vs.map some ++ σ)[vs.length + i]? = some (some v') := by
          rw [List.getElem?_append_right (by rw [List.length_map]; omega), List.length_map, Nat.add_sub_cancel_left, hs]
        have S2 := S1.back hi
        rw [List.set_append_right _ _ (by rw [List.length_set, hl]; omega), List.length_set, hl, Nat.add_sub_cancel_left] at S2
        exact Sim.restore (by rw [List.length_set, hl]) h' S2
/-- flat values at the end -/
theorem Sim.flats {fr : Fr} {ρ : Env} {σ : L2.St} {H : Hp} (S : Sim K fr ρ σ H) : ∀ dfl : List D, (∀ d ∈ dfl, (flat d).isSome = true) → Sim K fr (ρ ++ dfl.map some) (σ ++ (dfl.map toV).map some) H := fun dfl h => by
  obtain ⟨A, S⟩ := S
  have r : ∀ dfl : List D, (∀ d ∈ dfl, (flat d).isSome = true) → Sl K (hid (A ++ fr.N) H) H (dfl.map some) ((dfl.map toV).map some) [] := fun dfl => by
    induction dfl with
    | nil => exact fun _ => ⟨rfl, rfl⟩
    | cons d ds ih =>
      intro h
      obtain ⟨v, hv⟩ := Option.isSome_iff_exists.mp (h d List.mem_cons_self)
      refine ⟨some (toV d), _, [], [], rfl, rfl, ⟨toV d, rfl, flat_rep ?_⟩, ih fun d hd => h d (List.mem_cons_of_mem _ hd)⟩
      unfold toV
      rw [hv]
      rfl
  have z := Sl.app S.sl (r dfl h)
  rw [List.append_nil] at z
  exact ⟨A, z, S.nd, S.off, S.keep, S.tr⟩
theorem sim_call {n : Nat} {F : List D → Res D} {dfl : List D} {t : TA} (hd : ∀ d ∈ dfl, (flat d).isSome = true) (s : ∀ fr ρ σ H Q, Sim K fr ρ σ H → QM K W fr σ rs (g ρ) Q → t σ H Q) (hn : ∀ ρ ds ρ', g ρ = .ok ds ρ' → (ds ++ dfl).length = n) {fr : Fr} {ρ : Env} {σ : L2.St} {H : Hp} {Q : VK}
    (S : Sim K fr ρ σ H) (q : QE K W fr σ (eCall F g dfl rs ρ) Q) : tCallSD (spD K n F) (dfl.map toV) (WE W) t σ H Q := by
  have hq : QR K W fr σ (g ρ) fun ds ρ1 => g ρ = .ok ds ρ1 ∧ QE K W fr σ (match F (ds ++ dfl) with
    | .ok d os => .ok d (restore rs os ρ1)
    | .exc c fs os => .exc c fs (restore rs os ρ1)
    | .stuck => .stuck) Q := by
    have := QR.bind q
    cases e : g ρ with
    | ok ds ρ1 => rw [e] at this; exact ⟨rfl, this⟩
    | exc c fs ρ1 => rw [e] at this; exact this
    | stuck => rw [e] at this; exact this
  refine s fr ρ σ H _ S (hq.mono fun ds ρ1 ⟨e, q1⟩ vs H1 hl hrs S1 => ?_)
  have hN := hn ρ ds ρ1 e
  rw [List.length_append] at hN
  have S2 : Sim K fr ((ds ++ dfl).map some ++ ρ1) ((vs ++ dfl.map toV).map some ++ σ) H1 := by
    have hl2 : (vs.map some).length = (ds.map some).length := by rw [List.length_map, List.length_map, hl]
    have z1 : Sim K fr (ρ1 ++ ds.map some) (σ ++ vs.map some) H1 := S1.swap hl2
    have z2 := z1.flats dfl hd
    rw [List.append_assoc, List.append_assoc] at z2
    have z3 := z2.swap (ρ1 := ρ1) (σ1 := σ) (S1.dropN hl2).len
    rw [← List.map_append, ← List.map_append] at z3
    exact z3
  have hlv : (vs ++ dfl.map toV).length = (ds ++ dfl).length := by rw [List.length_append, List.length_append, List.length_map, hl]
  obtain ⟨fr', S3, back⟩ := Sim.frame (by rw [List.length_map, List.length_map, hlv]) S2
  refine ⟨fr', ds ++ dfl, by rw [hlv, List.length_append]; exact hN, by rw [List.length_append]; exact hN, S3, ?_⟩
  have hrs' : ∀ p ∈ rs, ∃ v, (vs ++ dfl.map toV)[p.1]? = some v ∧ σ[p.2]? = some (some v) := fun p hp => by
    obtain ⟨v, h1, h2⟩ := hrs p hp
    exact ⟨v, getElem?_app h1, h2⟩
  cases eF : F (ds ++ dfl) with
  | ok d os =>
    rw [eF] at q1
    intro v H' S4
    have S5 := back _ _ _ S4
    have ho : os.length = (vs ++ dfl.map toV).length := by
      have := S4.len
      simp only [List.length_cons, List.length_map] at this
      omega
    obtain ⟨fr2, S6, back2⟩ := Sim.hold (x := some d) (s := some v) S5
    exact q1 v H' (back2 _ _ _ (S6.restore ho hrs'))
  | exc c fs os =>
    rw [eF] at q1
    intro cls dd H' xx S4
    have ho : os.length = (vs ++ dfl.map toV).length := by
      have := S4.len
      simp only [List.length_map] at this
      omega
    exact q1 cls dd H' xx ((back _ _ _ S4).restore ho hrs')
  | stuck => rw [eF] at q1; exact q1.elim
theorem pe_call0S {X : Cx} {CX : CXT} {k : Nat} {f : Addr} {fd : FuncData} {ps : List Str} {sp : Sp} {dvs : List V} {ds : List Value} {E : L2.St → XK} {x : Str} {p pos : Pos} (F : FnOk X.prog X.w X.K X.mg X.base CX k f fd ps sp) (hr : Room k X.A) (hg : Gl X x) (hm : X.mg x = some (.ref f)) (hk : PySem.W.keepIn X.K (.ref f) = true) (hb : Binds X.K fd ps ds) (hd : Vals dvs ds) (hx : ∀ σ, PassesAt CX X σ (E σ))
    (hdb : (x == ("__debug__" : Str)) = false := by decide) : PE X (.Call (.Name x p) [] [] pos) (tCallSD sp dvs E tNil) := by
  refine ⟨fun pins s σ H Q I h => ?_⟩
  refine wpAny_Call_Name_kw (ld_glob I hg hm ?_ hdb)
  exact PySem.W.callWith_K0 I.kIn hk (run_fnSD (us := []) F hr hb hd (hx σ) I .nil h)
/-- f(e, ..) -/
theorem ed_call {k n : Nat} {x : Str} {F : List D → Res D} {dfl : List D} {p : Pos} (h : ∀ i, FnX (X i) k x n dfl F) (hK : ∀ i, rc (X i) = K) (hr : ∀ i, Room k (X i).A) (hg : ∀ i, Gl (X i) x) (tk : ∀ i, Takes (X i) W) (ha : AM X K W (e :: es) g rs)
    (hn : ∀ ρ ds ρ', g ρ = .ok ds ρ' → (ds ++ dfl).length = n) (hdb : (x == ("__debug__" : Str)) = false := by decide) (hd : ∀ d ∈ dfl, (flat d).isSome = true := by simp [flat])
    (he : ∀ i, starEach (e :: es) (X i).env = (false, eval e (X i).env) :: starEach es (X i).env := by intro _; rfl) (hpl : ∀ i, (backTo pos (starEach es (X i).env)).any (·.1) = false := by intro _; rfl) : ED X K W (.Call (.Name x p) (e :: es) [] pos) (eCall F g dfl rs) := by
  obtain ⟨t, pa, s⟩ := ha.ex
  refine ⟨tCallSD (spD K n F) (dfl.map toV) (WE W) t, (fun i => ?_), fun fr ρ σ H Q S q => ?_⟩
  · obtain ⟨f, fd, ps, ds, hm, hk, hb, hv, _, hl, hF⟩ := h i
    rw [← hK i]
    exact pe_callSD hF (hr i) (hg i) hm hk hb hv (fun σ => passAt (tk i) σ) (pa i) hdb (he i) (hpl i)
  · exact sim_call hd s hn S q
theorem ed_call0 {k n : Nat} {x : Str} {F : List D → Res D} {dfl : List D} {p : Pos} (h : ∀ i, FnX (X i) k x n dfl F) (hK : ∀ i, rc (X i) = K) (hr : ∀ i, Room k (X i).A) (hg : ∀ i, Gl (X i) x) (tk : ∀ i, Takes (X i) W)
    (hn : dfl.length = n) (hdb : (x == ("__debug__" : Str)) = false := by decide) (hd : ∀ d ∈ dfl, (flat d).isSome = true := by simp [flat]) : ED X K W (.Call (.Name x p) [] [] pos) (eCall F aNil dfl []) := by
  obtain ⟨t, pa, s⟩ := (am_nil (X := X) (K := K) (W := W)).ex
  refine ⟨tCallSD (spD K n F) (dfl.map toV) (WE W) tNil, (fun i => ?_), fun fr ρ σ H Q S q => ?_⟩
  · obtain ⟨f, fd, ps, ds, hm, hk, hb, hv, _, hl, hF⟩ := h i
    rw [← hK i]
    exact pe_call0S hF (hr i) (hg i) hm hk hb hv (fun σ => passAt (tk i) σ) hdb
  · exact sim_call (t := tNil) (g := aNil) (rs := []) hd (fun fr ρ σ H Q S q => q [] H rfl (fun _ z => nomatch z) S) (fun ρ ds ρ' e => by cases e; simpa using hn) S q
end
/-! ### raise -/
theorem pmk_own0 {X : Cx} {C : Addr} {bmB : List Value} {B newId initId : String} {x : Str} {p pos : Pos} (F : ExcBaseFacts B newId initId bmB) (q : PySem.W.excIn X.K C bmB newId = true) (gC : X.mg x = some (.ref C))
    (kC : PySem.W.keepIn X.K (.ref C) = true) (r : Raises X (.ref C)) (hg : Gl X x) (hdb : (x == ("__debug__" : Str)) = false := by decide) :
    PMk X (.Call (.Name x p) [] [] pos) (fun σ H Q => Q (.ref C) none H) := by
  intro pins s σ H Q I h
  refine wpAny_Call_Name_kw (ld_glob I hg gC ?_ hdb)
  refine PySem.W.callWith_K0 I.kIn kC ?_
  show wpAny _ _ (call (.ref C) []) _ _ _
  obtain ⟨bm, N, nm, qn, bs, hdct, sn, sub, ab, col, dd, k0, k1, k2, k3, k5, mN, hC, hN, hni, T⟩ := exc_obj I.kIn q
  refine wpAny_call_exc_subT F T hC hN hni (fun h' e hm => ?_) (by rw [sizeLine_eq]; exact Nat.zero_le _)
  exact mk_of I hm r h (I.hok.gone hm.new)
end DL

set_option Elab.async false
set_option linter.all false
set_option maxRecDepth 100000
set_option maxHeartbeats 4000000
namespace DL
open PySem PySem.Spec L2
/-! facts of the contexts -/
structure CF {ι : Type} (X : ι → Cx) (K : RC) (W : WX) (k : Nat) : Prop where
  K : ∀ i, rc (X i) = K
  calm : ∀ i, (X i).calm = true
  room : ∀ i, Room k (X i).A
  tk : ∀ i, Takes (X i) W
  nd : ∀ i, (X i).N.Nodup
section
variable {ι : Type} {X : ι → Cx} {K : RC} {W : WX} {k : Nat}
theorem CF.kk (c : CF X K W k) (i : ι) : (X i).K = K.K := congrArg RC.K (c.K i)
theorem CF.mg (c : CF X K W k) (i : ι) : (X i).mg = K.mg := congrArg RC.mg (c.K i)
theorem CF.blk (c : CF X K W k) (scope : Scope) : CF (blkF X scope) K W0 k where
  K := fun j => c.K j.1
  calm := fun j => c.calm j.1
  room := fun j => c.room j.1
  tk := fun j => takes0
  nd := fun j => c.nd j.1
end
mutual
theorem Rep.frz_id {K : RC} {F H : Hp} : ∀ (d : D) (v : V), Rep K F H d v [] → frz d = d
  | .non, _, _ => rfl
  | .bl _, _, _ => rfl
  | .int _, _, _ => rfl
  | .str _, _, _ => rfl
  | .adr _, _, _ => rfl
  | .scr _, _, _ => rfl
  | .tup _, _, _ => rfl
  | .lst false ds, v, r => by
    obtain ⟨_, a, xs, _, _, r⟩ := r
    show D.lst false (frzL ds) = _
    rw [RepL.frz_id ds xs r]
  | .lst true ds, v, r => by obtain ⟨_, _, _, _, e, _⟩ := r; cases e
  | .dk false ks ds, v, r => by
    obtain ⟨_, a, kvs, _, _, _, r⟩ := r
    show D.dk false ks (frzL ds) = _
    rw [RepL.frz_id ds _ r]
  | .dk true ks ds, v, r => by obtain ⟨_, _, _, _, e, _⟩ := r; cases e
  | .dt false ks ds, v, r => by
    obtain ⟨_, a, kvs, _, _, _, r⟩ := r
    show D.dt false ks (frzL ds) = _
    rw [RepL.frz_id ds _ r]
  | .dt true ks ds, v, r => by obtain ⟨_, _, _, _, e, _⟩ := r; cases e
  | .obj false c ns ds, v, r => by
    obtain ⟨_, a, C, dx, fs, _, _, _, _, r⟩ := r
    show D.obj false c ns (frzL ds) = _
    rw [RepL.frz_id ds _ r]
  | .obj true c ns ds, v, r => by obtain ⟨_, _, _, _, _, _, e, _⟩ := r; cases e
theorem RepL.frz_id {K : RC} {F H : Hp} : ∀ (ds : List D) (vs : List V), RepL K F H ds vs [] → frzL ds = ds
  | [], _, _ => rfl
  | d :: ds, vs, r => by
    obtain ⟨v, ws, B, C, rfl, e, r1, r2⟩ := r
    have e1 := (List.append_eq_nil_iff.mp e.symm).1
    have e2 := (List.append_eq_nil_iff.mp e.symm).2
    subst e1 e2
    show frz d :: frzL ds = _
    rw [Rep.frz_id d v r1, RepL.frz_id ds ws r2]
end
section
variable {K : RC} {fr : Fr} {ρ : Env} {σ : L2.St} {H : Hp} {d : D} {v : V} {ds : List D} {vs : List V}
theorem Sim.tup_frz (S : Sim K fr (some (.tup ds) :: ρ) (some v :: σ) H) : frzL ds = ds := by
  obtain ⟨F, B, r, _⟩ := S.top
  obtain ⟨_, a, xs, _, _, r⟩ := r
  exact RepL.frz_id ds xs r
theorem frzL_app (a b : List D) : frzL (a ++ b) = frzL a ++ frzL b := by
  induction a with
  | nil => rfl
  | cons x a ih => show frz x :: frzL (a ++ b) = _; rw [ih]; rfl
/-- the second one taken apart -/
theorem Sim.explode2 {d2 : D} {v2 : V} (S : Sim K fr (some d2 :: some d :: ρ) (some v2 :: some v :: σ) H) (e : items d = some ds) : ∃ p xs, v = .ref p ∧ xs.length = ds.length ∧ (if isL d = true then SqL K.K H p xs else SqT K.K H p xs) ∧
    ((∀ o es, d = .lst o es → H p = some (.lst xs)) ∧ Sim K fr (some d2 :: (ds.map some ++ ρ)) (some v2 :: (xs.map some ++ σ)) H) := by
  obtain ⟨fr', S', back⟩ := S.hold
  obtain ⟨p, xs, h1, h2, h3, h4, S2⟩ := S'.explode e
  exact ⟨p, xs, h1, h2, h3, h4, back _ _ _ S2⟩
theorem Sim.pick {j : Nat} (S : Sim K fr (ds.map some ++ ρ) (vs.map some ++ σ) H) (hl : vs.length = ds.length) (e : ds[j]? = some d) : ∃ v, vs[j]? = some v ∧ Sim K fr (some d :: ρ) (some v :: σ) H := by
  obtain ⟨v, e1, S1⟩ := S.move (getElem?_app (a := ds.map some) (b := ρ) (by rw [List.getElem?_map, e]; rfl))
  have hj : j < ds.length := (List.getElem?_eq_some_iff.mp e).1
  rw [List.getElem?_append_left (by rw [List.length_map, hl]; exact hj), List.getElem?_map] at e1
  cases ev : vs[j]? with
  | none => rw [ev] at e1; cases e1
  | some u =>
    rw [ev] at e1
    have e1 : some (some u) = some (some v) := e1
    cases e1
    refine ⟨_, rfl, ?_⟩
    rw [List.set_append_left _ _ (by rw [List.length_map]; exact hj)] at S1
    obtain ⟨fr', S2, back⟩ := S1.hold
    exact back _ _ _ (S2.dropN (by rw [List.length_set, List.length_map, List.length_map, hl]))
end
section
variable {K : RC} {fr : Fr} {ρ : Env} {σ : L2.St} {H : Hp}
theorem Sim.flip {A B : Env} {α β : L2.St} (ha : α.length = A.length) (hb : β.length = B.length) (S : Sim K fr (A ++ (B ++ ρ)) (α ++ (β ++ σ)) H) : Sim K fr (B ++ (A ++ ρ)) (β ++ (α ++ σ)) H := by
  have S1 := S.swap ha
  rw [List.append_assoc, List.append_assoc] at S1
  obtain ⟨fr', S2, back⟩ := S1.holdN hb
  refine back _ _ _ (S2.swap ?_)
  have h1 := S.len
  simp only [List.length_append] at h1
  omega
theorem Sim.explode22 {dx dy : D} {vx vy : V} {xs ys : List D} (S : Sim K fr (some dy :: some dx :: ρ) (some vy :: some vx :: σ) H) (ey : items dy = some ys) (ex : items dx = some xs) :
    ∃ p us q ws, vy = .ref p ∧ vx = .ref q ∧ us.length = ys.length ∧ ws.length = xs.length ∧ (if isL dy = true then SqL K.K H p us else SqT K.K H p us) ∧ (if isL dx = true then SqL K.K H q ws else SqT K.K H q ws) ∧
      (∀ o es, dy = .lst o es → H p = some (.lst us)) ∧ (∀ o es, dx = .lst o es → H q = some (.lst ws)) ∧ Sim K fr (xs.map some ++ (ys.map some ++ ρ)) (ws.map some ++ (us.map some ++ σ)) H := by
  obtain ⟨p, us, h1, h2, h3, h4, S2⟩ := S.explode ey
  obtain ⟨fr', S3, back⟩ := S2.holdN (by rw [List.length_map, List.length_map, h2])
  obtain ⟨q, ws, h5, h6, h7, h8, S4⟩ := S3.explode ex
  exact ⟨p, us, q, ws, h1, h5, h2, h6, h3, h7, h4, h8, (back _ _ _ S4).flip (by simp [h2]) (by simp [h6])⟩
end
/-! ### evaluated with everything frozen; the answer flat -/
theorem Sl.frzA {K : RC} {F F' H : Hp} (h : ∀ a o, F a = some o → F' a = some o) : ∀ {ρ : Env} {σ : L2.St} {A : List Addr}, (∀ a ∈ A, ∀ o, H a = some o → F' a = some o) → Sl K F H ρ σ A → Sl K F' H (ρ.map (Option.map DL.frz)) σ []
  | [], σ, A, _, r => ⟨r.1, rfl⟩
  | x :: ρ, σ, A, k, r => by
    obtain ⟨s, τ, B, C, rfl, rfl, r1, r2⟩ := r
    refine ⟨s, τ, [], [], rfl, rfl, ?_, Sl.frzA h (fun a z => k a (List.mem_append_right _ z)) r2⟩
    cases x with
    | none => rfl
    | some d =>
      obtain ⟨v, e, r1⟩ := r1
      exact ⟨v, e, Rep.frz h d v B (fun a z => k a (List.mem_append_left _ z)) r1⟩
theorem Sim.frzAll {K : RC} {fr : Fr} {ρ : Env} {σ : L2.St} {H : Hp} (S : Sim K fr ρ σ H) : Sim K ⟨H, fr.N⟩ (ρ.map (Option.map DL.frz)) σ H := by
  obtain ⟨A, S⟩ := S
  refine ⟨[], ?_, .nil, (fun _ z => nomatch z), fun _ _ e => e, fun a z => ?_⟩
  · refine Sl.frzA (fun a o e => ?_) (fun a z o e => ?_) S.sl
    · rw [hid_some] at e ⊢
      exact ⟨fun w => e.1 (List.mem_append_right _ (by simpa using w)), e.2⟩
    · exact hid_some.mpr ⟨fun w => (S.off a z).1 (by simpa using w), e⟩
  · obtain ⟨o, e⟩ := S.tr a z
    exact ⟨o, S.keep a o e⟩
theorem Sim.keepG {K : RC} {fr : Fr} {ρ : Env} {σ : L2.St} {H : Hp} (S : Sim K fr ρ σ H) : ∀ a o, fr.G a = some o → H a = some o := let ⟨_, S⟩ := S; S.keep
def eBor (f : M D) : M D := fun ρ => match f (ρ.map (Option.map frz)) with
  | .ok d _ => if (flat d).isSome = true then .ok d ρ else .stuck
  | .exc c fs _ => .exc c fs ρ
  | .stuck => .stuck
section
variable {ι : Type} {X : ι → Cx} {K : RC} {W : WX} {k : Nat} {e a b : Expr} {es : List Expr} {f fa fb : M D} {g : M (List D)} {pos : Pos}
theorem ed_bor (h : ED X K W e f) : ED X K W e (eBor f) := by
  obtain ⟨t, p, s⟩ := h.ex
  refine ⟨t, p, fun fr ρ σ H Q S q => s _ _ σ H Q S.frzAll ?_⟩
  unfold eBor at q
  cases ef : f (ρ.map (Option.map frz)) with
  | ok d ρ' =>
    rw [ef] at q
    by_cases hf : (flat d).isSome = true
    · simp only [hf, if_true] at q
      obtain ⟨u, hu⟩ := Option.isSome_iff_exists.mp hf
      intro v H' S'
      have := S'.topF hu
      subst this
      exact q v H' ((S.grow S'.keepG).pushF hu)
    · simp only [hf] at q
      exact q.elim
  | exc c fs ρ' =>
    rw [ef] at q
    exact fun cls dd H' xx S' => q cls dd H' xx (S.grow S'.keepG)
  | stuck => rw [ef] at q; exact q.elim
theorem td_bor {f : M Bool} (h : TD X K W e f) : TD X K W e (fun ρ => match f (ρ.map (Option.map frz)) with
  | .ok b _ => .ok b ρ
  | .exc c fs _ => .exc c fs ρ
  | .stuck => .stuck) := by
  obtain ⟨t, p, s⟩ := h.ex
  refine ⟨t, p, fun fr ρ σ H Q S q => s _ _ σ H Q S.frzAll ?_⟩
  cases ef : f (ρ.map (Option.map frz)) with
  | ok d ρ' =>
    rw [ef] at q
    exact fun H' S' => q H' (S.grow S'.keepG)
  | exc c fs ρ' =>
    rw [ef] at q
    exact fun cls dd H' xx S' => q cls dd H' xx (S.grow S'.keepG)
  | stuck => rw [ef] at q; exact q.elim
/-! ### built-ins by values -/
def CaS (K : RC) (r : List V → Hp → VK → Prop) (F : List D → Option D) : Prop := ∀ fr ρ σ H ds vs d Q, vs.length = ds.length → Sim K fr (ds.map some ++ ρ) (vs.map some ++ σ) H → F ds = some d →
  (∀ v H', Sim K fr (some d :: ρ) (some v :: σ) H' → Q v H') → r vs H Q
def eBi (F : List D → Option D) (g : M (List D)) : M D := mbind g fun ds => mlift (F ds)
theorem sim_tCB {r : List V → Hp → VK → Prop} {F : List D → Option D} {t : TA} (ho : CaS K r F) (s : ∀ fr ρ σ H Q, Sim K fr ρ σ H → QM K W fr σ [] (g ρ) Q → t σ H Q) {fr : Fr} {ρ : Env} {σ : L2.St} {H : Hp} {Q : VK} (S : Sim K fr ρ σ H) (q : QE K W fr σ (eBi F g ρ) Q) : tCB r t σ H Q := by
  refine s fr ρ σ H _ S ((QR.bind q).mono fun ds ρ1 q1 vs H1 hl _ S1 => ?_)
  obtain ⟨d, e, q2⟩ := QR.lift q1
  exact ho fr ρ1 σ H1 ds vs d Q hl S1 e q2
theorem ed_bi {x : Str} {id : String} {p : Pos} {r : List V → Hp → VK → Prop} {F : List D → Option D} (c : CF X K W k) (hc : ∀ i, CallR (X i) (.builtin id) r) (ho : CaS K r F) (hg : ∀ i, Gl (X i) x) (hm : K.mg x = none) (hv : bootBuiltins x = some (.builtin id)) (ha : AM X K W (e :: es) g [])
    (hn : x ≠ "__name__" := by decide) (hdb : (x == ("__debug__" : Str)) = false := by decide) (he : ∀ i, starEach (e :: es) (X i).env = (false, eval e (X i).env) :: starEach es (X i).env := by intro _; rfl) (hpl : ∀ i, (backTo pos (starEach es (X i).env)).any (·.1) = false := by intro _; rfl) :
    ED X K W (.Call (.Name x p) (e :: es) [] pos) (eBi F g) := by
  obtain ⟨t, pa, s⟩ := ha.ex
  exact ⟨tCB r t, (fun i => pe_callB (hc i) (hg i) (by rw [c.mg i]; exact hm) hv (pa i) hn hdb (he i) (hpl i)), fun fr ρ σ H Q S q => sim_tCB ho s S q⟩
theorem ed_ty {x : Str} {T : String} {p : Pos} {r : List V → Hp → VK → Prop} {F : List D → Option D} (c : CF X K W k) (hc : ∀ i, CallR (X i) (.type T) r) (ho : CaS K r F) (hg : ∀ i, Gl (X i) x) (hm : K.mg x = none) (hv : bootBuiltins x = some (.type T)) (ha : AM X K W (e :: es) g [])
    (hn : x ≠ "__name__" := by decide) (hdb : (x == ("__debug__" : Str)) = false := by decide) (he : ∀ i, starEach (e :: es) (X i).env = (false, eval e (X i).env) :: starEach es (X i).env := by intro _; rfl) (hpl : ∀ i, (backTo pos (starEach es (X i).env)).any (·.1) = false := by intro _; rfl) :
    ED X K W (.Call (.Name x p) (e :: es) [] pos) (eBi F g) := by
  obtain ⟨t, pa, s⟩ := ha.ex
  exact ⟨tCB r t, (fun i => pe_callTy (hc i) (hg i) (by rw [c.mg i]; exact hm) hv (pa i) hn hdb (he i) (hpl i)), fun fr ρ σ H Q S q => sim_tCB ho s S q⟩
/-! ints -/
def isI : D → Option Int
  | .int i => some i
  | _ => none
def ii (C : Int → Int → Bool) (g : Int → Int → D) : D → D → Option D
  | .int i, .int j => if C i j = true then some (g i j) else none
  | _, _ => none
theorem ops_ii {C : Int → Int → Bool} {P : Int → Int → Prop} {g : Int → Int → D} {h : Int → Int → V} (hP : ∀ i j, C i j = true → P i j) (hg : ∀ i j, flat (g i j) = some (h i j)) : OpS K (rI P h) (ii C g) := by
  intro fr ρ σ H dx dy vx vy d Q S e q
  cases dx with
  | int i => cases dy with
    | int j =>
      unfold ii at e
      by_cases hc : C i j = true
      · simp only [hc, if_true] at e
        cases e
        exact ⟨i, j, S.drop.topF rfl, S.topF rfl, hP i j hc, q _ H (S.drop.drop.pushF (hg i j))⟩
      · simp only [hc] at e
        cases e
    | _ => cases e
  | _ => cases e
theorem ops_ii0 {g : Int → Int → D} {h : Int → Int → V} (hg : ∀ i j, flat (g i j) = some (h i j)) : OpS K (rI0 h) (ii (fun _ _ => true) g) := by
  intro fr ρ σ H dx dy vx vy d Q S e q
  cases dx with
  | int i => cases dy with
    | int j =>
      cases e
      exact ⟨i, j, S.drop.topF rfl, S.topF rfl, q _ H (S.drop.drop.pushF (hg i j))⟩
    | _ => cases e
  | _ => cases e
def subD : D → D → Option D := ii (fun _ _ => true) fun i j => .int (i - j)
theorem ed_sub (c : CF X K W k) (ha : ED X K W a fa) (hb : ED X K W b fb) : ED X K W (.BinOp a .Sub b pos) (e2 subD fa fb) := ed_op (fun _ => op_sub) (ops_ii0 fun _ _ => rfl) ha hb
/-- products: one factor below 2^64, or both below 2^4000 -/
def mulOk (i j : Int) : Bool := decide (-(2 ^ 64) < i ∧ i < 2 ^ 64) || decide (-(2 ^ 64) < j ∧ j < 2 ^ 64) || (decide (i.natAbs < 2 ^ 4000) && decide (j.natAbs < 2 ^ 4000))
def lebD : D → D → Option D := ii (fun _ _ => true) fun i j => .bl (decide (i ≤ j))
def ltD : D → D → Option D := ii (fun _ _ => true) fun i j => .bl (decide (i < j))
def gtD : D → D → Option D := ii (fun _ _ => true) fun i j => .bl (decide (j < i))
def geD : D → D → Option D := ii (fun _ _ => true) fun i j => .bl (decide (j ≤ i))
theorem ops_le : OpS K (rI0 fun i j => .bl (decide (i ≤ j))) lebD := ops_ii0 fun _ _ => rfl
theorem ops_lt : OpS K (rI0 fun i j => .bl (decide (i < j))) ltD := ops_ii0 fun _ _ => rfl
theorem ops_gt : OpS K (rI0 fun i j => .bl (decide (j < i))) gtD := ops_ii0 fun _ _ => rfl
theorem ops_ge : OpS K (rI0 fun i j => .bl (decide (j ≤ i))) geD := ops_ii0 fun _ _ => rfl
/-! floor and rest by positive divisors -/
def fdivD : D → D → Option D := ii (fun _ j => decide (0 < j ∧ j.natAbs < 2 ^ 8000)) fun i j => .int (i / j)
def modD : D → D → Option D := ii (fun _ j => decide (0 < j)) fun i j => .int (i % j)
theorem ed_fdiv (c : CF X K W k) (ha : ED X K W a fa) (hb : ED X K W b fb) : ED X K W (.BinOp a .FloorDiv b pos) (e2 fdivD fa fb) :=
  ed_op (fun _ => op_fdivW) (ops_ii (fun i j h => by
    have := of_decide_eq_true h
    exact wide_div this.1 this.2 (by decide) (by decide)) fun _ _ => rfl) ha hb
theorem ed_mod (c : CF X K W k) (ha : ED X K W a fa) (hb : ED X K W b fb) : ED X K W (.BinOp a .Mod b pos) (e2 modD fa fb) :=
  ed_op (fun _ => op_mod) (ops_ii (fun i j h => of_decide_eq_true h) fun _ _ => rfl) ha hb
def powD : D → D → Option D := ii (fun i j => decide (0 ≤ j ∧ j ≤ 1000000 ∧ i.natAbs < 2 ^ 64)) fun i j => .int (i ^ j.toNat)
theorem ed_pow (c : CF X K W k) (ha : ED X K W a fa) (hb : ED X K W b fb) : ED X K W (.BinOp a .Pow b pos) (e2 powD fa fb) :=
  ed_op (fun _ => op_pow) (ops_ii (P := CPow) (fun i j h => show CPow i j from of_decide_eq_true (p := 0 ≤ j ∧ j ≤ 1000000 ∧ i.natAbs < 2 ^ 64) h) fun _ _ => rfl) ha hb
def negD : D → Option D
  | .int i => some (.int (-i))
  | _ => none
theorem ed_neg (c : CF X K W k) (ha : ED X K W a fa) : ED X K W (.UnaryOp .USub a pos) (e1 negD fa) := by
  obtain ⟨t, p, s⟩ := ha.ex
  refine ⟨tUn (rU fun i => .int (-i)) t, (fun i => pe_un un_neg (p i)), fun fr ρ σ H Q S q => s fr ρ σ H _ S ((QR.bind q).mono fun d ρ1 q1 v H1 S1 => ?_)⟩
  obtain ⟨d', e, q2⟩ := QR.lift q1
  cases d with
  | int i =>
    cases e
    exact ⟨i, S1.topF rfl, q2 _ H1 (S1.drop.pushF rfl)⟩
  | _ => cases e
/-! + of ints, texts, tuples, lists -/
def addD : D → D → Option D
  | .int i, .int j => some (.int (i + j))
  | .str x, .str y => if x.length + y.length ≤ sizeLine then some (.str (x ++ y)) else none
  | .tup xs, .tup ys => if xs.length + ys.length ≤ sizeLine then some (.tup (xs ++ ys)) else none
  | .lst _ xs, .lst _ ys => if xs.length + ys.length ≤ sizeLine then some (.lst true (xs ++ ys)) else none
  | _, _ => none
def rAddA (K : PySem.W.Frag) : R2 := fun x y H Q => (rI0 (fun i j => .int (i + j)) x y H Q) ∨ ((∃ i j, x = .str i ∧ y = .str j ∧ i.length + j.length ≤ sizeLine ∧ Q (.str (i ++ j)) H) ∨ (rCatA K x y H Q ∨ rCat x y H Q))
theorem op_addA {X : Cx} : OpR X (binaryOp .Add) (rAddA X.K) := OpR.or op_add (OpR.or op_add_str (OpR.or op_catA op_cat))
theorem ops_add : OpS K (rAddA K.K) addD := by
  intro fr ρ σ H dx dy vx vy d Q S e q
  cases dx with
  | int i => cases dy with
    | int j =>
      cases e
      exact .inl ⟨i, j, S.drop.topF rfl, S.topF rfl, q _ H (S.drop.drop.pushF rfl)⟩
    | _ => cases e
  | str x => cases dy with
    | str y =>
      unfold addD at e
      by_cases hc : x.length + y.length ≤ sizeLine
      · simp only [hc, if_true] at e
        cases e
        exact .inr (.inl ⟨x, y, S.drop.topF rfl, S.topF rfl, hc, q _ H (S.drop.drop.pushF rfl)⟩)
      · simp only [hc, if_false] at e
        cases e
    | _ => cases e
  | tup xs => cases dy with
    | tup ys =>
      unfold addD at e
      by_cases hc : xs.length + ys.length ≤ sizeLine
      · simp only [hc, if_true] at e
        cases e
        have f1 := S.drop.tup_frz
        have f2 := S.tup_frz
        obtain ⟨p, us, p2, ws, rfl, rfl, h2, h4, h3, h5, _, _, S1⟩ := S.explode22 (ys := ys) (xs := xs) rfl rfl
        refine .inr (.inr (.inl ⟨p2, p, ws, us, rfl, rfl, h5, h3, by omega, fun e => ?_, fun _ e => ?_, fun _ _ l hl => ?_⟩))
        · have : xs = [] := List.length_eq_zero_iff.mp (by rw [← h4, e]; rfl)
          subst this
          exact q _ H (S.xch.drop)
        · have : ys = [] := List.length_eq_zero_iff.mp (by rw [← h2, e]; rfl)
          subst this
          rw [List.append_nil] at q
          exact q _ H S.drop
        · have S2 : Sim K fr ((xs ++ ys).map some ++ ρ) ((ws ++ us).map some ++ σ) H := by
            rw [List.map_append, List.map_append, List.append_assoc, List.append_assoc]
            exact S1
          have S3 := S2.newT (by simp [h2, h4]) hl
          rw [frzL_app, f1, f2] at S3
          exact q _ _ S3
      · simp only [hc, if_false] at e
        cases e
    | _ => cases e
  | lst o xs => cases dy with
    | lst o' ys =>
      unfold addD at e
      by_cases hc : xs.length + ys.length ≤ sizeLine
      · simp only [hc, if_true] at e
        cases e
        obtain ⟨p, us, p2, ws, rfl, rfl, h2, h4, _, _, h3, h5, S1⟩ := S.explode22 (ys := ys) (xs := xs) rfl rfl
        refine .inr (.inr (.inr ⟨p2, p, ws, us, rfl, rfl, h5 _ _ rfl, h3 _ _ rfl, by omega, fun l hl => ?_⟩))
        have S2 : Sim K fr ((xs ++ ys).map some ++ ρ) ((ws ++ us).map some ++ σ) H := by
          rw [List.map_append, List.map_append, List.append_assoc, List.append_assoc]
          exact S1
        exact q _ _ (S2.newL (by simp [h2, h4]) hl)
      · simp only [hc, if_false] at e
        cases e
    | _ => cases e
  | _ => cases e
theorem rAddA_K {X : Cx} (h : X.K = K.K) : OpR X (binaryOp .Add) (rAddA K.K) := by rw [← h]; exact op_addA
theorem ed_add (c : CF X K W k) (ha : ED X K W a fa) (hb : ED X K W b fb) : ED X K W (.BinOp a .Add b pos) (e2 addD fa fb) := ed_op (fun i => rAddA_K (c.kk i)) ops_add ha hb
end
end DL

set_option Elab.async false
set_option linter.all false
set_option maxRecDepth 100000
set_option maxHeartbeats 4000000
namespace DL
open PySem PySem.Spec L2
/-! ### displays -/
section
variable {ι : Type} {X : ι → Cx} {K : RC} {W : WX} {k : Nat} {e a b c' : Expr} {es : List Expr} {f fa fb fc : M D} {g : M (List D)} {pos : Pos}
def eTup (g : M (List D)) : M D := mbind g fun ds => if ds.length ≤ sizeLine then mret (.tup (frzL ds)) else mlift none
def eLst (g : M (List D)) : M D := mbind g fun ds => if ds.length ≤ sizeLine then mret (.lst true ds) else mlift none
theorem ed_tup {x1} (h : AM X K W es g []) : ED X K W (.Tuple es x1 pos) (eTup g) := by
  obtain ⟨t, p, s⟩ := h.ex
  refine ⟨tTup t, (fun i => pe_tup (p i)), fun fr ρ σ H Q S q => s fr ρ σ H _ S ((QR.bind q).mono fun ds ρ1 q1 vs H1 hl _ S1 => ?_)⟩
  by_cases hz : ds.length ≤ sizeLine
  · rw [if_pos hz] at q1
    exact ⟨by omega, fun p hp => q1 _ _ (S1.newT hl hp)⟩
  · rw [if_neg hz] at q1
    exact q1.elim
theorem ed_lst (h : AM X K W es g []) : ED X K W (.List es pos) (eLst g) := by
  obtain ⟨t, p, s⟩ := h.ex
  refine ⟨tLst t, (fun i => pe_lst (p i)), fun fr ρ σ H Q S q => s fr ρ σ H _ S ((QR.bind q).mono fun ds ρ1 q1 vs H1 hl _ S1 => ?_)⟩
  by_cases hz : ds.length ≤ sizeLine
  · rw [if_pos hz] at q1
    exact ⟨by omega, fun p hp => q1 _ _ (S1.newL hl hp)⟩
  · rw [if_neg hz] at q1
    exact q1.elim
/-! ### items -/
def ixD : D → D → Option D
  | .str x, .int i => if x.length ≤ sizeLine then (atI x.cps.toList i).map fun c => .str ⟨#[c]⟩ else none
  | d, .int i => (items d).bind fun ds => atI ds i
  | _, _ => none
theorem atI_get {α β : Type} {xs : List α} {ys : List β} {i : Int} {y : β} (hl : xs.length = ys.length) (h : atI ys i = some y) : ∃ j : Nat, ys[j]? = some y ∧ ∀ x, xs[j]? = some x → atI xs i = some x := by
  unfold atI at h ⊢
  rw [hl]
  cases e : ixN ys.length i with
  | none => rw [e] at h; cases h
  | some j => rw [e] at h; exact ⟨j, h, fun x hx => hx⟩
theorem ops_ix : OpS K (rIx K.K) ixD := by
  intro fr ρ σ H dx dy vx vy d Q S e q
  cases dy with
  | int i =>
    have hy := S.topF rfl
    subst hy
    have seq : ∀ ds, items dx = some ds → atI ds i = some d → rIx K.K vx (.int i) H Q := fun ds hi ha => by
      obtain ⟨p, xs, rfl, h2, h3, _, S1⟩ := S.drop.explode hi
      obtain ⟨j, hj, hx⟩ := atI_get h2 ha
      obtain ⟨v, hv, S2⟩ := S1.pick h2 hj
      have hL := hx v hv
      by_cases hk : isL dx = true
      · rw [if_pos hk] at h3
        exact .inl ⟨p, xs, i, v, rfl, rfl, h3, hL, q v H S2⟩
      · rw [if_neg hk] at h3
        exact .inr (.inl ⟨p, xs, i, v, rfl, rfl, h3, hL, q v H S2⟩)
    cases dx with
    | str x =>
      unfold ixD at e
      by_cases hz : x.length ≤ sizeLine
      · simp only [hz, if_true] at e
        cases hc : atI x.cps.toList i with
        | none => rw [hc] at e; cases e
        | some c =>
          rw [hc] at e
          cases e
          exact .inr (.inr ⟨x, i, c, S.drop.topF rfl, rfl, hz, hc, q _ H (S.drop.drop.pushF rfl)⟩)
      · simp only [hz, if_false] at e
        cases e
    | tup ds => exact seq ds rfl e
    | lst o ds => exact seq ds rfl e
    | scr ns => exact seq _ rfl e
    | _ => cases e
  | _ => cases dx <;> cases e
theorem ed_ix (c : CF X K W k) (ha : ED X K W a fa) (hb : ED X K W b fb) (hs : PlainIx b := by exact fun _ _ => rfl) : ED X K W (.Subscript a b pos) (e2 ixD fa fb) := by
  obtain ⟨ta, pa, sa⟩ := ha.ex
  obtain ⟨tb, pb, sb⟩ := hb.ex
  exact ⟨tOp (rIx K.K) ta tb, (fun i => pe_ix (by rw [← c.kk i]; exact ix_seq) (pa i) (pb i) hs), fun fr ρ σ H Q S q => sim_tOp ops_ix sa sb S q⟩
/-! ### comparisons -/
theorem ed_lt (c : CF X K W k) (ha : ED X K W a fa) (hb : ED X K W b fb) : ED X K W (.Compare a [.Lt] [b] pos) (e2 ltD fa fb) := ed_cmp (fun _ => op_lt) ops_lt ha hb (nomark _)
theorem ed_le (c : CF X K W k) (ha : ED X K W a fa) (hb : ED X K W b fb) : ED X K W (.Compare a [.LtE] [b] pos) (e2 lebD fa fb) := ed_cmp (fun _ => op_le) ops_le ha hb (nomark _)
theorem ed_gt (c : CF X K W k) (ha : ED X K W a fa) (hb : ED X K W b fb) : ED X K W (.Compare a [.Gt] [b] pos) (e2 gtD fa fb) := ed_cmp (fun _ => op_gt) ops_gt ha hb (nomark _)
theorem ed_ge (c : CF X K W k) (ha : ED X K W a fa) (hb : ED X K W b fb) : ED X K W (.Compare a [.GtE] [b] pos) (e2 geD fa fb) := ed_cmp (fun _ => op_ge) ops_ge ha hb (nomark _)
theorem td_lt (c : CF X K W k) (ha : ED X K W a fa) (hb : ED X K W b fb) : TD X K W (.Compare a [.Lt] [b] pos) (eB (e2 ltD fa fb)) := td_cmp (fun _ => op_lt) ops_lt ha hb (nomark _)
theorem td_le (c : CF X K W k) (ha : ED X K W a fa) (hb : ED X K W b fb) : TD X K W (.Compare a [.LtE] [b] pos) (eB (e2 lebD fa fb)) := td_cmp (fun _ => op_le) ops_le ha hb (nomark _)
theorem td_gt (c : CF X K W k) (ha : ED X K W a fa) (hb : ED X K W b fb) : TD X K W (.Compare a [.Gt] [b] pos) (eB (e2 gtD fa fb)) := td_cmp (fun _ => op_gt) ops_gt ha hb (nomark _)
theorem td_ge (c : CF X K W k) (ha : ED X K W a fa) (hb : ED X K W b fb) : TD X K W (.Compare a [.GtE] [b] pos) (eB (e2 geD fa fb)) := td_cmp (fun _ => op_ge) ops_ge ha hb (nomark _)
/-! == and != of data -/
mutual
def toPy : D → Option PyData
  | .non => some .none
  | .bl b => some (.bool b)
  | .int i => some (.int i)
  | .str x => some (.str x)
  | .scr ns => some (.list (ns.map PyData.int))
  | .tup ds => (toPyL ds).map PyData.tuple
  | .lst _ ds => (toPyL ds).map PyData.list
  | _ => none
def toPyL : List D → Option (List PyData)
  | [] => some []
  | d :: ds => (toPy d).bind fun p => (toPyL ds).map fun ps => p :: ps
end
theorem dp_ints {K : PySem.W.Frag} {H : Hp} : ∀ ns : List Int, DpAll K H (ns.map V.int) (ns.map PyData.int)
  | [] => .nil
  | n :: ns => .cons (.int n) (dp_ints ns)
mutual
theorem rep_dp {F H : Hp} (h : ∀ a o, F a = some o → H a = some o) : ∀ (d : D) (v : V) (A : List Addr) (p : PyData), Rep K F H d v A → toPy d = some p → Dp K.K H v p
  | .non, v, A, p, r, e => by obtain ⟨rfl, _⟩ := r; cases e; exact .non
  | .bl b, v, A, p, r, e => by obtain ⟨rfl, _⟩ := r; cases e; exact .bl b
  | .int i, v, A, p, r, e => by obtain ⟨rfl, _⟩ := r; cases e; exact .int i
  | .str x, v, A, p, r, e => by obtain ⟨rfl, _⟩ := r; cases e; exact .str x
  | .adr _, v, A, p, r, e => by cases e
  | .scr ns, v, A, p, r, e => by
    obtain ⟨_, a, rfl, s⟩ := r
    cases e
    exact .lst (SqL.mono h s) (dp_ints ns)
  | .tup ds, v, A, p, r, e => by
    obtain ⟨_, a, xs, rfl, s, r⟩ := r
    unfold toPy at e
    cases e1 : toPyL ds with
    | none => rw [e1] at e; cases e
    | some ps =>
      rw [e1] at e
      cases e
      exact .tup (SqT.mono h s) (rep_dpL h ds xs [] ps r e1)
  | .lst false ds, v, A, p, r, e => by
    obtain ⟨_, a, xs, rfl, s, r⟩ := r
    unfold toPy at e
    cases e1 : toPyL ds with
    | none => rw [e1] at e; cases e
    | some ps =>
      rw [e1] at e
      cases e
      exact .lst (SqL.of (h _ _ s)) (rep_dpL h ds xs [] ps r e1)
  | .lst true ds, v, A, p, r, e => by
    obtain ⟨a, xs, B, rfl, rfl, s, r⟩ := r
    unfold toPy at e
    cases e1 : toPyL ds with
    | none => rw [e1] at e; cases e
    | some ps =>
      rw [e1] at e
      cases e
      exact .lst (SqL.of s) (rep_dpL h ds xs B ps r e1)
  | .dk _ _ _, v, A, p, r, e => by cases e
  | .dt _ _ _, v, A, p, r, e => by cases e
  | .obj _ _ _ _, v, A, p, r, e => by cases e
theorem rep_dpL {F H : Hp} (h : ∀ a o, F a = some o → H a = some o) : ∀ (ds : List D) (vs : List V) (A : List Addr) (ps : List PyData), RepL K F H ds vs A → toPyL ds = some ps → DpAll K.K H vs ps
  | [], vs, A, ps, r, e => by obtain ⟨rfl, _⟩ := r; cases e; exact .nil
  | d :: ds, vs, A, ps, r, e => by
    obtain ⟨v, ws, B, C, rfl, rfl, r1, r2⟩ := r
    unfold toPyL at e
    cases e1 : toPy d with
    | none => rw [e1] at e; cases e
    | some p =>
      rw [e1] at e
      cases e2 : toPyL ds with
      | none => rw [e2] at e; cases e
      | some qs =>
        rw [e2] at e
        cases e
        exact .cons (rep_dp h d v B p r1 e1) (rep_dpL h ds ws C qs r2 e2)
end
/-- == of plain data -/
def eqB (x y : D) : Option Bool := (toPy x).bind fun p => (toPy y).bind fun q => if SeqAt.shaped p = true ∧ SeqAt.shaped q = true then some (PyData.eqv p q) else none
def eqD (x y : D) : Option D := (eqB x y).map D.bl
def neD (x y : D) : Option D := (eqB x y).map fun b => D.bl !b
theorem eqB_some {x y : D} {b : Bool} (h : eqB x y = some b) : ∃ p q, toPy x = some p ∧ toPy y = some q ∧ SeqAt.shaped p = true ∧ SeqAt.shaped q = true ∧ PyData.eqv p q = b := by
  unfold eqB at h
  cases e1 : toPy x with
  | none => rw [e1] at h; cases h
  | some p =>
    cases e2 : toPy y with
    | none => rw [e1, e2] at h; cases h
    | some q =>
      rw [e1, e2] at h
      by_cases hz : SeqAt.shaped p = true ∧ SeqAt.shaped q = true
      · simp only [Option.bind_some, hz, and_self, if_true] at h
        exact ⟨p, q, rfl, rfl, hz.1, hz.2, Option.some.inj h⟩
      · simp only [Option.bind_some, hz, if_false] at h
        cases h
theorem ops_eq : OpS K (rEqD K.K) eqD := by
  intro fr ρ σ H dx dy vx vy d Q S e q
  unfold eqD at e
  cases e1 : eqB dx dy with
  | none => rw [e1] at e; cases e
  | some b =>
    rw [e1] at e
    cases e
    obtain ⟨p, r, h1, h2, h3, h4, h5⟩ := eqB_some e1
    obtain ⟨F1, B1, r1, k1⟩ := S.drop.top
    obtain ⟨F2, B2, r2, k2⟩ := S.top
    refine ⟨p, r, rep_dp k1 _ _ _ _ r1 h1, rep_dp k2 _ _ _ _ r2 h2, h3, h4, ?_⟩
    rw [h5]
    exact q _ H (S.drop.drop.pushF rfl)
theorem ops_ne : OpS K (rNeD K.K) neD := by
  intro fr ρ σ H dx dy vx vy d Q S e q
  unfold neD at e
  cases e1 : eqB dx dy with
  | none => rw [e1] at e; cases e
  | some b =>
    rw [e1] at e
    cases e
    obtain ⟨p, r, h1, h2, h3, h4, h5⟩ := eqB_some e1
    obtain ⟨F1, B1, r1, k1⟩ := S.drop.top
    obtain ⟨F2, B2, r2, k2⟩ := S.top
    refine ⟨p, r, rep_dp k1 _ _ _ _ r1 h1, rep_dp k2 _ _ _ _ r2 h2, h3, h4, ?_⟩
    rw [h5]
    exact q _ H (S.drop.drop.pushF rfl)
theorem CF.eqD (c : CF X K W k) (i : ι) : OpR (X i) (compareOp .Eq) (rEqD K.K) := by rw [← c.kk i]; exact op_eqD (c.room i).units
theorem CF.neD (c : CF X K W k) (i : ι) : OpR (X i) (compareOp .NotEq) (rNeD K.K) := by rw [← c.kk i]; exact op_neD (c.room i).units
theorem ed_eq (c : CF X K W k) (ha : ED X K W a fa) (hb : ED X K W b fb) : ED X K W (.Compare a [.Eq] [b] pos) (e2 eqD fa fb) := ed_cmp (fun i => c.eqD i) ops_eq ha hb (nomark _)
theorem ed_ne (c : CF X K W k) (ha : ED X K W a fa) (hb : ED X K W b fb) : ED X K W (.Compare a [.NotEq] [b] pos) (e2 neD fa fb) := ed_cmp (fun i => c.neD i) ops_ne ha hb (nomark _)
theorem td_eq (c : CF X K W k) (ha : ED X K W a fa) (hb : ED X K W b fb) : TD X K W (.Compare a [.Eq] [b] pos) (eB (e2 eqD fa fb)) := td_cmp (fun i => c.eqD i) ops_eq ha hb (nomark _)
theorem td_ne (c : CF X K W k) (ha : ED X K W a fa) (hb : ED X K W b fb) : TD X K W (.Compare a [.NotEq] [b] pos) (eB (e2 neD fa fb)) := td_cmp (fun i => c.neD i) ops_ne ha hb (nomark _)
/-! is None -/
def isN : D → Bool
  | .non => true
  | _ => false
theorem Sim.isN {fr : Fr} {ρ : Env} {σ : L2.St} {H : Hp} {d : D} {v : V} (S : Sim K fr (some d :: ρ) (some v :: σ) H) : decide (v = .non) = DL.isN d := by
  obtain ⟨F, B, r, _⟩ := S.top
  cases d with
  | non => obtain ⟨rfl, _⟩ := r; rfl
  | bl b => obtain ⟨rfl, _⟩ := r; rfl
  | int b => obtain ⟨rfl, _⟩ := r; rfl
  | str b => obtain ⟨rfl, _⟩ := r; rfl
  | adr b => obtain ⟨rfl, _⟩ := r; rfl
  | scr ns => obtain ⟨_, a, rfl, _⟩ := r; rfl
  | tup ds => obtain ⟨_, a, xs, rfl, _⟩ := r; rfl
  | lst o ds => cases o with
    | false => obtain ⟨_, a, xs, rfl, _⟩ := r; rfl
    | true => obtain ⟨a, xs, B, rfl, _⟩ := r; rfl
  | dk o ks ds => cases o with
    | false => obtain ⟨_, a, xs, rfl, _⟩ := r; rfl
    | true => obtain ⟨a, xs, B, rfl, _⟩ := r; rfl
  | dt o ks ds => cases o with
    | false => obtain ⟨_, a, xs, rfl, _⟩ := r; rfl
    | true => obtain ⟨a, xs, B, rfl, _⟩ := r; rfl
  | obj o c ns ds => cases o with
    | false => obtain ⟨_, a, C, dx, fs, rfl, _⟩ := r; rfl
    | true => obtain ⟨a, C, dx, fs, B, rfl, _⟩ := r; rfl
def eIsN (f : M D) : M D := mbind f fun d => mret (.bl (isN d))
def eNotN (f : M D) : M D := mbind f fun d => mret (.bl !(isN d))
theorem sim_isN {t : TE} (s : ∀ fr ρ σ H Q, Sim K fr ρ σ H → QE K W fr σ (fa ρ) Q → t σ H Q) {fr : Fr} {ρ : Env} {σ : L2.St} {H : Hp} {Q : VK} (S : Sim K fr ρ σ H) (q : QE K W fr σ (eIsN fa ρ) Q) : tIsN t σ H Q := by
  refine s fr ρ σ H _ S ((QR.bind q).mono fun d ρ1 q1 v H1 S1 => ?_)
  show Q (.bl (decide (v = .non))) H1
  rw [S1.isN]
  exact q1 _ H1 (S1.drop.pushF rfl)
theorem sim_notN {t : TE} (s : ∀ fr ρ σ H Q, Sim K fr ρ σ H → QE K W fr σ (fa ρ) Q → t σ H Q) {fr : Fr} {ρ : Env} {σ : L2.St} {H : Hp} {Q : VK} (S : Sim K fr ρ σ H) (q : QE K W fr σ (eNotN fa ρ) Q) : tNotN t σ H Q := by
  refine s fr ρ σ H _ S ((QR.bind q).mono fun d ρ1 q1 v H1 S1 => ?_)
  show Q (.bl (!decide (v = .non))) H1
  rw [S1.isN]
  exact q1 _ H1 (S1.drop.pushF rfl)
theorem ed_isN {j pos'} (ha : ED X K W a fa) : ED X K W (.Compare a [.Is] [.Constant .none j pos'] pos) (eIsN fa) := by
  obtain ⟨t, p, s⟩ := ha.ex
  exact ⟨tIsN t, (fun i => pe_cmp (pc_isN (p i)) rfl), fun fr ρ σ H Q S q => sim_isN s S q⟩
theorem ed_notN {j pos'} (ha : ED X K W a fa) : ED X K W (.Compare a [.IsNot] [.Constant .none j pos'] pos) (eNotN fa) := by
  obtain ⟨t, p, s⟩ := ha.ex
  exact ⟨tNotN t, (fun i => pe_cmp (pc_notN (p i)) rfl), fun fr ρ σ H Q S q => sim_notN s S q⟩
theorem td_isN {j pos'} (ha : ED X K W a fa) : TD X K W (.Compare a [.Is] [.Constant .none j pos'] pos) (eB (eIsN fa)) := by
  obtain ⟨t, p, s⟩ := ha.ex
  exact ⟨tB (tIsN t), (fun i => pt_cmp (pc_isN (p i)) rfl), fun fr ρ σ H Q S q => sim_tTest (fun fr ρ σ H Q S q => sim_isN s S q) S q⟩
theorem td_notN {j pos'} (ha : ED X K W a fa) : TD X K W (.Compare a [.IsNot] [.Constant .none j pos'] pos) (eB (eNotN fa)) := by
  obtain ⟨t, p, s⟩ := ha.ex
  exact ⟨tB (tNotN t), (fun i => pt_cmp (pc_notN (p i)) rfl), fun fr ρ σ H Q S q => sim_tTest (fun fr ρ σ H Q S q => sim_notN s S q) S q⟩
/-! chains: the middle one is asked once; it is flat -/
def eChain (F G : D → D → Option D) (fa fb fc : M D) : M D := mbind fa fun x => mbind fb fun y => mbind (mlift (F x y)) fun r => mbind (mlift (isB r)) fun k => if k = true then (if (flat y).isSome = true then mbind fc fun z => mlift (G y z) else mlift none) else mret (.bl false)
theorem sim_chain {r r' : R2} {F G : D → D → Option D} (ho : OpS K r F) (ho' : OpS K r' G) {ta tb tc : TE} (sa : ∀ fr ρ σ H Q, Sim K fr ρ σ H → QE K W fr σ (fa ρ) Q → ta σ H Q) (sb : ∀ fr ρ σ H Q, Sim K fr ρ σ H → QE K W fr σ (fb ρ) Q → tb σ H Q) (sc : ∀ fr ρ σ H Q, Sim K fr ρ σ H → QE K W fr σ (fc ρ) Q → tc σ H Q)
    {fr : Fr} {ρ : Env} {σ : L2.St} {H : Hp} {Q : VK} (S : Sim K fr ρ σ H) (q : QE K W fr σ (eChain F G fa fb fc ρ) Q) : tChain r r' ta tb tc σ H Q := by
  refine sa fr ρ σ H _ S ((QR.bind q).mono fun dx ρ1 q1 vx H1 S1 => ?_)
  refine two S1 sb (QR.bind q1) fun dy ρ2 vy H2 q2 S2 => ?_
  obtain ⟨d, e, q3⟩ := QR.lift (QR.bind q2)
  obtain ⟨k, ek, q4⟩ := QR.lift (QR.bind q3)
  have := isB_eq ek
  subst this
  have hS2 := S2
  refine ho fr ρ2 σ H2 dx dy vx vy (.bl k) _ S2 e fun v H3 S3 => ?_
  have := S3.topF rfl
  subst this
  refine ⟨k, rfl, ?_⟩
  cases k with
  | false =>
    rw [if_neg Bool.false_ne_true] at q4 ⊢
    exact q4 _ H3 S3
  | true =>
    rw [if_pos rfl] at q4 ⊢
    by_cases hf : (flat dy).isSome = true
    · simp only [hf, if_true] at q4
      obtain ⟨u, hu⟩ := Option.isSome_iff_exists.mp hf
      have := hS2.topF hu
      subst this
      have S4 : Sim K fr (some dy :: ρ2) (some vy :: σ) H3 := S3.drop.pushF hu
      refine two S4 sc (QR.bind q4) fun dz ρ3 vz H4 q5 S5 => ?_
      obtain ⟨d', e', q6⟩ := QR.lift q5
      exact ho' fr ρ3 σ H4 dy dz vy vz d' Q S5 e' q6
    · simp only [hf] at q4
      exact q4.elim
theorem ed_chain {op op' : CmpOp} {r r' : R2} {F G : D → D → Option D} (h : ∀ i, OpR (X i) (compareOp op) r) (h' : ∀ i, OpR (X i) (compareOp op') r') (ho : OpS K r F) (ho' : OpS K r' G) (ha : ED X K W a fa) (hb : ED X K W b fb) (hc : ED X K W c' fc) (hm : lastMarks [op, op'] [b, c'] = false := by with_unfolding_all rfl) :
    ED X K W (.Compare a [op, op'] [b, c'] pos) (eChain F G fa fb fc) := by
  obtain ⟨ta, pa, sa⟩ := ha.ex
  obtain ⟨tb, pb, sb⟩ := hb.ex
  obtain ⟨tc, pc, sc⟩ := hc.ex
  exact ⟨tChain r r' ta tb tc, (fun i => pe_chain (h i) (h' i) (pa i) (pb i) (pc i) hm), fun fr ρ σ H Q S q => sim_chain ho ho' sa sb sc S q⟩
theorem td_chain {op op' : CmpOp} {r r' : R2} {F G : D → D → Option D} (h : ∀ i, OpR (X i) (compareOp op) r) (h' : ∀ i, OpR (X i) (compareOp op') r') (ho : OpS K r F) (ho' : OpS K r' G) (ha : ED X K W a fa) (hb : ED X K W b fb) (hc : ED X K W c' fc) (hm : lastMarks [op, op'] [b, c'] = false := by with_unfolding_all rfl) :
    TD X K W (.Compare a [op, op'] [b, c'] pos) (eB (eChain F G fa fb fc)) := by
  obtain ⟨ta, pa, sa⟩ := ha.ex
  obtain ⟨tb, pb, sb⟩ := hb.ex
  obtain ⟨tc, pc, sc⟩ := hc.ex
  exact ⟨tTest (tChain r r' ta tb tc), (fun i => pt_chain (h i) (h' i) (pa i) (pb i) (pc i) hm), fun fr ρ σ H Q S q => sim_tTest (fun fr ρ σ H Q S q => sim_chain ho ho' sa sb sc S q) S q⟩
end
end DL

set_option Elab.async false
set_option linter.all false
set_option maxRecDepth 100000
set_option maxHeartbeats 4000000
namespace DL
open PySem PySem.Spec L2
/-! ### isinstance of built-in types -/
inductive Ty where
  | int | bool | str | tuple | list | dict
def Ty.nm : Ty → String
  | .int => "int"
  | .bool => "bool"
  | .str => "str"
  | .tuple => "tuple"
  | .list => "list"
  | .dict => "dict"
def tyN : D → Option String
  | .non => some "NoneType"
  | .bl _ => some "bool"
  | .int _ => some "int"
  | .str _ => some "str"
  | .adr _ => none
  | .scr _ => some "list"
  | .tup _ => some "tuple"
  | .lst _ _ => some "list"
  | .dk _ _ _ => some "dict"
  | .dt _ _ _ => some "dict"
  | .obj _ _ _ _ => none
def instB : Ty → D → Option Bool
  | _, .adr _ => none
  | _, .obj _ _ _ _ => none
  | .int, .int _ => some true
  | .int, .bl _ => some true
  | .bool, .bl _ => some true
  | .str, .str _ => some true
  | .tuple, .tup _ => some true
  | .list, .lst _ _ => some true
  | .list, .scr _ => some true
  | .dict, .dk _ _ _ => some true
  | .dict, .dt _ _ _ => some true
  | _, _ => some false
theorem kitB_tab : ∀ t ∈ ["NoneType", "bool", "int", "str", "list", "tuple", "dict"], ∀ T ∈ ["int", "bool", "str", "tuple", "list", "dict"], kitB t T = some (t == T || (t == "bool" && T == "int")) := by decide +kernel
theorem instB_kit {T : Ty} {d : D} {b : Bool} (h : instB T d = some b) : ∃ t, tyN d = some t ∧ kitB t T.nm = some b := by
  have go : ∀ t, t ∈ ["NoneType", "bool", "int", "str", "list", "tuple", "dict"] → (t == T.nm || (t == "bool" && T.nm == "int")) = b → kitB t T.nm = some b := fun t ht e => by
    rw [← e]
    refine kitB_tab t ht T.nm ?_
    cases T <;> simp [Ty.nm]
  cases d with
  | adr a => cases T <;> cases h
  | obj o c ns ds => cases T <;> cases h
  | non => exact ⟨_, rfl, go _ (by simp) (by cases T <;> cases h <;> rfl)⟩
  | bl x => exact ⟨_, rfl, go _ (by simp) (by cases T <;> cases h <;> rfl)⟩
  | int x => exact ⟨_, rfl, go _ (by simp) (by cases T <;> cases h <;> rfl)⟩
  | str x => exact ⟨_, rfl, go _ (by simp) (by cases T <;> cases h <;> rfl)⟩
  | scr x => exact ⟨_, rfl, go _ (by simp) (by cases T <;> cases h <;> rfl)⟩
  | tup x => exact ⟨_, rfl, go _ (by simp) (by cases T <;> cases h <;> rfl)⟩
  | lst o x => exact ⟨_, rfl, go _ (by simp) (by cases T <;> cases h <;> rfl)⟩
  | dk o ks x => exact ⟨_, rfl, go _ (by simp) (by cases T <;> cases h <;> rfl)⟩
  | dt o ks x => exact ⟨_, rfl, go _ (by simp) (by cases T <;> cases h <;> rfl)⟩
theorem rd_ty {K : PySem.W.Frag} {H : Hp} {a : Addr} {xs : List V} (h : SqL K H a xs) : TyX K H (.ref a) (.type "list") := by
  rcases h with (h | ⟨o, h⟩) | ⟨o, its, n, h, c, _⟩
  · exact .base (.lst h)
  · exact .base (.frz h)
  · exact .kList h c
theorem rd_tyT {K : PySem.W.Frag} {H : Hp} {a : Addr} {xs : List V} (h : SqT K H a xs) : TyX K H (.ref a) (.type "tuple") := by
  rcases h with (h | ⟨o, h⟩) | ⟨o, its, n, h, c, _⟩
  · exact .base (.tup h)
  · exact .fTuple h
  · exact .kTuple h c
section
variable {K : RC} {fr : Fr} {ρ : Env} {σ : L2.St} {H : Hp} {d : D} {v : V}
theorem Sim.ty {t : String} (S : Sim K fr (some d :: ρ) (some v :: σ) H) (e : tyN d = some t) : TyX K.K H v (.type t) := by
  obtain ⟨F, B, r, k⟩ := S.top
  cases d with
  | non => cases e; obtain ⟨rfl, _⟩ := r; exact .base .non
  | bl b => cases e; obtain ⟨rfl, _⟩ := r; exact .base (.bl b)
  | int b => cases e; obtain ⟨rfl, _⟩ := r; exact .base (.int b)
  | str b => cases e; obtain ⟨rfl, _⟩ := r; exact .base (.str b)
  | adr b => cases e
  | scr ns => cases e; obtain ⟨_, a, rfl, s⟩ := r; exact rd_ty (SqL.mono k s)
  | tup ds => cases e; obtain ⟨_, a, xs, rfl, s, _⟩ := r; exact rd_tyT (SqT.mono k s)
  | lst o ds => cases e; cases o with
    | false => obtain ⟨_, a, xs, rfl, s, _⟩ := r; exact .base (.lst (k _ _ s))
    | true => obtain ⟨a, xs, B, rfl, _, s, _⟩ := r; exact .base (.lst s)
  | dk o ks ds => cases e; cases o with
    | false => obtain ⟨_, a, xs, rfl, s, _⟩ := r; exact .base (.dK (k _ _ s))
    | true => obtain ⟨a, xs, B, rfl, _, s, _⟩ := r; exact .base (.dK s)
  | dt o ks ds => cases e; cases o with
    | false => obtain ⟨_, a, xs, rfl, s, _⟩ := r; exact .base (.dT (k _ _ s))
    | true => obtain ⟨a, xs, B, rfl, _, s, _⟩ := r; exact .base (.dT s)
  | obj o c ns ds => cases e
end
def eInst (T : Ty) (f : M D) : M D := mbind f fun d => mbind (mlift (instB T d)) fun b => mret (.bl b)
section
variable {ι : Type} {X : ι → Cx} {K : RC} {W : WX} {k : Nat} {e a b : Expr} {es : List Expr} {f fa fb : M D} {g : M (List D)} {pos : Pos}
theorem boot_ty (T : Ty) : bootBuiltins (Str.ofString T.nm) = some (.type T.nm) := by cases T <;> decide +kernel
theorem ed_inst (T : Ty) {y : Str} {p p2 : Pos} (c : CF X K W k) (hg : ∀ i, Gl (X i) "isinstance") (hm : K.mg "isinstance" = none) (hg2 : ∀ i, Gl (X i) y) (hm2 : K.mg y = none) (hv : bootBuiltins y = some (.type T.nm)) (ha : ED X K W a fa)
    (hn : y ≠ "__name__" := by decide) (hdb : (y == ("__debug__" : Str)) = false := by decide) (he : ∀ i, starEach (a :: [.Name y p2]) (X i).env = (false, eval a (X i).env) :: starEach [.Name y p2] (X i).env := by intro _; rfl) (he2 : ∀ i, starEach [.Name y p2] (X i).env = (false, eval (.Name y p2) (X i).env) :: starEach [] (X i).env := by intro _; rfl)
    (hpl : ∀ i, (backTo pos (starEach [.Name y p2] (X i).env)).any (·.1) = false := by intro _; rfl) : ED X K W (.Call (.Name "isinstance" p) [a, .Name y p2] [] pos) (eInst T fa) := by
  obtain ⟨t, pa, s⟩ := ha.ex
  refine ⟨tCB (rIsi K.K) (tCons t (tCons (tC (.ty T.nm)) tNil)), (fun i => ?_), fun fr ρ σ H Q S q => s fr ρ σ H _ S ((QR.bind q).mono fun d ρ1 q1 v H1 S1 => ?_)⟩
  · have h := pe_callB (X := X i) (p := p) (pos := pos) call_isi (hg i) (by rw [c.mg i]; exact hm) (by decide +kernel) (pa_cons (pa i) (pa_cons (pe_bltn (pos := p2) (hg2 i) (by rw [c.mg i]; exact hm2) hv (show RelV (.ty T.nm) (.type T.nm) from rfl) hn hdb) pa_nil (he2 i)) (he i)) (by decide) (by decide) (he i) (hpl i)
    rw [c.kk i] at h
    exact h
  · obtain ⟨b, e1, q2⟩ := QR.lift (QR.bind q1)
    obtain ⟨t', e2, e3⟩ := instB_kit e1
    exact ⟨v, .ty T.nm, .type t', .type T.nm, b, rfl, .ty _, S1.ty e2, kit_ty e3, q2 _ H1 (S1.drop.pushF rfl)⟩
/-! ### len, int, bool, tuple, list, abs, max, min, all, any, sum -/
def lenD : List D → Option D
  | [.str x] => if x.length ≤ sizeLine then some (.int x.length) else none
  | [.dk _ ks _] => some (.int ks.length)
  | [d] => (items d).map fun ds => .int ds.length
  | _ => none
def rLenA (K : PySem.W.Frag) : List V → Hp → VK → Prop := fun xs H Q => (∃ p ys, xs = [.ref p] ∧ (SqL K H p ys ∨ SqT K H p ys) ∧ Q (.int ys.length) H) ∨ ((∃ z, xs = [.str z] ∧ z.length ≤ sizeLine ∧ Q (.int z.length) H) ∨ (∃ (p : Addr) (kvs : List (Key × V)), xs = [.ref p] ∧ H p = some (.dK kvs) ∧ Q (.int ((kvs.length : Nat) : Int)) H))
theorem CallR.or {X : Cx} {f : Value} {r r' : List V → Hp → VK → Prop} (h : CallR X f r) (h' : CallR X f r') : CallR X f (fun xs H Q => r xs H Q ∨ r' xs H Q) := by
  intro pins s σ H xs us Q I rx q
  rcases q with q | q
  · exact h pins s σ H xs us Q I rx q
  · exact h' pins s σ H xs us Q I rx q
theorem len_strR {X : Cx} : CallR X (.builtin "len") (fun xs H Q => ∃ z, xs = [.str z] ∧ z.length ≤ sizeLine ∧ Q (.int z.length) H) := by
  intro pins s σ H xs us Q I rx q
  obtain ⟨z, rfl, hz, q⟩ := q
  exact call_len pins s σ H _ us Q I rx ⟨.str z, z.length, rfl, ⟨hz, rfl⟩, q⟩
theorem call_lenA {X : Cx} : CallR X (.builtin "len") (rLenA X.K) := CallR.or call_len_seq (CallR.or len_strR (by
  intro pins s σ H xs us Q I rx q
  obtain ⟨p, kvs, rfl, h, q⟩ := q
  exact call_lenD pins s σ H _ us Q I rx ⟨p, kvs, rfl, h, q⟩))
theorem one_of {ds : List D} {vs : List V} {d : D} (hl : vs.length = ds.length) (e : ds = [d]) : ∃ v, vs = [v] := by
  subst e
  match vs, hl with
  | [v], _ => exact ⟨v, rfl⟩
theorem cas_len : CaS K (rLenA K.K) lenD := by
  intro fr ρ σ H ds vs d Q hl S e q
  have one : ∃ d0, ds = [d0] := by
    unfold lenD at e
    split at e
    · exact ⟨_, rfl⟩
    · exact ⟨_, rfl⟩
    · exact ⟨_, rfl⟩
    · cases e
  obtain ⟨d0, rfl⟩ := one
  · obtain ⟨v, rfl⟩ := one_of hl rfl
    have S : Sim K fr (some d0 :: ρ) (some v :: σ) H := S
    have seq : ∀ xs, items d0 = some xs → d = .int xs.length → rLenA K.K [v] H Q := fun xs hi hd => by
      obtain ⟨p, us, rfl, h2, h3, _, S1⟩ := S.explode hi
      subst hd
      refine .inl ⟨p, us, rfl, ?_, ?_⟩
      · by_cases hk : isL d0 = true
        · rw [if_pos hk] at h3; exact .inl h3
        · rw [if_neg hk] at h3; exact .inr h3
      · rw [h2]; exact q _ H (S.drop.pushF rfl)
    cases d0 with
    | str x =>
      unfold lenD at e
      by_cases hz : x.length ≤ sizeLine
      · simp only [hz, if_true] at e
        cases e
        exact .inr (.inl ⟨x, by rw [S.topF rfl], hz, q _ H (S.drop.pushF rfl)⟩)
      · simp only [hz, if_false] at e
        cases e
    | dk o ks xs =>
      cases e
      obtain ⟨F, B, r, kk⟩ := S.top
      cases o with
      | false =>
        obtain ⟨_, a, kvs, rfl, s, rfl, _⟩ := r
        refine .inr (.inr ⟨a, kvs, rfl, kk _ _ s, ?_⟩)
        have z := q _ H (S.drop.pushF rfl)
        rw [List.length_map] at z
        exact z
      | true =>
        obtain ⟨a, kvs, B, rfl, _, s, rfl, _⟩ := r
        refine .inr (.inr ⟨a, kvs, rfl, s, ?_⟩)
        have z := q _ H (S.drop.pushF rfl)
        rw [List.length_map] at z
        exact z
    | tup xs => exact seq xs rfl (by cases e; rfl)
    | lst o xs => exact seq xs rfl (by cases e; rfl)
    | scr ns => exact seq _ rfl (by cases e; rfl)
    | _ => cases e
theorem ed_len {p : Pos} (c : CF X K W k) (hg : ∀ i, Gl (X i) "len") (hm : K.mg "len" = none) (ha : AM X K W [a] g []) (he : ∀ i, starEach [a] (X i).env = (false, eval a (X i).env) :: starEach [] (X i).env := by intro _; rfl) (hpl : ∀ i, (backTo pos (starEach [] (X i).env)).any (·.1) = false := by intro _; rfl) :
    ED X K W (.Call (.Name "len" p) [a] [] pos) (eBi lenD g) := ed_bi (r := rLenA K.K) c (fun i => by rw [← c.kk i]; exact call_lenA) cas_len hg hm (by decide +kernel) ha (by decide) (by decide) he hpl
def intD : List D → Option D
  | [.int i] => some (.int i)
  | [.bl b] => some (.int (if b then 1 else 0))
  | _ => none
theorem cas_int : CaS K (fun xs H Q => (∃ i, xs = [.int i] ∧ Q (.int i) H) ∨ ∃ k, xs = [.bl k] ∧ Q (.int (if k then 1 else 0)) H) intD := by
  intro fr ρ σ H ds vs d Q hl S e q
  unfold intD at e
  split at e
  · rename_i i
    obtain ⟨v, rfl⟩ := one_of hl rfl
    have S : Sim K fr (some (.int i) :: ρ) (some v :: σ) H := S
    cases e
    exact .inl ⟨i, by rw [S.topF rfl], q _ H (S.drop.pushF rfl)⟩
  · rename_i b
    obtain ⟨v, rfl⟩ := one_of hl rfl
    have S : Sim K fr (some (.bl b) :: ρ) (some v :: σ) H := S
    cases e
    exact .inr ⟨b, by rw [S.topF rfl], q _ H (S.drop.pushF rfl)⟩
  · cases e
theorem ed_toint {p : Pos} (c : CF X K W k) (hg : ∀ i, Gl (X i) "int") (hm : K.mg "int" = none) (ha : AM X K W [a] g []) (he : ∀ i, starEach [a] (X i).env = (false, eval a (X i).env) :: starEach [] (X i).env := by intro _; rfl) (hpl : ∀ i, (backTo pos (starEach [] (X i).env)).any (·.1) = false := by intro _; rfl) :
    ED X K W (.Call (.Name "int" p) [a] [] pos) (eBi intD g) := ed_ty c (fun i => call_int1) cas_int hg hm (by decide +kernel) ha (by decide) (by decide) he hpl
/-! tuple(x), list(x) -/
def tupleD : List D → Option D
  | [.tup ds] => some (.tup ds)
  | [d] => (items d).map fun ds => .tup (frzL ds)
  | _ => none
theorem cas_tuple : CaS K (fun xs H Q => ∃ p ys, xs = [.ref p] ∧ ((SqL K.K H p ys ∧ ∀ l, H l = none → Q (.ref l) (upd H l (.tup ys))) ∨ (SqT K.K H p ys ∧ Q (.ref p) H))) tupleD := by
  intro fr ρ σ H ds vs d Q hl S e q
  have one : ∃ d0, ds = [d0] := by
    unfold tupleD at e
    split at e
    · exact ⟨_, rfl⟩
    · exact ⟨_, rfl⟩
    · cases e
  obtain ⟨d0, rfl⟩ := one
  · obtain ⟨v, rfl⟩ := one_of hl rfl
    have S : Sim K fr (some d0 :: ρ) (some v :: σ) H := S
    cases d0 with
    | tup xs =>
      cases e
      obtain ⟨p, us, rfl, h2, h3, _, S1⟩ := S.explode (ds := xs) rfl
      exact ⟨p, us, rfl, .inr ⟨h3, q _ H S⟩⟩
    | lst o xs =>
      cases e
      obtain ⟨p, us, rfl, h2, h3, _, S1⟩ := S.explode (ds := xs) rfl
      exact ⟨p, us, rfl, .inl ⟨h3, fun l hl => q _ _ (S1.newT h2 hl)⟩⟩
    | scr ns =>
      cases e
      obtain ⟨p, us, rfl, h2, h3, _, S1⟩ := S.explode (ds := ns.map D.int) rfl
      exact ⟨p, us, rfl, .inl ⟨h3, fun l hl => q _ _ (S1.newT h2 hl)⟩⟩
    | _ => cases e
theorem ed_tuple {p : Pos} (c : CF X K W k) (hg : ∀ i, Gl (X i) "tuple") (hm : K.mg "tuple" = none) (ha : AM X K W [a] g []) (he : ∀ i, starEach [a] (X i).env = (false, eval a (X i).env) :: starEach [] (X i).env := by intro _; rfl) (hpl : ∀ i, (backTo pos (starEach [] (X i).env)).any (·.1) = false := by intro _; rfl) :
    ED X K W (.Call (.Name "tuple" p) [a] [] pos) (eBi tupleD g) := ed_ty (r := fun xs H Q => ∃ p ys, xs = [.ref p] ∧ ((SqL K.K H p ys ∧ ∀ l, H l = none → Q (.ref l) (upd H l (.tup ys))) ∨ (SqT K.K H p ys ∧ Q (.ref p) H))) c (fun i => by rw [← c.kk i]; exact call_tuple_of) cas_tuple hg hm (by decide +kernel) ha (by decide) (by decide) he hpl
def listD : List D → Option D
  | [d] => (items d).map fun ds => .lst true ds
  | _ => none
theorem cas_list : CaS K (fun xs H Q => ∃ p ys, xs = [.ref p] ∧ (SqL K.K H p ys ∨ SqT K.K H p ys) ∧ ∀ l, H l = none → Q (.ref l) (upd H l (.lst ys))) listD := by
  intro fr ρ σ H ds vs d Q hl S e q
  have one : ∃ d0, ds = [d0] := by
    unfold listD at e
    split at e
    · exact ⟨_, rfl⟩
    · cases e
  obtain ⟨d0, rfl⟩ := one
  · obtain ⟨v, rfl⟩ := one_of hl rfl
    have S : Sim K fr (some d0 :: ρ) (some v :: σ) H := S
    have e : (items d0).map (fun ds => D.lst true ds) = some d := e
    cases hi : items d0 with
    | none => rw [hi] at e; cases e
    | some xs =>
      rw [hi] at e
      cases e
      obtain ⟨p, us, rfl, h2, h3, _, S1⟩ := S.explode hi
      refine ⟨p, us, rfl, ?_, fun l hl => q _ _ (S1.newL h2 hl)⟩
      by_cases hk : isL d0 = true
      · rw [if_pos hk] at h3; exact .inl h3
      · rw [if_neg hk] at h3; exact .inr h3
theorem ed_list {p : Pos} (c : CF X K W k) (hg : ∀ i, Gl (X i) "list") (hm : K.mg "list" = none) (ha : AM X K W [a] g []) (he : ∀ i, starEach [a] (X i).env = (false, eval a (X i).env) :: starEach [] (X i).env := by intro _; rfl) (hpl : ∀ i, (backTo pos (starEach [] (X i).env)).any (·.1) = false := by intro _; rfl) :
    ED X K W (.Call (.Name "list" p) [a] [] pos) (eBi listD g) := ed_ty (r := fun xs H Q => ∃ p ys, xs = [.ref p] ∧ (SqL K.K H p ys ∨ SqT K.K H p ys) ∧ ∀ l, H l = none → Q (.ref l) (upd H l (.lst ys))) c (fun i => by rw [← c.kk i]; exact call_list_of) cas_list hg hm (by decide +kernel) ha (by decide) (by decide) he hpl
/-! two intsL -/
def max2D : List D → Option D
  | [.int i, .int j] => some (.int (if j > i then j else i))
  | _ => none
def min2D : List D → Option D
  | [.int i, .int j] => some (.int (if j < i then j else i))
  | _ => none
def absD : List D → Option D
  | [.int i] => some (.int (if i < 0 then -i else i))
  | _ => none
theorem two_ints {fr : Fr} {ρ : Env} {σ : L2.St} {H : Hp} {i j : Int} {vs : List V} (hl : vs.length = [D.int i, D.int j].length) (S : Sim K fr ([D.int i, D.int j].map some ++ ρ) (vs.map some ++ σ) H) : vs = [.int i, .int j] ∧ Sim K fr ρ σ H := by
  match vs, hl with
  | [u, v], _ =>
    have S : Sim K fr (some (.int i) :: some (.int j) :: ρ) (some u :: some v :: σ) H := S
    rw [S.topF rfl, S.drop.topF rfl]
    exact ⟨rfl, S.drop.drop⟩
theorem cas_max2 : CaS K (fun xs H Q => ∃ i j, xs = [.int i, .int j] ∧ Q (.int (if j > i then j else i)) H) max2D := by
  intro fr ρ σ H ds vs d Q hl S e q
  unfold max2D at e
  split at e
  rotate_left
  · cases e
  · rename_i i j
    cases e
    obtain ⟨rfl, S'⟩ := two_ints hl S
    exact ⟨i, j, rfl, q _ H (S'.pushF rfl)⟩
theorem cas_min2 : CaS K (fun xs H Q => ∃ i j, xs = [.int i, .int j] ∧ Q (.int (if j < i then j else i)) H) min2D := by
  intro fr ρ σ H ds vs d Q hl S e q
  unfold min2D at e
  split at e
  rotate_left
  · cases e
  · rename_i i j
    cases e
    obtain ⟨rfl, S'⟩ := two_ints hl S
    exact ⟨i, j, rfl, q _ H (S'.pushF rfl)⟩
theorem cas_abs : CaS K (fun xs H Q => ∃ i, xs = [.int i] ∧ Q (.int (if i < 0 then -i else i)) H) absD := by
  intro fr ρ σ H ds vs d Q hl S e q
  unfold absD at e
  split at e
  rotate_left
  · cases e
  · rename_i i
    obtain ⟨v, rfl⟩ := one_of hl rfl
    have S : Sim K fr (some (.int i) :: ρ) (some v :: σ) H := S
    cases e
    exact ⟨i, by rw [S.topF rfl], q _ H (S.drop.pushF rfl)⟩
theorem ed_max2 {p : Pos} (c : CF X K W k) (hg : ∀ i, Gl (X i) "max") (hm : K.mg "max" = none) (ha : AM X K W [a, b] g []) (he : ∀ i, starEach [a, b] (X i).env = (false, eval a (X i).env) :: starEach [b] (X i).env := by intro _; rfl) (hpl : ∀ i, (backTo pos (starEach [b] (X i).env)).any (·.1) = false := by intro _; rfl) :
    ED X K W (.Call (.Name "max" p) [a, b] [] pos) (eBi max2D g) := ed_bi c (fun i => call_max2 (c.calm i)) cas_max2 hg hm (by decide +kernel) ha (by decide) (by decide) he hpl
theorem ed_min2 {p : Pos} (c : CF X K W k) (hg : ∀ i, Gl (X i) "min") (hm : K.mg "min" = none) (ha : AM X K W [a, b] g []) (he : ∀ i, starEach [a, b] (X i).env = (false, eval a (X i).env) :: starEach [b] (X i).env := by intro _; rfl) (hpl : ∀ i, (backTo pos (starEach [b] (X i).env)).any (·.1) = false := by intro _; rfl) :
    ED X K W (.Call (.Name "min" p) [a, b] [] pos) (eBi min2D g) := ed_bi c (fun i => call_min2 (c.calm i)) cas_min2 hg hm (by decide +kernel) ha (by decide) (by decide) he hpl
theorem ed_abs {p : Pos} (c : CF X K W k) (hg : ∀ i, Gl (X i) "abs") (hm : K.mg "abs" = none) (ha : AM X K W [a] g []) (he : ∀ i, starEach [a] (X i).env = (false, eval a (X i).env) :: starEach [] (X i).env := by intro _; rfl) (hpl : ∀ i, (backTo pos (starEach [] (X i).env)).any (·.1) = false := by intro _; rfl) :
    ED X K W (.Call (.Name "abs" p) [a] [] pos) (eBi absD g) := ed_bi c (fun i => call_abs) cas_abs hg hm (by decide +kernel) ha (by decide) (by decide) he hpl
/-! lists of boolsL, of intsL -/
def boolsL : List D → Option (List Bool)
  | [] => some []
  | .bl b :: ds => (boolsL ds).map fun bs => b :: bs
  | _ => none
def intsL : List D → Option (List Int)
  | [] => some []
  | .int i :: ds => (intsL ds).map fun is => i :: is
  | _ => none
theorem bools_rep {F H : Hp} : ∀ {ds : List D} {bs : List Bool} {vs : List V} {A : List Addr}, boolsL ds = some bs → RepL K F H ds vs A → vs = bs.map V.bl
  | [], bs, vs, A, e, r => by cases e; exact r.1
  | d :: ds, bs, vs, A, e, r => by
    obtain ⟨v, ws, B, C, rfl, rfl, r1, r2⟩ := r
    cases d with
    | bl b =>
      unfold boolsL at e
      cases e1 : boolsL ds with
      | none => rw [e1] at e; cases e
      | some bs' =>
        rw [e1] at e
        cases e
        rw [r1.1, bools_rep e1 r2]
        rfl
    | _ => cases e
theorem ints_rep {F H : Hp} : ∀ {ds : List D} {bs : List Int} {vs : List V} {A : List Addr}, intsL ds = some bs → RepL K F H ds vs A → vs = bs.map V.int
  | [], bs, vs, A, e, r => by cases e; exact r.1
  | d :: ds, bs, vs, A, e, r => by
    obtain ⟨v, ws, B, C, rfl, rfl, r1, r2⟩ := r
    cases d with
    | int b =>
      unfold intsL at e
      cases e1 : intsL ds with
      | none => rw [e1] at e; cases e
      | some bs' =>
        rw [e1] at e
        cases e
        rw [r1.1, ints_rep e1 r2]
        rfl
    | _ => cases e
/-- a list's reps -/
theorem Sim.lstRep {fr : Fr} {ρ : Env} {σ : L2.St} {H : Hp} {o : Bool} {ds : List D} {v : V} (S : Sim K fr (some (.lst o ds) :: ρ) (some v :: σ) H) : ∃ a xs F B, v = .ref a ∧ H a = some (.lst xs) ∧ RepL K F H ds xs B := by
  obtain ⟨F, B, r, kk⟩ := S.top
  cases o with
  | false => obtain ⟨_, a, xs, rfl, s, r⟩ := r; exact ⟨a, xs, F, [], rfl, kk _ _ s, r⟩
  | true => obtain ⟨a, xs, B, rfl, _, s, r⟩ := r; exact ⟨a, xs, F, B, rfl, s, r⟩
def allD : List D → Option D
  | [.lst _ ds] => (boolsL ds).map fun bs => .bl (bs.all id)
  | _ => none
def anyD : List D → Option D
  | [.lst _ ds] => (boolsL ds).map fun bs => .bl (bs.any id)
  | _ => none
def sumD : List D → Option D
  | [.lst _ ds] => (intsL ds).map fun is => .int is.sum
  | _ => none
theorem cas_all : CaS K (rAll K.K) allD := by
  intro fr ρ σ H ds vs d Q hl S e q
  unfold allD at e
  split at e
  rotate_left
  · cases e
  · rename_i o xs
    obtain ⟨v, rfl⟩ := one_of hl rfl
    have S : Sim K fr (some (.lst o xs) :: ρ) (some v :: σ) H := S
    cases hb : boolsL xs with
    | none => rw [hb] at e; cases e
    | some bs =>
      rw [hb] at e
      cases e
      obtain ⟨a, us, F, B, rfl, s, r⟩ := S.lstRep
      rw [bools_rep hb r] at s
      exact ⟨a, bs, rfl, SqL.of s, q _ H (S.drop.pushF rfl)⟩
theorem cas_any : CaS K (rAny K.K) anyD := by
  intro fr ρ σ H ds vs d Q hl S e q
  unfold anyD at e
  split at e
  rotate_left
  · cases e
  · rename_i o xs
    obtain ⟨v, rfl⟩ := one_of hl rfl
    have S : Sim K fr (some (.lst o xs) :: ρ) (some v :: σ) H := S
    cases hb : boolsL xs with
    | none => rw [hb] at e; cases e
    | some bs =>
      rw [hb] at e
      cases e
      obtain ⟨a, us, F, B, rfl, s, r⟩ := S.lstRep
      rw [bools_rep hb r] at s
      exact ⟨a, bs, rfl, SqL.of s, q _ H (S.drop.pushF rfl)⟩
theorem cas_sum : CaS K (rSum K.K) sumD := by
  intro fr ρ σ H ds vs d Q hl S e q
  unfold sumD at e
  split at e
  rotate_left
  · cases e
  · rename_i o xs
    obtain ⟨v, rfl⟩ := one_of hl rfl
    have S : Sim K fr (some (.lst o xs) :: ρ) (some v :: σ) H := S
    cases hb : intsL xs with
    | none => rw [hb] at e; cases e
    | some bs =>
      rw [hb] at e
      cases e
      obtain ⟨a, us, F, B, rfl, s, r⟩ := S.lstRep
      rw [ints_rep hb r] at s
      exact ⟨a, bs, rfl, SqL.of s, q _ H (S.drop.pushF rfl)⟩
theorem ed_all {p : Pos} (c : CF X K W k) (hg : ∀ i, Gl (X i) "all") (hm : K.mg "all" = none) (ha : AM X K W [a] g []) (he : ∀ i, starEach [a] (X i).env = (false, eval a (X i).env) :: starEach [] (X i).env := by intro _; rfl) (hpl : ∀ i, (backTo pos (starEach [] (X i).env)).any (·.1) = false := by intro _; rfl) :
    ED X K W (.Call (.Name "all" p) [a] [] pos) (eBi allD g) := ed_bi (r := rAll K.K) c (fun i => by rw [← c.kk i]; exact cr_all (c.calm i)) cas_all hg hm (by decide +kernel) ha (by decide) (by decide) he hpl
theorem ed_any {p : Pos} (c : CF X K W k) (hg : ∀ i, Gl (X i) "any") (hm : K.mg "any" = none) (ha : AM X K W [a] g []) (he : ∀ i, starEach [a] (X i).env = (false, eval a (X i).env) :: starEach [] (X i).env := by intro _; rfl) (hpl : ∀ i, (backTo pos (starEach [] (X i).env)).any (·.1) = false := by intro _; rfl) :
    ED X K W (.Call (.Name "any" p) [a] [] pos) (eBi anyD g) := ed_bi (r := rAny K.K) c (fun i => by rw [← c.kk i]; exact cr_any (c.calm i)) cas_any hg hm (by decide +kernel) ha (by decide) (by decide) he hpl
theorem ed_sum {p : Pos} (c : CF X K W k) (hg : ∀ i, Gl (X i) "sum") (hm : K.mg "sum" = none) (ha : AM X K W [a] g []) (he : ∀ i, starEach [a] (X i).env = (false, eval a (X i).env) :: starEach [] (X i).env := by intro _; rfl) (hpl : ∀ i, (backTo pos (starEach [] (X i).env)).any (·.1) = false := by intro _; rfl) :
    ED X K W (.Call (.Name "sum" p) [a] [] pos) (eBi sumD g) := ed_bi (r := rSum K.K) c (fun i => by rw [← c.kk i]; exact cr_sum (c.calm i)) cas_sum hg hm (by decide +kernel) ha (by decide) (by decide) he hpl
/-! tuple(range(..)), list(range(..)) -/
def rgD (a b : Int) : List D := (List.range (b - a).toNat).map fun i => .int (a + (i : Nat))
def rgOk (a b : Int) : Bool := decide (-(2 ^ 62) ≤ a ∧ a < 2 ^ 62 ∧ -(2 ^ 62) ≤ b ∧ b < 2 ^ 62 ∧ (b - a).toNat ≤ 2 ^ 24)
/-- a range's ends -/
structure RD {ι : Type} (X : ι → Cx) (K : RC) (W : WX) (e : Expr) (f : M (Int × Int)) : Prop where
  ex : ∃ t, (∀ i, PRg (X i) e t) ∧ ∀ fr ρ σ H (Q : Int → Int → Hp → Prop), Sim K fr ρ σ H → QR K W fr σ (f ρ) (fun p ρ' => ∀ H', Sim K fr ρ' σ H' → Q p.1 p.2 H') → t σ H Q
def rg1 (f : M D) : M (Int × Int) := mbind f fun d => mbind (mlift (isI d)) fun n => mret (0, n)
def rg2 (f g : M D) : M (Int × Int) := mbind f fun d => mbind g fun d' => mbind (mlift (isI d)) fun m => mbind (mlift (isI d')) fun n => mret (m, n)
theorem isI_eq {d : D} {i : Int} (h : isI d = some i) : d = .int i := by
  cases d <;> simp [isI] at h
  rw [h]
theorem rd_1 {p : Pos} (c : CF X K W k) (hg : ∀ i, Gl (X i) "range") (hm : K.mg "range" = none) (ha : ED X K W a fa) (na : ∀ i, starEach [a] (X i).env = (false, eval a (X i).env) :: starEach [] (X i).env := by intro _; rfl) : RD X K W (.Call (.Name "range" p) [a] [] pos) (rg1 fa) := by
  obtain ⟨t, pa, s⟩ := ha.ex
  refine ⟨tRg1 t, (fun i => prg_1 (hg i) (by rw [c.mg i]; exact hm) (pa i) (na i)), fun fr ρ σ H Q S q => s fr ρ σ H _ S ((QR.bind q).mono fun d ρ1 q1 v H1 S1 => ?_)⟩
  obtain ⟨n, e, q2⟩ := QR.lift (QR.bind q1)
  have := isI_eq e
  subst this
  exact ⟨n, S1.topF rfl, q2 H1 S1.drop⟩
theorem rd_2 {p : Pos} (c : CF X K W k) (hg : ∀ i, Gl (X i) "range") (hm : K.mg "range" = none) (ha : ED X K W a fa) (hb : ED X K W b fb) (na : ∀ i, starEach [a, b] (X i).env = (false, eval a (X i).env) :: starEach [b] (X i).env := by intro _; rfl)
    (nb : ∀ i, starEach [b] (X i).env = (false, eval b (X i).env) :: starEach [] (X i).env := by intro _; rfl) (hp : ∀ i, (backTo pos (starEach [b] (X i).env)).any (·.1) = false := by intro _; rfl) : RD X K W (.Call (.Name "range" p) [a, b] [] pos) (rg2 fa fb) := by
  obtain ⟨t, pa, s⟩ := ha.ex
  obtain ⟨u, pb, s2⟩ := hb.ex
  refine ⟨tRg2 t u, (fun i => prg_2 (hg i) (by rw [c.mg i]; exact hm) (pa i) (pb i) (na i) (nb i) (hp i)), fun fr ρ σ H Q S q => s fr ρ σ H _ S ((QR.bind q).mono fun d ρ1 q1 v H1 S1 => ?_)⟩
  refine two S1 s2 (QR.bind q1) fun dy ρ2 vy H2 q2 S2 => ?_
  obtain ⟨m, e, q3⟩ := QR.lift (QR.bind q2)
  obtain ⟨n, e2, q4⟩ := QR.lift (QR.bind q3)
  have := isI_eq e
  subst this
  have := isI_eq e2
  subst this
  exact ⟨m, n, S2.drop.topF rfl, S2.topF rfl, q4 H2 S2.drop.drop⟩
theorem rgD_rep {F H : Hp} (a b : Int) : RepL K F H (rgD a b) (rgV a b) [] := by
  have go : ∀ l : List Nat, RepL K F H (l.map fun i => D.int (a + (i : Nat))) (l.map fun i => V.int (a + (i : Nat))) [] := fun l => by
    induction l with
    | nil => exact ⟨rfl, rfl⟩
    | cons n l ih => exact ⟨_, _, [], [], rfl, rfl, ⟨rfl, rfl⟩, ih⟩
  exact go _
theorem rgD_len (a b : Int) : (rgD a b).length = (b - a).toNat := by unfold rgD; rw [List.length_map, List.length_range]
theorem Sim.rgs {fr : Fr} {ρ : Env} {σ : L2.St} {H : Hp} (S : Sim K fr ρ σ H) (a b : Int) : Sim K fr ((rgD a b).map some ++ ρ) ((rgV a b).map some ++ σ) H := by
  obtain ⟨A, S⟩ := S
  exact ⟨A, Sl.app (rgD_rep a b).sl S.sl, S.nd, S.off, S.keep, S.tr⟩
def eTupRg (f : M (Int × Int)) : M D := mbind f fun p => if rgOk p.1 p.2 = true then mret (.tup (rgD p.1 p.2)) else mlift none
def eLstRg (f : M (Int × Int)) : M D := mbind f fun p => if rgOk p.1 p.2 = true then mret (.lst true (rgD p.1 p.2)) else mlift none
theorem frz_rg (K : RC) (a b : Int) : frzL (rgD a b) = rgD a b := RepL.frz_id (K := K) (F := fun _ => none) (H := fun _ => none) _ _ (rgD_rep a b)
theorem ed_tupRg {p : Pos} {f : M (Int × Int)} (c : CF X K W k) (hg : ∀ i, Gl (X i) "tuple") (hm : K.mg "tuple" = none) (h : RD X K W e f) (na : ∀ i, starEach [e] (X i).env = (false, eval e (X i).env) :: starEach [] (X i).env := by intro _; rfl) : ED X K W (.Call (.Name "tuple" p) [e] [] pos) (eTupRg f) := by
  obtain ⟨t, pa, s⟩ := h.ex
  refine ⟨tTupRg t, (fun i => pe_tupRg (c.calm i) (hg i) (by rw [c.mg i]; exact hm) (pa i) (na i)), fun fr ρ σ H Q S q => s fr ρ σ H _ S ((QR.bind q).mono fun pr ρ1 q1 H1 S1 => ?_)⟩
  by_cases ho : rgOk pr.1 pr.2 = true
  · rw [if_pos ho] at q1
    refine ⟨of_decide_eq_true (p := -(2 ^ 62) ≤ pr.1 ∧ pr.1 < 2 ^ 62 ∧ -(2 ^ 62) ≤ pr.2 ∧ pr.2 < 2 ^ 62 ∧ (pr.2 - pr.1).toNat ≤ 2 ^ 24) ho, fun l hl => q1 _ _ ?_⟩
    have z := (S1.rgs pr.1 pr.2).newT (by rw [rgV_length, rgD_len]) hl
    rw [frz_rg K] at z
    exact z
  · rw [if_neg ho] at q1
    exact q1.elim
theorem ed_lstRg {p : Pos} {f : M (Int × Int)} (c : CF X K W k) (hg : ∀ i, Gl (X i) "list") (hm : K.mg "list" = none) (h : RD X K W e f) (na : ∀ i, starEach [e] (X i).env = (false, eval e (X i).env) :: starEach [] (X i).env := by intro _; rfl) : ED X K W (.Call (.Name "list" p) [e] [] pos) (eLstRg f) := by
  obtain ⟨t, pa, s⟩ := h.ex
  refine ⟨tLstRg t, (fun i => pe_listRg (c.calm i) (hg i) (by rw [c.mg i]; exact hm) (pa i) (na i)), fun fr ρ σ H Q S q => s fr ρ σ H _ S ((QR.bind q).mono fun pr ρ1 q1 H1 S1 => ?_)⟩
  by_cases ho : rgOk pr.1 pr.2 = true
  · rw [if_pos ho] at q1
    exact ⟨of_decide_eq_true (p := -(2 ^ 62) ≤ pr.1 ∧ pr.1 < 2 ^ 62 ∧ -(2 ^ 62) ≤ pr.2 ∧ pr.2 < 2 ^ 62 ∧ (pr.2 - pr.1).toNat ≤ 2 ^ 24) ho, fun l hl => q1 _ _ ((S1.rgs pr.1 pr.2).newL (by rw [rgV_length, rgD_len]) hl)⟩
  · rw [if_neg ho] at q1
    exact q1.elim
end
end DL

set_option Elab.async false
set_option linter.all false
set_option maxRecDepth 100000
set_option maxHeartbeats 4000000
namespace DL
open PySem PySem.Spec L2
/-! ### what is walked -/
theorem RepL.get {K : RC} {F H : Hp} : ∀ {ds : List D} {xs : List V} {i : Nat} {d : D}, RepL K F H ds xs [] → ds[i]? = some d → ∃ x, xs[i]? = some x ∧ Rep K F H d x []
  | [], _, _, _, _, e => by simp at e
  | d :: ds, xs, i, d', r, e => by
    obtain ⟨v, ws, B, C, rfl, eA, r1, r2⟩ := r
    have e1 := (List.append_eq_nil_iff.mp eA.symm).1
    have e2 := (List.append_eq_nil_iff.mp eA.symm).2
    subst e1 e2
    cases i with
    | zero =>
      have : d = d' := by simpa using e
      subst this
      exact ⟨v, rfl, r1⟩
    | succ i =>
      obtain ⟨x, h1, h2⟩ := RepL.get (i := i) r2 (by simpa using e)
      exact ⟨x, by simpa using h1, h2⟩
section
variable {K : RC} {fr : Fr} {ds : List D} {xs : List V} {H0 : Hp} {a : Addr}
theorem Inv2.inj : True := trivial
theorem yields_list (hs : SqL K.K (VF fr) a xs) (r : RepL K (VF fr) H0 ds xs []) : Yields K (Itl K.K a) fr ds where
  go := fun i H ρ σ S hi => by
    obtain ⟨x, hx, _⟩ := r.get (List.getElem?_eq_getElem hi)
    exact ⟨xs, x, SqL.mono S.vfH hs, hx⟩
  stop := fun i H ρ σ S hi => ⟨xs, SqL.mono S.vfH hs, by rw [r.len]; exact hi⟩
  yld := fun i H x H' ρ σ d S e hy => by
    obtain ⟨rfl, h⟩ := hy
    obtain ⟨x', hx, q⟩ := r.get e
    have := h xs (SqL.mono S.vfH hs)
    rw [hx] at this
    cases this
    exact S.pushG q
theorem yields_tup (hs : SqT K.K (VF fr) a xs) (r : RepL K (VF fr) H0 ds xs []) : Yields K (Itt K.K a) fr ds where
  go := fun i H ρ σ S hi => by
    obtain ⟨x, hx, _⟩ := r.get (List.getElem?_eq_getElem hi)
    exact ⟨xs, x, SqT.mono S.vfH hs, hx⟩
  stop := fun i H ρ σ S hi => ⟨xs, SqT.mono S.vfH hs, by rw [r.len]; exact hi⟩
  yld := fun i H x H' ρ σ d S e hy => by
    obtain ⟨rfl, h⟩ := hy
    obtain ⟨x', hx, q⟩ := r.get e
    have := h xs (SqT.mono S.vfH hs)
    rw [hx] at this
    cases this
    exact S.pushG q
theorem rgD_get {a b : Int} {i : Nat} {d : D} (h : (rgD a b)[i]? = some d) : d = .int (a + (i : Nat)) := by
  unfold rgD at h
  rw [List.getElem?_map] at h
  cases e : (List.range (b - a).toNat)[i]? with
  | none => rw [e] at h; cases h
  | some n =>
    rw [e] at h
    obtain ⟨_, e⟩ := List.getElem?_eq_some_iff.mp e
    rw [List.getElem_range] at e
    subst e
    cases h
    rfl
theorem yields_rg (lo hi : Int) : Yields K (Itr lo (hi - lo).toNat) fr (rgD lo hi) where
  go := fun i H ρ σ S h => by rw [rgD_len] at h; exact h
  stop := fun i H ρ σ S h => by rw [rgD_len] at h; exact h
  yld := fun i H x H' ρ σ d S e hy => by
    obtain ⟨rfl, rfl⟩ := hy
    rw [rgD_get e]
    exact S.pushF rfl
end
/-- a frozen list or tuple, walked -/
def seqOf (d : D) : Option (List D) := items (frz d)
section
open PyProof.Rows in
theorem pi_seqA {X : Cx} {tg l : Expr} {tl : TE} (hl : PE X l tl) : PI X tg l (fun σ H R => tl σ H fun x H1 => (∃ a, x = .ref a ∧ (∃ xs, SqL X.K H1 a xs) ∧ R (Itl X.K a) H1) ∨ (∃ a, x = .ref a ∧ (∃ xs, SqT X.K H1 a xs) ∧ R (Itt X.K a) H1)) := by
  refine ⟨fun pins s σ H R I h => ?_⟩
  refine thn (hl.run pins s σ H _ I h) fun v s1 ⟨x, H1, I1, r1, q1⟩ => ?_
  rcases q1 with ⟨a, e, ⟨xs, hq⟩, q⟩ | ⟨a, e, ⟨xs, hq⟩, q⟩
  · subst e
    cases r1
    obtain ⟨its, rv, p, hz⟩ := I1.list hq
    refine wpAny_pyIter_list p.isList ?_
    refine ⟨s1.heap.objs.size, [s1.heap.objs.size], _, _, H1, rfl, I1.kept (t' := s1.toks) fun b o e => Heap.get?_push_of_some _ e, turn_list a _, ⟨_, Heap.get?_push_size _ rfl, rfl, rfl⟩, fun b hb => ?_, q⟩
    have e : b = s1.heap.objs.size := by simpa using hb
    subst e
    exact I1.fpOk (Nat.le_refl _) (I1.hok.fresh (Nat.le_refl _))
  · subst e
    cases r1
    obtain ⟨its, rv, p, hz⟩ := I1.tuple hq
    refine wpAny_pyIter_tuple (show s1.heap.IsTuple a its.toArray from p) ?_
    refine ⟨s1.heap.objs.size, [s1.heap.objs.size], _, _, H1, rfl, I1.kept (t' := s1.toks) fun b o e => Heap.get?_push_of_some _ e, turn_tuple a _, ⟨_, Heap.get?_push_size _ rfl, rfl, rfl⟩, fun b hb => ?_, q⟩
    have e : b = s1.heap.objs.size := by simpa using hb
    subst e
    exact I1.fpOk (Nat.le_refl _) (I1.hok.fresh (Nat.le_refl _))
end
theorem frz_frz_items {d : D} {ds : List D} (h : items (frz d) = some ds) : ∃ d', frz d = d' ∧ items d' = some ds := ⟨_, rfl, h⟩
def iSeq (f : M D) : M (List D) := mbind f fun d => mlift (seqOf d)
def iRg1 (g : M (List D)) : M (List D) := mbind g fun ds => match ds with
  | [.int j] => if -(2 ^ 62) ≤ j ∧ j < 2 ^ 62 then mret (rgD 0 j) else mlift none
  | _ => mlift none
def iRg2 (g : M (List D)) : M (List D) := mbind g fun ds => match ds with
  | [.int i, .int j] => if -(2 ^ 62) ≤ i ∧ i < 2 ^ 62 ∧ -(2 ^ 62) ≤ j ∧ j < 2 ^ 62 then mret (rgD i j) else mlift none
  | _ => mlift none
section
variable {ι : Type} {X : ι → Cx} {K : RC} {W : WX} {k : Nat} {e a b tg : Expr} {es : List Expr} {f fa fb : M D} {g : M (List D)} {pos : Pos} {pr : List Nat}
theorem id_seq (c : CF X K W k) (h : ED X K W e f) : ID X K W tg e (iSeq f) := by
  obtain ⟨t, p, s⟩ := h.ex
  refine ⟨fun σ H R => t σ H fun x H1 => (∃ a, x = .ref a ∧ (∃ xs, SqL K.K H1 a xs) ∧ R (Itl K.K a) H1) ∨ (∃ a, x = .ref a ∧ (∃ xs, SqT K.K H1 a xs) ∧ R (Itt K.K a) H1), (fun i => by rw [← c.kk i]; exact pi_seqA (p i)), fun fr ρ σ H R S q => s fr ρ σ H _ S ((QR.bind q).mono fun d ρ1 q1 v H1 S1 => ?_)⟩
  obtain ⟨ds, e1, q2⟩ := QR.lift q1
  obtain ⟨fr', S2, r, back⟩ := S1.frz.holdF (fro_frz d)
  unfold seqOf at e1
  cases ed : frz d with
  | tup es =>
    rw [ed] at e1 r
    cases e1
    obtain ⟨_, a, xs, rfl, hs, r⟩ := r
    exact .inr ⟨a, rfl, ⟨xs, SqT.mono S2.vfH hs⟩, q2 _ H1 fr' S2 back (yields_tup hs r)⟩
  | lst o es =>
    rw [ed] at e1 r
    cases e1
    cases o with
    | true =>
      have := fro_frz d
      rw [ed] at this
      cases this
    | false =>
      obtain ⟨_, a, xs, rfl, hs, r⟩ := r
      exact .inl ⟨a, rfl, ⟨xs, SqL.mono S2.vfH (SqL.of hs)⟩, q2 _ H1 fr' S2 back (yields_list (SqL.of hs) r)⟩
  | scr ns =>
    rw [ed] at e1 r
    cases e1
    obtain ⟨_, a, rfl, hs⟩ := r
    exact .inl ⟨a, rfl, ⟨_, SqL.mono S2.vfH hs⟩, q2 _ H1 fr' S2 back (yields_list (H0 := H1) hs (rep_ints ns))⟩
  | _ => rw [ed] at e1; cases e1
theorem id_rg1 {p : Pos} (c : CF X K W k) (hg : ∀ i, Gl (X i) "range") (hm : K.mg "range" = none) (ha : AM X K W [a] g []) (hs : ∀ i, starEach [a] (X i).env = [(false, eval a (X i).env)] := by intro _; rfl) : ID X K W tg (.Call (.Name "range" p) [a] [] pos) (iRg1 g) := by
  obtain ⟨t, pa, s⟩ := ha.ex
  refine ⟨iRng1 t, (fun i => pi_range1 (hg i) (by rw [c.mg i]; exact hm) (pa i) (hs i)), fun fr ρ σ H R S q => s fr ρ σ H _ S ((QR.bind q).mono fun ds ρ1 q1 vs H1 hl _ S1 => ?_)⟩
  split at q1
  · rename_i j
    obtain ⟨v, rfl⟩ := one_of hl rfl
    have S1 : Sim K fr (some (.int j) :: ρ1) (some v :: σ) H1 := S1
    by_cases hz : -(2 ^ 62) ≤ j ∧ j < 2 ^ 62
    · rw [if_pos hz] at q1
      refine ⟨j, by rw [S1.topF rfl], hz.1, hz.2, ?_⟩
      have z := q1 (Itr 0 (j - 0).toNat) H1 fr S1.drop (fun _ _ _ h => h) (yields_rg 0 j)
      rw [Int.sub_zero] at z
      exact z
    · rw [if_neg hz] at q1
      exact q1.elim
  · exact q1.elim
theorem id_rg2 {p : Pos} (c : CF X K W k) (hg : ∀ i, Gl (X i) "range") (hm : K.mg "range" = none) (ha : AM X K W [a, b] g []) (hs : ∀ i, starEach [a, b] (X i).env = [(false, eval a (X i).env), (false, eval b (X i).env)] := by intro _; rfl) (hs2 : ∀ i, starEach [b] (X i).env = [(false, eval b (X i).env)] := by intro _; rfl) : ID X K W tg (.Call (.Name "range" p) [a, b] [] pos) (iRg2 g) := by
  obtain ⟨t, pa, s⟩ := ha.ex
  refine ⟨iRng2 t, (fun i => pi_range2 (hg i) (by rw [c.mg i]; exact hm) (pa i) (hs i) (hs2 i)), fun fr ρ σ H R S q => s fr ρ σ H _ S ((QR.bind q).mono fun ds ρ1 q1 vs H1 hl _ S1 => ?_)⟩
  split at q1
  · rename_i i j
    obtain ⟨rfl, S2⟩ := two_ints hl S1
    by_cases hz : -(2 ^ 62) ≤ i ∧ i < 2 ^ 62 ∧ -(2 ^ 62) ≤ j ∧ j < 2 ^ 62
    · rw [if_pos hz] at q1
      exact ⟨i, j, rfl, hz, q1 _ H1 fr S2 (fun _ _ _ h => h) (yields_rg i j)⟩
    · rw [if_neg hz] at q1
      exact q1.elim
  · exact q1.elim
/-! ### a list of one's own: append, a store -/
def eApp (i : Nat) (f : M D) : M D := fun ρ => match ρ[i]? with
  | some (some (.lst true _)) => mbind f (fun d ρ1 => match ρ1[i]? with
    | some (some (.lst true ds)) => if ds.length < sizeLine then .ok .non (ρ1.set i (some (.lst true (ds ++ [d])))) else .stuck
    | _ => .stuck) ρ
  | _ => .stuck
theorem own_get {ρ : Env} {i : Nat} {P : List D → Prop} (h : match ρ[i]? with | some (some (.lst true ds)) => P ds | _ => False) : ∃ ds, ρ[i]? = some (some (.lst true ds)) ∧ P ds := by
  split at h
  · rename_i ds e
    exact ⟨ds, e, h⟩
  · exact h.elim
theorem Sim.lst_at {fr : Fr} {ρ : Env} {σ : L2.St} {H : Hp} {i : Nat} {ds : List D} (S : Sim K fr ρ σ H) (e : ρ[i]? = some (some (.lst true ds))) : ∃ p xs, σ[i]? = some (some (.ref p)) ∧ H p = some (.lst xs) ∧ xs.length = ds.length := by
  obtain ⟨v, hv, S1⟩ := S.move e
  obtain ⟨F, B, r, _⟩ := S1.top
  obtain ⟨p, xs, B', rfl, _, hx, r⟩ := r
  exact ⟨p, xs, hv, hx, r.len⟩
theorem ed_app (i : Nat) {x : Str} {p0 apos cpos : Pos} (h : ∀ j, PE (X j) (.Name x p0) (tVar i)) (ha : ED X K W e f) (c : CF X K W k)
    (hs : ∀ i, starEach [e] (X i).env = (false, eval e (X i).env) :: starEach [] (X i).env := by intro _; rfl) (hline : (apos.endLine == cpos.line) = true := by rfl)
    (hfew : ∀ i, ((backTo cpos (starEach [e] (X i).env)).all (fun x => !x.1) && (backToKw cpos (keywordEach [] (X i).env)).all (fun x => x.1.isSome) && decide ([e].length + ([] : List Keyword).length + (if ([] : List Keyword).isEmpty then 0 else 1) < 30)) = true := by intro _; rfl) :
    ED X K W (.Call (.Attribute (.Name x p0) "append" apos) [e] [] cpos) (eApp i f) := by
  obtain ⟨t, pa, s⟩ := ha.ex
  refine ⟨tBM K.K "list" rAppend (tVar i) (tCons t tNil), (fun j => ?_), fun fr ρ σ H Q S q => ?_⟩
  · rw [← c.kk j]
    exact pe_bm PySem.F.plainAttrs_list PySem.F.slot_list_append PySem.F.type_list_append mt_append (h j) (pa_cons (pa j) pa_nil (hs j)) rfl (hfew j) hline (hs j) rfl
  · unfold eApp at q
    split at q
    · rename_i ds0 e0
      obtain ⟨p, xs, hv, hx, _⟩ := S.lst_at e0
      refine ⟨.ref p, hv, .inl ⟨rfl, xs, SqL.of hx⟩, ?_⟩
      refine s fr ρ σ H _ S ((QR.bind q).mono fun d ρ1 q1 v1 H1 S1 => ?_)
      split at q1
      · rename_i ds e1
        by_cases hz : ds.length < sizeLine
        · rw [if_pos hz] at q1
          obtain ⟨v, hv2, S2⟩ := S1.move (i := i + 1) (show (some d :: ρ1)[i + 1]? = _ from by simpa using e1)
          have hv3 : σ[i]? = some (some v) := by simpa using hv2
          rw [hv] at hv3
          cases hv3
          have S2 : Sim K fr (some (.lst true ds) :: some d :: ρ1.set i none) (some (.ref p) :: some v1 :: σ) H1 := S2
          obtain ⟨ys, hy, hl, S3⟩ := S2.append
          have S4 := S3.back hv
          rw [set_set_] at S4
          exact ⟨p, ys, v1, rfl, rfl, hy, by omega, q1 _ _ (S4.pushF rfl)⟩
        · rw [if_neg hz] at q1
          exact q1.elim
      · exact q1.elim
    · exact q.elim
/-- x[j] = .. of a list of one's own -/
def gItem (i : Nat) (fj : M D) : D → Env → Option Env := fun d ρ => match ρ[i]? with
  | some (some (.lst true _)) => match fj ρ with
    | .ok (.int j) ρ1 => match ρ1[i]? with
      | some (some (.lst true ds)) => if ρ1.length = ρ.length then (ixN ds.length j).map fun n => ρ1.set i (some (.lst true (ds.set n d))) else none
      | _ => none
    | _ => none
  | _ => none
theorem Sim.put {fr : Fr} {ρ : Env} {σ : L2.St} {H : Hp} {ds : List D} {d : D} {p : Addr} {v : V} {n : Nat} (S : Sim K fr (some (.lst true ds) :: some d :: ρ) (some (.ref p) :: some v :: σ) H) (hn : n < ds.length) :
    ∃ xs, H p = some (.lst xs) ∧ xs.length = ds.length ∧ Sim K fr (some (.lst true (ds.set n d)) :: ρ) (some (.ref p) :: σ) (upd H p (.lst (xs.set n v))) := by
  obtain ⟨A, S⟩ := S
  obtain ⟨s1, τ1, B1, C1, e1, rfl, ⟨v1, ev, r1⟩, r2⟩ := S.sl
  injection e1 with e1 e2
  subst e1 e2
  cases ev
  obtain ⟨s2, τ2, B2, C2, e3, rfl, ⟨v2, ev, r3⟩, r4⟩ := r2
  injection e3 with e3 e4
  subst e3 e4
  cases ev
  obtain ⟨a, xs, B, ea, rfl, hx, r1⟩ := r1
  cases ea
  obtain ⟨s0, A1, B0, A2, es, rfl, ⟨v0, _, r0⟩, put⟩ := r1.sl.at (i := n) (x := some ds[n]) (by rw [List.getElem?_map, List.getElem?_eq_getElem hn]; rfl)
  refine ⟨xs, hx, r1.len, p :: (A1 ++ (B2 ++ A2)) ++ C2, ?_⟩
  have sub : ∀ a ∈ p :: (A1 ++ (B2 ++ A2)) ++ C2, a ∈ p :: (A1 ++ (B0 ++ A2)) ++ (B2 ++ C2) ∨ H a = none := fun a z => .inl (by
    simp only [List.cons_append, List.append_assoc, List.mem_cons, List.mem_append] at z ⊢
    rcases z with z | z | z | z | z
    · exact .inl z
    · exact .inr (.inl z)
    · exact .inr (.inr (.inr (.inr (.inl z))))
    · exact .inr (.inr (.inr (.inl z)))
    · exact .inr (.inr (.inr (.inr (.inr z)))))
  have nd0 := S.nd
  have pn : p ∉ (A1 ++ (B0 ++ A2)) ++ (B2 ++ C2) := by
    rw [List.cons_append] at nd0
    exact (List.nodup_cons.mp nd0).1
  have nd : (p :: (A1 ++ (B2 ++ A2)) ++ C2).Nodup := by
    have h1 : ((A1 ++ (B0 ++ A2)) ++ (B2 ++ C2)).Nodup := by
      rw [List.cons_append] at nd0
      exact (List.nodup_cons.mp nd0).2
    rw [List.cons_append]
    refine List.nodup_cons.mpr ⟨fun z => pn ?_, ?_⟩
    · simp only [List.append_assoc, List.mem_append] at z ⊢
      rcases z with z | z | z | z
      · exact .inl z
      · exact .inr (.inr (.inr (.inl z)))
      · exact .inr (.inr (.inl z))
      · exact .inr (.inr (.inr (.inr z)))
    · have h2 : ((A1 ++ A2) ++ (B2 ++ C2)).Nodup := by
        refine List.Nodup.sublist ?_ h1
        refine List.Sublist.append ?_ (List.Sublist.refl _)
        exact (List.append_sublist_append_left A1).mpr (List.sublist_append_right B0 A2)
      have pm : ((A1 ++ A2) ++ (B2 ++ C2)).Perm ((A1 ++ (B2 ++ A2)) ++ C2) := by
        have q1 : (A2 ++ (B2 ++ C2)).Perm (B2 ++ (A2 ++ C2)) := List.perm_append_comm_assoc A2 B2 C2
        have q2 := List.Perm.append_left A1 q1
        simpa [List.append_assoc] using q2
      exact pm.nodup h2
  have kp : ∀ a o, a ≠ p → H a = some o → upd H p (.lst (xs.set n v)) a = some o := fun a o n e => by rw [upd_ne n]; exact e
  have kpA : ∀ a o, a ∉ p :: (A1 ++ (B0 ++ A2)) ++ (B2 ++ C2) → H a = some o → upd H p (.lst (xs.set n v)) a = some o := fun a o n e => kp a o (fun z => n (by simp [z])) e
  have f := S.fro sub (H' := upd H p (.lst (xs.set n v))) kpA
  have ne : ∀ a, a ∈ (A1 ++ (B0 ++ A2)) ++ (B2 ++ C2) → a ≠ p := fun a z e => pn (e ▸ z)
  have q := put (x' := some d) (s' := some v) (B' := B2) f (fun a z o e => kp a o (ne a (by
    rcases List.mem_append.mp z with z | z
    · simp [z]
    · simp [z])) e) ⟨v, rfl, Rep.mono f _ _ _ (fun a z o e => kp a o (ne a (by simp [z])) e) r3⟩
  have q' : RepL K (hid (p :: (A1 ++ (B2 ++ A2)) ++ C2 ++ fr.N) (upd H p (.lst (xs.set n v)))) (upd H p (.lst (xs.set n v))) (ds.set n d) (xs.set n v) (A1 ++ (B2 ++ A2)) := by
    refine Sl.repL ?_
    rw [← List.map_set, ← List.map_set] at q
    exact q
  exact S.next sub nd kpA ⟨some (.ref p), _, p :: (A1 ++ (B2 ++ A2)), C2, rfl, rfl, ⟨.ref p, rfl, p, xs.set n v, _, rfl, rfl, upd_same, q'⟩, r4.mono f fun a z o e => kp a o (ne a (by simp [z])) e⟩
theorem gd_item (i : Nat) {x : Str} {p0 : Pos} {je : Expr} {fj : M D} (c : CF X K W k) (h : ∀ j, PE (X j) (.Name x p0) (tVar i)) (hj : ED X K W0 je fj)
    (ha : ∀ i v, assign (.Subscript (.Name x p0) je pos) (X i).env v = (do
      let ov ← holding [v] (eval (.Name x p0) (X i).env)
      let iv ← holding [v, ov] (eval je (X i).env)
      standAt pos
      holding [v, ov, iv] (setItem ov iv v)
      release [v, ov, iv] []) := by intro _ _; rfl) : GD X K pr (.Subscript (.Name x p0) je pos) (gItem i fj) := by
  obtain ⟨t, pj, s⟩ := hj.ex
  refine ⟨⟨gSub (tVar i) t rSetL, (fun j => pg_sub (h j) (pj j) set_list (ha j)), fun fr ρ σ H d v ρ' Q S e q => ?_⟩, fun d ρ ρ' e => ?_⟩
  · unfold gItem at e
    split at e
    rotate_left
    · cases e
    rename_i ds0 e0
    split at e
    rotate_left
    · cases e
    rename_i j ρ1 e1
    split at e
    rotate_left
    · cases e
    rename_i ds e2
    by_cases hlen : ρ1.length = ρ.length
    · rw [if_pos hlen] at e
      cases hn : ixN ds.length j with
      | none => rw [hn] at e; cases e
      | some n =>
        rw [hn] at e
        cases e
        -- the value is held while the index is asked
        obtain ⟨fr', S1, back⟩ := S.hold
        have hn2 : n < ds.length := by
          unfold ixN at hn
          split at hn
          · split at hn
            · cases hn; omega
            · cases hn
          · split at hn
            · cases hn; omega
            · cases hn
        obtain ⟨p, _, hv0, _, _⟩ := S1.lst_at e0
        refine ⟨.ref p, hv0, ?_⟩
        refine s fr' ρ σ H _ S1 ?_
        rw [e1]
        intro v2 H2 S2
        have S3 := back _ _ _ S2.drop
        obtain ⟨u, hu, S4⟩ := S3.move (i := i + 1) (show (some d :: ρ1)[i + 1]? = _ from by simpa using e2)
        have hu : σ[i]? = some (some u) := by simpa using hu
        rw [hv0] at hu
        cases hu
        have S4 : Sim K fr (some (.lst true ds) :: some d :: ρ1.set i none) (some (.ref p) :: some v :: σ) H2 := S4
        obtain ⟨ys, hy, hl2, S5⟩ := S4.put hn2
        have S6 := S5.back hv0
        rw [set_set_] at S6
        exact ⟨p, ys, j, n, rfl, S2.topF rfl, hy, by rw [hl2]; exact hn, q σ _ .refl S6⟩
    · rw [if_neg hlen] at e
      cases e
  · unfold gItem at e
    split at e
    rotate_left
    · cases e
    split at e
    rotate_left
    · cases e
    split at e
    rotate_left
    · cases e
    rename_i ρ1 _ _ ds _
    split at e
    · rename_i hlen
      cases hn : ixN ds.length _ with
      | none => rw [hn] at e; cases e
      | some n =>
        rw [hn] at e
        cases e
        rw [List.length_set, hlen]
    · cases e
end
end DL

set_option Elab.async false
set_option linter.all false
set_option maxRecDepth 100000
set_option maxHeartbeats 4000000
namespace DL
open PySem PySem.Spec L2
/-! ### products -/
instance {i j : Int} : Decidable (CMulX i j) := by unfold CMulX; exact inferInstance
def repD (k : Int) (ds : List D) : List D := (List.replicate k.toNat ds).flatten
def mulD : D → D → Option D
  | .int i, .int j => if CMulX i j then some (.int (i * j)) else none
  | .lst _ ds, .int k => if -(2 ^ 63) ≤ k ∧ k < 2 ^ 63 ∧ ds.length * k.toNat ≤ sizeLine then some (.lst true (repD k (frzL ds))) else none
  | .tup ds, .int k => if ds ≠ [] ∧ 2 ≤ k ∧ k ≤ 1000 ∧ ds.length ≤ 1000 then some (.tup (repD k ds)) else none
  | _, _ => none
def rMulA (K : PySem.W.Frag) : R2 := fun x y H Q => rI CMulX (fun i j => .int (i * j)) x y H Q ∨ (rRep x y H Q ∨ rRepT K x y H Q)
theorem op_mulA {X : Cx} : OpR X (binaryOp .Mult) (rMulA X.K) := OpR.or op_mulX (OpR.or op_rep op_repT)
theorem repL_rep {K : RC} {F H : Hp} {ds : List D} {vs : List V} (r : RepL K F H ds vs []) : ∀ n : Nat, RepL K F H (List.replicate n ds).flatten (List.replicate n vs).flatten []
  | 0 => ⟨rfl, rfl⟩
  | n + 1 => by
    rw [List.replicate_succ, List.replicate_succ, List.flatten_cons, List.flatten_cons]
    exact RepL.app (A := []) (B := []) r (repL_rep r n)
theorem frzL_len : ∀ ds : List D, (frzL ds).length = ds.length
  | [] => rfl
  | d :: ds => by show (frz d :: frzL ds).length = _; rw [List.length_cons, frzL_len ds]; rfl
theorem frzL_rep (ds : List D) : ∀ n : Nat, frzL (List.replicate n ds).flatten = (List.replicate n (frzL ds)).flatten
  | 0 => rfl
  | n + 1 => by rw [List.replicate_succ, List.replicate_succ, List.flatten_cons, List.flatten_cons, frzL_app, frzL_rep ds n]
section
variable {K : RC} {fr : Fr} {ρ : Env} {σ : L2.St} {H : Hp}
/-- frozen items, several times -/
theorem Sim.times {d : D} {v : V} {ds : List D} (S : Sim K fr (some d :: ρ) (some v :: σ) H) (hf : fro d = true) (e : items d = some ds) : ∃ p xs, v = .ref p ∧ xs.length = ds.length ∧ (if isL d = true then SqL K.K H p xs else SqT K.K H p xs) ∧ (∀ o es, d = .lst o es → H p = some (.lst xs)) ∧
    ∀ n : Nat, Sim K fr ((List.replicate n ds).flatten.map some ++ ρ) ((List.replicate n xs).flatten.map some ++ σ) H := by
  obtain ⟨A, S⟩ := S
  obtain ⟨s', τ, B, C, e0, rfl, ⟨v', e1, r1⟩, r2⟩ := S.sl
  injection e0 with e2 e3
  subst e2 e3
  cases e1
  have := fro_rep hf r1
  subst this
  have hH : ∀ a o, hid ([] ++ C ++ fr.N) H a = some o → H a = some o := fun a o e => (hid_some.mp e).2
  have go : ∀ xs, RepL K (hid ([] ++ C ++ fr.N) H) H ds xs [] → ∀ n : Nat, Sim K fr ((List.replicate n ds).flatten.map some ++ ρ) ((List.replicate n xs).flatten.map some ++ σ) H := fun xs r n =>
    ⟨C, Sl.app (A1 := []) (repL_rep r n).sl r2, S.nd, S.off, S.keep, S.tr⟩
  cases d with
  | tup es =>
    cases e
    obtain ⟨_, a, xs, rfl, s, r⟩ := r1
    exact ⟨a, xs, rfl, r.len, SqT.mono hH s, (fun _ _ z => nomatch z), go xs r⟩
  | lst o es =>
    cases e
    cases o with
    | false =>
      obtain ⟨_, a, xs, rfl, s, r⟩ := r1
      exact ⟨a, xs, rfl, r.len, SqL.of (hH _ _ s), (fun _ _ _ => hH _ _ s), go xs r⟩
    | true => cases hf
  | scr ns =>
    cases e
    obtain ⟨_, a, rfl, s⟩ := r1
    exact ⟨a, _, rfl, by simp, SqL.mono hH s, (fun _ _ z => nomatch z), go _ (rep_ints ns)⟩
  | _ => cases e
theorem ops_mul : OpS K (rMulA K.K) mulD := by
  intro fr ρ σ H dx dy vx vy d Q S e q
  cases dx with
  | int i => cases dy with
    | int j =>
      unfold mulD at e
      by_cases hc : CMulX i j
      · simp only [hc, if_true] at e
        cases e
        exact .inl ⟨i, j, S.drop.topF rfl, S.topF rfl, hc, q _ H (S.drop.drop.pushF rfl)⟩
      · simp only [hc, if_false] at e
        cases e
    | _ => cases e
  | lst o ds => cases dy with
    | int k =>
      unfold mulD at e
      by_cases hc : -(2 ^ 63) ≤ k ∧ k < 2 ^ 63 ∧ ds.length * k.toNat ≤ sizeLine
      · simp only [hc, and_self, if_true] at e
        cases e
        have hk := S.topF rfl
        subst hk
        obtain ⟨p, xs, rfl, h2, _, h4, g⟩ := S.drop.frz.times (fro_frz _) (ds := frzL ds) rfl
        have hl2 := frzL_len ds
        refine .inr (.inl ⟨p, k, xs, rfl, rfl, h4 _ _ rfl, hc.1, hc.2.1, by rw [h2, hl2]; exact hc.2.2, fun l hl => q _ _ ?_⟩)
        exact (g k.toNat).newL (by simp [List.length_flatten, h2]) hl
      · simp only [hc, if_false] at e
        cases e
    | _ => cases e
  | tup ds => cases dy with
    | int k =>
      have e : (if ds ≠ [] ∧ 2 ≤ k ∧ k ≤ 1000 ∧ ds.length ≤ 1000 then some (D.tup (repD k ds)) else none) = some d := e
      by_cases hc : ds ≠ [] ∧ 2 ≤ k ∧ k ≤ 1000 ∧ ds.length ≤ 1000
      · rw [if_pos hc] at e
        cases e
        have hk := S.topF rfl
        subst hk
        have hz := S.drop.tup_frz
        obtain ⟨p, xs, rfl, h2, h3, _, g⟩ := S.drop.times (ds := ds) rfl rfl
        refine .inr (.inr ⟨p, k, xs, rfl, rfl, h3, fun e => hc.1 (List.length_eq_zero_iff.mp (by rw [← h2, e]; rfl)), hc.2.1, hc.2.2.1, by rw [h2]; exact hc.2.2.2, fun l hl => q _ _ ?_⟩)
        have z := (g k.toNat).newT (by simp [List.length_flatten, h2]) hl
        rw [frzL_rep, hz] at z
        exact z
      · rw [if_neg hc] at e
        cases e
    | _ => cases e
  | _ => cases e
end
section
variable {ι : Type} {X : ι → Cx} {K : RC} {W : WX} {k : Nat} {e a b : Expr} {f fa fb : M D} {pos : Pos} {pr : List Nat}
theorem rMulA_K {X : Cx} (h : X.K = K.K) : OpR X (binaryOp .Mult) (rMulA K.K) := by rw [← h]; exact op_mulA
theorem ed_mul (c : CF X K W k) (ha : ED X K W a fa) (hb : ED X K W b fb) : ED X K W (.BinOp a .Mult b pos) (e2 mulD fa fb) := ed_op (fun i => rMulA_K (c.kk i)) ops_mul ha hb
/-! ### raise -/
structure ExF (K : RC) (c : Str) : Prop where
  ex : ∃ C, K.mg c = some (.ref C) ∧ PySem.W.excIn K.K C He.veBase "ValueError.__new__" = true ∧ PySem.W.keepIn K.K (.ref C) = true ∧ PySem.W.subIn K.K (.ref C) (.type "BaseException") = some true ∧ PySem.W.typeIn K.K (.ref C) = some (.type "type")
def sRaise (c : Str) : SF := fun ρ => .exc c [] ρ
theorem sd_raise0 {x : Str} {p pos' : Pos} (c : CF X K W k) (h : ExF K x) (hg : ∀ i, Gl (X i) x) (hdb : (x == ("__debug__" : Str)) = false := by decide) : SD X K W pr (.Raise (some (.Call (.Name x p) [] [] pos)) none pos') (sRaise x) := by
  obtain ⟨C, hm, h1, h2, h3, h4⟩ := h.ex
  refine ⟨_, (fun i => ps_raise (c.calm i) (c.tk i) (pmk_own0 PySem.F.excBase_ValueError (by rw [c.kk i]; exact h1) (by rw [c.mg i]; exact hm) (by rw [c.kk i]; exact h2) (raises_own (by rw [c.kk i]; exact h3) (by rw [c.kk i]; exact h4)) (hg i) hdb)), fun fr ρ σ H Dn S q => ?_⟩
  exact q _ _ σ H .refl ⟨C, hm, rfl, .inl ⟨rfl, rfl⟩⟩ S
/-! ### try -/
abbrev TrI {ι : Type} (X : ι → Cx) (W' : WX) : Type := { j : ι × List (Addr × Obj) × (Value → Shared → Prop) // Takes ((X j.1).tr j.2.1 j.2.2) W' ∧ PassesOwn (model (X j.1).prog (X j.1).w) (X j.1).A (X j.1).env j.2.2 }
abbrev trF {ι : Type} (X : ι → Cx) (W' : WX) : TrI X W' → Cx := fun j => (X j.1.1).tr j.1.2.1 j.1.2.2
abbrev SuI {ι : Type} (X : ι → Cx) (C : Addr) (d : Option Addr) : Type := { j : ι × Obj × List (Addr × Obj) // Zc (.ref C) d j.2.1 ∧ ∃ vs, j.2.1.data = .fields vs }
abbrev suF {ι : Type} (X : ι → Cx) (a C : Addr) (d : Option Addr) : SuI X C d → Cx := fun j => (X j.1.1).suite a ((a, j.1.2.1) :: j.1.2.2)
theorem CF.tr (c : CF X K W k) (W' : WX) : CF (trF X W') K W' k where
  K := fun j => c.K j.1.1
  calm := fun j => c.calm j.1.1
  room := fun j => c.room j.1.1
  tk := fun j => j.2.1
  nd := fun j => c.nd j.1.1
/-- the class that an except clause names: whether it takes an exception of class c -/
def ExmF (K : RC) (x : Str) (m : Str → Option Bool) : Prop := ∀ c b, m c = some b → ∃ C Y, K.mg c = some (.ref C) ∧ K.mg x = some (.ref Y) ∧ PySem.W.exmOne K.K (.ref C) (.ref Y) = some b
def clr (i : Nat) : RS → RS
  | .nx ρ => .nx (ρ.set i none)
  | .ret d ρ => .ret d (ρ.set i none)
  | .brk ρ => .brk (ρ.set i none)
  | .cnt ρ => .cnt (ρ.set i none)
  | .exc _ _ _ => .stuck
  | .stuck => .stuck
open Classical in
noncomputable def suite (i : Nat) (G : Addr → SF) (ρ : Env) : RS := if h : ∃ r, ∀ a, clr i (G a (ρ.set i (some (.adr a)))) = r then h.choose else .stuck
theorem suite_eq {i : Nat} {G : Addr → SF} {ρ : Env} {r : RS} (h : ∀ a, clr i (G a (ρ.set i (some (.adr a)))) = r) : suite i G ρ = r := by
  have ex : ∃ r, ∀ a, clr i (G a (ρ.set i (some (.adr a)))) = r := ⟨r, h⟩
  unfold suite
  rw [dif_pos ex, ← ex.choose_spec 0, h 0]
noncomputable def sTryAs (F : SF) (m : Str → Option Bool) (i : Nat) (G : Str → List (Str × D) → Addr → SF) : SF := fun ρ => match F ρ with
  | .exc c fs ρ' => (match m c with
    | some true => if i < ρ'.length then suite i (G c fs) ρ' else .stuck
    | some false => .exc c fs ρ'
    | none => .stuck)
  | r => r
theorem Sim.slot {K : RC} {fr : Fr} {ρ : Env} {σ : L2.St} {H : Hp} {i : Nat} {d : D} {v : V} (S : Sim K fr ρ σ H) (hf : flat d = some v) (hi : i < ρ.length) : Sim K fr (ρ.set i (some d)) (σ.set i (some v)) H := (S.pushF hf).store hi
theorem Sim.clear0 {K : RC} {fr : Fr} {ρ : Env} {σ : L2.St} {H : Hp} {i : Nat} (S : Sim K fr ρ σ H) : Sim K fr (ρ.set i none) σ H := by
  cases e : σ[i]? with
  | none =>
    have z := S.clear (i := i) none
    rw [List.set_eq_of_length_le (l := σ) (by
      rw [List.getElem?_eq_none_iff] at e
      exact e)] at z
    exact z
  | some s =>
    have z := S.clear (i := i) s
    rw [set_self e] at z
    exact z
theorem pss_ex {X : Cx} {sts : List Stmt} {P : Type} {t : P → TS} (h : ∀ p, PSs X sts (t p)) : PSs X sts (fun D σ H => ∃ p, t p D σ H) := ⟨fun pins s σ H D I ⟨p, q⟩ => (h p).run pins s σ H D I q⟩
def ErrD (fs : List (Str × D)) (d : Option Addr) : Prop := (fs = [] ∧ d = none) ∨ (fs ≠ [] ∧ ∃ a, d = some a)
theorem sd_try_as {x n : Str} {i : Nat} {body suite : List Stmt} {b₀ : Stmt} {np pos' : Pos} {F : SF} {m : Str → Option Bool} {G : Str → List (Str × D) → Addr → SF} (c : CF X K W k) (hs : ∀ j, (X j).stack = (X j).env :: (X j).outer) (hfr : ∀ j, (X j).env.frame = some (X j).env.locals)
    (hi : ∀ j, (X j).N[i]? = some n) (hln : ∀ j, (X j).env.kindOf n = some .local) (hg : ∀ j, Gl (X j) x) (hm : ExmF K x m) {Y : Addr} (hY : K.mg x = some (.ref Y)) (hp : i ∉ pr)
    (hb : ∀ W', SDs (trF X W') K W' pr body F) (hsu : ∀ c fs a C d, K.mg c = some (.ref C) → ErrD fs d → SDs (suF X a C d) K W0 pr (b₀ :: suite) (G c fs a)) (hdb : (x == ("__debug__" : Str)) = false := by decide) :
    SD X K W pr (.Try body [.ExceptHandler (some (.Name x np)) (some n) (b₀ :: suite) pos'] [] [] pos) (sTryAs F m i G) := by
  let ts : Addr → Value → Option Addr → TS := fun a cls d Dn σ H => ∃ p : { p : Str × List (Str × D) × Addr // cls = .ref p.2.2 ∧ K.mg p.1 = some (.ref p.2.2) ∧ ErrD p.2.1 d }, (hsu p.1.1 p.1.2.1 a p.1.2.2 d p.2.2.1 p.2.2.2).ex.choose Dn σ H
  let tb : WX → TS := fun W' => (hb W').ex.choose
  refine ⟨fun D σ H => tb (wAs K.K (.ref Y) i ts W D) D σ H, (fun j => ?_), fun fr ρ σ H Dn S q => ?_⟩
  · rw [← c.kk j]
    refine ps_try_as (tb := tb) (ts := ts) (hs j) (hfr j) (c.nd j) (hi j) (hln j) ⟨hg j, hdb, .inl (by rw [c.mg j]; exact hY)⟩ (c.tk j) (fun W' pn xe tk po => ?_) (fun a oe cls d pn hz hf => ?_)
    · exact (hb W').ex.choose_spec.1 ⟨(j, pn, xe), tk, po⟩
    · refine pss_ex fun p => ?_
      obtain ⟨⟨c', fs, C⟩, h1, h2, h3⟩ := p
      dsimp only at h1 h2 h3 ⊢
      subst h1
      exact (hsu c' fs a C d h2 h3).ex.choose_spec.1 ⟨(j, oe, pn), hz, hf⟩
  · refine (hb _).ex.choose_spec.2 fr ρ σ H _ S ?_
    unfold sTryAs at q
    cases e : F ρ with
    | exc c' fs ρ' =>
      rw [e] at q
      intro cls dd σ' H' ks hx S'
      obtain ⟨C, h1, h2, h3⟩ := hx
      cases em : m c' with
      | none => simp only [em] at q; exact q.elim
      | some b =>
        obtain ⟨C', Y', h4, h5, h6⟩ := hm c' b em
        rw [h1] at h4
        cases h4
        rw [hY] at h5
        cases h5
        subst h2
        refine ⟨b, h6, fun hbt a ha => ?_, fun hbf => ?_⟩
        · subst hbt
          simp only [em] at q
          by_cases hil : i < ρ'.length
          · rw [if_pos hil] at q
            have hE : ErrD fs dd := by
              rcases h3 with h3 | ⟨hn, a, h3, _⟩
              · exact .inl h3
              · exact .inr ⟨hn, a, h3⟩
            refine ⟨⟨(c', fs, C), rfl, h1, hE⟩, ?_⟩
            refine (hsu c' fs a C dd h1 hE).ex.choose_spec.2 fr _ _ H' _ (S'.slot (d := .adr a) rfl hil) ?_
            by_cases hex : ∃ r, ∀ a, clr i (G c' fs a (ρ'.set i (some (.adr a)))) = r
            · obtain ⟨r, hr⟩ := hex
              rw [suite_eq hr] at q
              have hra := hr a
              have kk : KeepS pr σ (σ'.set i (some (.ref a))) := ks.trans (KeepS.set hp)
              cases eg : G c' fs a (ρ'.set i (some (.adr a))) with
              | nx ρ2 =>
                rw [eg] at hra
                subst hra
                exact fun σ2 H2 k2 S2 => q _ H2 ((kk.trans k2).trans (KeepS.set hp)) (S2.clear none)
              | brk ρ2 =>
                rw [eg] at hra
                subst hra
                exact fun σ2 H2 k2 S2 => q _ H2 ((kk.trans k2).trans (KeepS.set hp)) (S2.clear none)
              | cnt ρ2 =>
                rw [eg] at hra
                subst hra
                exact fun σ2 H2 k2 S2 => q _ H2 ((kk.trans k2).trans (KeepS.set hp)) (S2.clear none)
              | ret d ρ2 =>
                rw [eg] at hra
                subst hra
                exact fun v σ2 H2 k2 S2 => q v σ2 H2 (kk.trans k2) (S2.clear0 (i := i + 1))
              | exc _ _ _ =>
                rw [eg] at hra
                subst hra
                exact q.elim
              | stuck =>
                rw [eg] at hra
                subst hra
                exact q.elim
            · unfold DL.suite at q
              rw [dif_neg hex] at q
              exact q.elim
          · rw [if_neg hil] at q
            exact q.elim
        · subst hbf
          simp only [em] at q
          exact q _ _ σ' H' ks ⟨C, h1, rfl, h3⟩ S'
    | nx ρ' => rw [e] at q; exact q
    | ret d ρ' => rw [e] at q; exact q
    | brk ρ' => rw [e] at q; exact q
    | cnt ρ' => rw [e] at q; exact q
    | stuck => rw [e] at q; exact q.elim
/-! ### isinstance of the exception at hand -/
structure IsF (K : RC) (y : Str) (m : Str → Option Bool) : Prop where
  is_ : ∀ c b, m c = some b → ∃ C Y, K.mg c = some (.ref C) ∧ K.mg y = some (.ref Y) ∧ ExcC K.K C ∧ PySem.W.kitOne K.K (.ref C) (.ref Y) = some b
def eIsE (a : Addr) (o : Option Bool) (f : M D) : M D := match o with
  | some b => mbind f fun d => match d with
    | .adr a' => if a' = a then mret (.bl b) else mlift none
    | _ => mlift none
  | none => fun _ => .stuck
theorem ed_isE {y : Str} {m : Str → Option Bool} {p p2 : Pos} {a' C : Addr} {cn : Str} {fs : List (Str × D)} {d : Option Addr} (c : CF X K W k) (h : IsF K y m) (hC : K.mg cn = some (.ref C)) (hE : ErrD fs d) (hg : ∀ i, Gl (X i) "isinstance") (hm : K.mg "isinstance" = none) (hg2 : ∀ i, Gl (X i) y)
    (ha : ED (suF X a' C d) K W0 a fa) (hdb : (y == ("__debug__" : Str)) = false := by decide) (he : ∀ i : SuI X C d, starEach (a :: [.Name y p2]) (suF X a' C d i).env = (false, eval a (suF X a' C d i).env) :: starEach [.Name y p2] (suF X a' C d i).env := by intro _; rfl) (he2 : ∀ i : SuI X C d, starEach [.Name y p2] (suF X a' C d i).env = (false, eval (.Name y p2) (suF X a' C d i).env) :: starEach [] (suF X a' C d i).env := by intro _; rfl)
    (hpl : ∀ i : SuI X C d, (backTo pos (starEach [.Name y p2] (suF X a' C d i).env)).any (·.1) = false := by intro _; rfl) : ED (suF X a' C d) K W0 (.Call (.Name "isinstance" p) [a, .Name y p2] [] pos) (eIsE a' (if fs = [] then m cn else none) fa) := by
  obtain ⟨t, pa, s⟩ := ha.ex
  by_cases hf : fs = []
  · rw [if_pos hf]
    cases hb : m cn with
    | none => exact ⟨fun _ _ _ => False, (fun i => ⟨fun _ _ _ _ _ _ z => z.elim⟩), fun fr ρ σ H Q S q => q.elim⟩
    | some b =>
      have hd : d = none := by
        rcases hE with ⟨_, e⟩ | ⟨e, _⟩
        · exact e
        · exact absurd hf e
      obtain ⟨C', Y, h1, h2, h3, h4⟩ := h.is_ cn b hb
      rw [hC] at h1
      cases h1
      subst hd
      refine ⟨tCB (rIsE K.K C a') (tCons t (tCons (tC (.ref Y)) tNil)), (fun i => ?_), fun fr ρ σ H Q S q => s fr ρ σ H _ S ((QR.bind q).mono fun dv ρ1 q1 v H1 S1 => ?_)⟩
      · have h := pe_callB (X := suF X a' C none i) (p := p) (pos := pos) (call_isE (X := X i.1.1) (a := a') (pn := i.1.2.2) (C := by rw [c.kk]; exact h3) i.2.1 i.2.2) (hg i.1.1) (by rw [c.mg]; exact hm) (by decide +kernel) (pa_cons (pa i) (pa_cons (pe_glob (X := suF X a' C none i) (pos := p2) (hg2 i.1.1) (by rw [c.mg]; exact h2) (show RelV (.ref Y) (.ref Y) from rfl) hdb) pa_nil (he2 i)) (he i)) (by decide) (by decide) (he i) (hpl i)
        rw [c.kk] at h
        exact h
      · split at q1
        · rename_i a2
          by_cases ha2 : a2 = a'
          · rw [if_pos ha2] at q1
            subst ha2
            have := S1.topF rfl
            subst this
            exact ⟨.ref Y, .ref Y, b, rfl, (fun u r => r), h4, q1 _ H1 (S1.drop.pushF rfl)⟩
          · rw [if_neg ha2] at q1
            exact q1.elim
        · exact q1.elim
  · rw [if_neg hf]
    exact ⟨fun _ _ _ => False, (fun i => ⟨fun _ _ _ _ _ _ z => z.elim⟩), fun fr ρ σ H Q S q => q.elim⟩
end
end DL

set_option Elab.async false
set_option linter.all false
set_option maxRecDepth 100000
set_option maxHeartbeats 4000000
namespace DL
open PySem PySem.Spec L2
def ALen (g : M (List D)) (n : Nat) : Prop := ∀ ρ ds ρ', g ρ = .ok ds ρ' → ds.length = n
theorem al_nil : ALen aNil 0 := fun ρ ds ρ' e => by cases e; rfl
theorem al_cons {f : M D} {g : M (List D)} {n : Nat} (h : ALen g n) : ALen (aCons f g) (n + 1) := fun ρ ds ρ' e => by
  obtain ⟨d, ρ1, e1, e2⟩ := mbind_ok e
  obtain ⟨ds', ρ2, e3, e4⟩ := mbind_ok e2
  cases e4
  rw [List.length_cons, h _ _ _ e3]
section
variable {ι : Type} {X : ι → Cx} {K : RC} {W : WX} {k : Nat} {e a b : Expr} {es : List Expr} {f fa fb : M D} {g : M (List D)} {rs : List (Nat × Nat)} {pos : Pos} {pr : List Nat}
theorem ed_gint {x : Str} {i : Int} (c : CF X K W k) (h : ∃ t, K.mg x = some (.int i t)) (hg : ∀ j, Gl (X j) x) (hd : (x == ("__debug__" : Str)) = false := by decide) : ED X K W (.Name x pos) (eC (.int i)) := by
  obtain ⟨t, h⟩ := h
  exact ed_const rfl fun j => pe_glob (hg j) (by rw [c.mg j]; exact h) ⟨t, rfl⟩ hd
theorem ed_fn {j n m : Nat} {x : Str} {F : List D → Res D} {dfl : List D} {p : Pos} (c : CF X K W k) (h : ∀ i, FnX (X i) j x n dfl F) (hj : j ≤ k) (hg : ∀ i, Gl (X i) x) (ha : AM X K W (e :: es) g rs)
    (hl : ALen g m) (hn : m + dfl.length = n := by rfl) (hdb : (x == ("__debug__" : Str)) = false := by decide) (hd : ∀ d ∈ dfl, (flat d).isSome = true := by simp [flat])
    (he : ∀ i, starEach (e :: es) (X i).env = (false, eval e (X i).env) :: starEach es (X i).env := by intro _; rfl) (hpl : ∀ i, (backTo pos (starEach es (X i).env)).any (·.1) = false := by intro _; rfl) : ED X K W (.Call (.Name x p) (e :: es) [] pos) (eCall F g dfl rs) :=
  ed_call h c.K (fun i => (c.room i).mono hj) hg c.tk ha (fun ρ ds ρ' e => by rw [List.length_append, hl _ _ _ e]; exact hn) hdb hd he hpl
theorem ed_fn0 {j n : Nat} {x : Str} {F : List D → Res D} {dfl : List D} {p : Pos} (c : CF X K W k) (h : ∀ i, FnX (X i) j x n dfl F) (hj : j ≤ k) (hg : ∀ i, Gl (X i) x)
    (hn : dfl.length = n := by rfl) (hdb : (x == ("__debug__" : Str)) = false := by decide) (hd : ∀ d ∈ dfl, (flat d).isSome = true := by simp [flat]) : ED X K W (.Call (.Name x p) [] [] pos) (eCall F aNil dfl []) :=
  ed_call0 h c.K (fun i => (c.room i).mono hj) hg c.tk hn hdb hd
end
section
variable {P : Program} {w : World} {K : PySem.W.Frag} {mg : Str → Option Value} {base : Heap} {f : Addr} {fd : FuncData} {x y qual : Str} {params : Arguments} {body : List Stmt} {scope : Scope} {dvs : List V} {kws : List (Str × V)} {ps : List Str} {k : Nat} {Fn : List D → Res D}
theorem fnd_n (F : FunD K x qual params body scope dvs kws f fd) (hm : mg y = some (.ref f)) (b : Binds K fd ps []) (ok : FnOk P w K mg base (L2.CX P w) k f fd ps (spD ⟨K, mg⟩ ps.length Fn)) : FnD P w K mg base k y ps.length [] Fn :=
  ⟨f, fd, ps, [], hm, F.kp, b, .nil, (fun _ z => nomatch z), rfl, ok⟩
theorem fnd_d (F : FunD K x qual params body scope dvs kws f fd) (hm : mg y = some (.ref f)) (dfl : List D) {j : Nat} (b : ∃ ds, Vals (dvs.drop j) ds ∧ Binds K fd ps ds) (hd : dfl.map toV = dvs.drop j) (hf : ∀ d ∈ dfl, (flat d).isSome = true) (ok : FnOk P w K mg base (L2.CX P w) k f fd ps (spD ⟨K, mg⟩ ps.length Fn)) : FnD P w K mg base k y ps.length dfl Fn := by
  obtain ⟨ds, h1, h2⟩ := b
  exact ⟨f, fd, ps, ds, hm, F.kp, h2, by rw [hd]; exact h1, hf, rfl, ok⟩
/-- a def's context -/
theorem cf_of {N : List Str} {f : Addr} {cdv : Value} {A : Around} {outer : List PySem.Env} {s : Shared} {H : Hp} {E : XK} {ps : List Str} (S : FnScope N ps scope) (hr : Room k (A.deeper (PyProof.Rows.envOfC qual scope s.heap.objs.size f cdv))) :
    CF (fun _ : Unit => cxOf (L2.CX P w) P w K mg base N qual scope f cdv A outer s H E) ⟨K, mg⟩ (fun cls d _ H => E cls d H) k where
  K := fun _ => rfl
  calm := fun _ => rfl
  room := fun _ => hr
  tk := fun _ => takes_of rfl rfl rfl rfl
  nd := fun _ => S.nd
end
/-! ### facts of the text -/
theorem exf_of {K : PySem.W.Frag} {h : Heap} {mg : Str → Option Value} {x : Str} (X : K.In h) (G : h.Ns mainGlobals mg) (g : (He.Fa.glo x).ok K = true) (e : (He.Fa.exc x).ok K = true) : ExF ⟨K, mg⟩ x :=
  ⟨_, He.glo_ok X G g, He.exc_ok e⟩
def inL {α : Type} (P : α → Prop) : List α → Prop
  | [] => True
  | a :: l => P a ∧ inL P l
theorem inL_mem {α : Type} {P : α → Prop} {a : α} : ∀ {l : List α}, inL P l → a ∈ l → P a
  | b :: l, h, z => by
    rcases List.mem_cons.mp z with z | z
    · subst z; exact h.1
    · exact inL_mem h.2 z
theorem look_mem {l : List (Str × Bool)} {c : Str} {b : Bool} (h : l.lookup c = some b) : (c, b) ∈ l := by
  induction l with
  | nil => cases h
  | cons p l ih =>
    obtain ⟨x, y⟩ := p
    unfold List.lookup at h
    split at h
    · rename_i e
      cases h
      rw [beq_iff_eq.mp e]
      exact List.mem_cons_self
    · exact List.mem_cons_of_mem _ (ih h)
/-- the class y against the classes of l -/
def exmB (K : PySem.W.Frag) (y : Str) (l : List (Str × Bool)) : Bool := He.Fa.ok K (.glo y) && l.all fun p => He.Fa.ok K (.glo p.1) && He.Fa.ok K (.exm p.1 y p.2)
theorem exmF_of {K : PySem.W.Frag} {h : Heap} {mg : Str → Option Value} {y : Str} {l : List (Str × Bool)} (X : K.In h) (G : h.Ns mainGlobals mg) (e : exmB K y l = true) : ExmF ⟨K, mg⟩ y (fun c => l.lookup c) := fun c b hb => by
  obtain ⟨h1, h2⟩ := He.ba e
  have h3 := List.all_eq_true.mp h2 (c, b) (look_mem hb)
  obtain ⟨h4, h5⟩ := He.ba h3
  exact ⟨_, _, He.glo_ok X G h4, He.glo_ok X G h1, He.exm_ok h5⟩
def excC (K : PySem.W.Frag) (D : Addr) : Bool := decide (PySem.W.findIn K (.ref D) "__getattribute__" = some (some (.builtin "BaseException.__getattribute__"))) && (decide (PySem.W.findIn K (.ref D) "__getattr__" = some none) && (decide (PySem.W.subIn K (.ref D) (.type "BaseException") = some true) && (PySem.W.hasDictIn K D &&
  (decide (PySem.W.findIn K (.ref D) "__class__" = some (some (.builtin "object.__class__"))) && (decide (PySem.W.specialIn K (.builtin "object.__class__") "__get__" = some (some (.builtin "getset_descriptor.__get__"))) && (decide (PySem.W.takesIn K (.builtin "object.__class__") = some true) && decide (PySem.W.mroIn K D (.type "object") = some true)))))))
theorem excC_ok {K : PySem.W.Frag} {D : Addr} (h : excC K D = true) : ExcC K D := by
  obtain ⟨h1, h⟩ := He.ba h
  obtain ⟨h2, h⟩ := He.ba h
  obtain ⟨h3, h⟩ := He.ba h
  obtain ⟨h4, h⟩ := He.ba h
  obtain ⟨h5, h⟩ := He.ba h
  obtain ⟨h6, h⟩ := He.ba h
  obtain ⟨h7, h8⟩ := He.ba h
  exact ⟨of_decide_eq_true h1, of_decide_eq_true h2, of_decide_eq_true h3, h4, of_decide_eq_true h5, of_decide_eq_true h6, of_decide_eq_true h7, of_decide_eq_true h8⟩
def isB1 (K : PySem.W.Frag) (y : Str) (l : List (Str × Bool)) : Bool := He.Fa.ok K (.glo y) && l.all fun p => He.Fa.ok K (.glo p.1) && (excC K (He.ga K p.1) && decide (PySem.W.kitOne K (.ref (He.ga K p.1)) (.ref (He.ga K y)) = some p.2))
theorem isF_of {K : PySem.W.Frag} {h : Heap} {mg : Str → Option Value} {y : Str} {l : List (Str × Bool)} (X : K.In h) (G : h.Ns mainGlobals mg) (e : isB1 K y l = true) : IsF ⟨K, mg⟩ y (fun c => l.lookup c) := ⟨fun c b hb => by
  obtain ⟨h1, h2⟩ := He.ba e
  have h3 := List.all_eq_true.mp h2 (c, b) (look_mem hb)
  obtain ⟨h4, h5⟩ := He.ba h3
  obtain ⟨h6, h7⟩ := He.ba h5
  exact ⟨_, _, He.glo_ok X G h4, He.glo_ok X G h1, excC_ok h6, of_decide_eq_true h7⟩⟩
/-! ### the head with one more Bool -/
abbrev AlE : Type := He.AlD × Bool
def obsE (fa : List He.Fa) (fn : List He.DefD) (ex : PySem.W.Frag → Bool) (K : PySem.W.Frag) : AlE := (He.obsD fa fn K, ex K)
def SaysE (fa : List He.Fa) (fn : List He.DefD) (ex : PySem.W.Frag → Bool) (K : PySem.W.Frag) : Prop := obsE fa fn ex K = (He.valD fn, true)
def obsEG (n : Nat) (fa : List He.Fa) (fn : List He.DefD) (ex : PySem.W.Frag → Bool) (g : Addr → Option Obj) : AlE := obsE fa fn ex (He.frG g (He.asD g n))
def hookE (n : Nat) (fa : List He.Fa) (fn : List He.DefD) (ex : PySem.W.Frag → Bool) : PySem.W.Hook where
  α := AlE
  obs := fun s => obsEG n fa fn ex s.heap.get?
  val := fun _ => (He.valD fn, true)
  says := fun _ h => ∃ K : PySem.W.Frag, K.In h ∧ SaysE fa fn ex K
  of := fun _ _ e => ⟨_, He.frG_in, e⟩
  keeps := fun _ _ _ ⟨K, hK, c⟩ k => ⟨K, PySem.W.Frag.In.keeps hK k, c⟩
theorem obsEG_eq {n : Nat} {fa : List He.Fa} {fn : List He.DefD} {ex : PySem.W.Frag → Bool} {g : Addr → Option Obj} {s : Shared} (h : ∀ a, g a = s.heap.get? a) : obsEG n fa fn ex g = (hookE n fa fn ex).obs s := by
  have e : g = s.heap.get? := funext h
  rw [e] <;> rfl
section
variable {fa : List He.Fa} {fn : List He.DefD} {ex : PySem.W.Frag → Bool} {K : PySem.W.Frag}
theorem SaysE.d (c : SaysE fa fn ex K) : He.SaysD fa fn K := congrArg Prod.fst c
theorem SaysE.e (c : SaysE fa fn ex K) : ex K = true := congrArg Prod.snd c
end
/-! ### the end of a law -/
theorem spLaw_of {K : PySem.W.Frag} {mg : Str → Option Value} {F : List D → Res D} {n : Nat} (h : ∀ ns : List Int, ns.length ≤ n → ∃ os, F [.scr ns] = .ok (.bl true) os) (H : Hp) (a : Addr) (ns : List Int) (hl : ns.length ≤ n) (hS : SqL K H a (ns.map V.int)) :
    spD ⟨K, mg⟩ 1 F [.ref a] H (fun v _ => v = .bl true) fun _ _ _ => False := by
  obtain ⟨os, e⟩ := h ns hl
  refine ⟨⟨H, []⟩, [.scr ns], rfl, rfl, ⟨[], ⟨some (.ref a), [], [], [], rfl, rfl, ⟨.ref a, rfl, rfl, a, rfl, ?_⟩, rfl, rfl⟩, .nil, (fun _ z => nomatch z), (fun _ _ e => e), fun _ z => nomatch z⟩, ?_⟩
  · refine SqL.mono (fun b o e => ?_) hS
    exact hid_some.mpr ⟨(fun z => nomatch z), e⟩
  · rw [e]
    exact fun v H' S => S.topF rfl
end DL

set_option Elab.async false
set_option linter.all false
set_option maxRecDepth 100000
set_option maxHeartbeats 4000000
namespace DL
open PySem PySem.Spec L2
/-! ### an item of a variable that stays -/
theorem RepL.getA {K : RC} {F H : Hp} : ∀ {ds : List D} {xs : List V} {A : List Addr} {i : Nat} {d : D}, RepL K F H ds xs A → ds[i]? = some d → ∃ x B, xs[i]? = some x ∧ Rep K F H d x B
  | [], _, _, _, _, _, e => by simp at e
  | d :: ds, xs, A, i, d', r, e => by
    obtain ⟨v, ws, B, C, rfl, eA, r1, r2⟩ := r
    cases i with
    | zero =>
      have : d = d' := by simpa using e
      subst this
      exact ⟨v, B, rfl, r1⟩
    | succ i =>
      obtain ⟨x, B', h1, h2⟩ := RepL.getA (i := i) r2 (by simpa using e)
      exact ⟨x, B', by simpa using h1, h2⟩
section
variable {K : RC} {fr : Fr} {ρ : Env} {σ : L2.St} {H : Hp}
theorem Sim.pushB {i : Nat} {d : D} {x : V} (S : Sim K fr ρ σ H) {A : List Addr} (T : SimA K fr ρ σ H A) (r : Rep K (hid (A ++ fr.N) H) H d x []) : Sim K fr (some d :: ρ) (some x :: σ) H :=
  ⟨A, T.next (fun a z => .inl z) T.nd (fun a o _ e => e) ⟨some x, σ, [], A, rfl, rfl, ⟨x, rfl, r⟩, T.sl⟩⟩
theorem Sim.look {i j : Nat} {d e : D} {ds : List D} (S : Sim K fr ρ σ H) (h : ρ[i]? = some (some d)) (hi : items d = some ds) (hj : ds[j]? = some e) (hf : fro e = true) :
    ∃ p xs v, σ[i]? = some (some (.ref p)) ∧ (if isL d = true then SqL K.K H p xs else SqT K.K H p xs) ∧ xs.length = ds.length ∧ xs[j]? = some v ∧ Sim K fr (some e :: ρ) (some v :: σ) H := by
  obtain ⟨A, T⟩ := id S
  obtain ⟨s, A1, B, A2, e1, eA, ⟨v, rfl, r⟩, _⟩ := T.sl.at h
  have hH : ∀ a o, hid (A ++ fr.N) H a = some o → H a = some o := fun a o e => (hid_some.mp e).2
  have go : ∀ xs B', RepL K (hid (A ++ fr.N) H) H ds xs B' → ∃ v, xs[j]? = some v ∧ Sim K fr (some e :: ρ) (some v :: σ) H := fun xs B' r => by
    obtain ⟨x, B'', h1, h2⟩ := r.getA hj
    have := fro_rep hf h2
    subst this
    exact ⟨x, h1, S.pushB (i := i) T h2⟩
  cases d with
  | tup es =>
    cases hi
    obtain ⟨_, a, xs, rfl, s, r⟩ := r
    obtain ⟨x, h1, h2⟩ := go xs _ r
    exact ⟨a, xs, x, e1, SqT.mono hH s, r.len, h1, h2⟩
  | lst o es =>
    cases hi
    cases o with
    | false =>
      obtain ⟨_, a, xs, rfl, s, r⟩ := r
      obtain ⟨x, h1, h2⟩ := go xs _ r
      exact ⟨a, xs, x, e1, SqL.of (hH _ _ s), r.len, h1, h2⟩
    | true =>
      obtain ⟨a, xs, B1, rfl, _, s, r⟩ := r
      obtain ⟨x, h1, h2⟩ := go xs _ r
      exact ⟨a, xs, x, e1, SqL.of s, r.len, h1, h2⟩
  | scr ns =>
    cases hi
    obtain ⟨_, a, rfl, s⟩ := r
    obtain ⟨x, h1, h2⟩ := go _ _ (rep_ints ns)
    exact ⟨a, _, x, e1, SqL.mono hH s, by simp, h1, h2⟩
  | _ => cases hi
end
def eVix (i : Nat) (fj : M D) : M D := fun ρ => match ρ[i]? with
  | some (some _) => mbind fj (fun y ρ1 => match y with
    | .int j => (match ρ1[i]? with
      | some (some d) => (match (items d).bind fun ds => atI ds j with
        | some e => if fro e = true then .ok e ρ1 else .stuck
        | none => .stuck)
      | _ => .stuck)
    | _ => .stuck) ρ
  | _ => .stuck
section
variable {ι : Type} {X : ι → Cx} {K : RC} {W : WX} {k : Nat} {b : Expr} {fb : M D} {pos : Pos}
theorem Sim.slotV {fr : Fr} {ρ : Env} {σ : L2.St} {H : Hp} {i : Nat} {d : D} (S : Sim K fr ρ σ H) (h : ρ[i]? = some (some d)) : ∃ v, σ[i]? = some (some v) := by
  obtain ⟨v, e, _⟩ := S.move h
  exact ⟨v, e⟩
theorem ed_vix (i : Nat) {x : Str} {p0 : Pos} (c : CF X K W k) (h : ∀ j, PE (X j) (.Name x p0) (tVar i)) (hb : ED X K W b fb) (hs : PlainIx b := by exact fun _ _ => rfl) : ED X K W (.Subscript (.Name x p0) b pos) (eVix i fb) := by
  obtain ⟨tb, pb, sb⟩ := hb.ex
  refine ⟨tOp (rIx K.K) (tVar i) tb, (fun j => pe_ix (by rw [← c.kk j]; exact ix_seq) (h j) (pb j) hs), fun fr ρ σ H Q S q => ?_⟩
  unfold eVix at q
  split at q
  rotate_left
  · exact q.elim
  rename_i d0 e0
  obtain ⟨v0, hv0⟩ := S.slotV e0
  refine ⟨v0, hv0, ?_⟩
  refine sb fr ρ σ H _ S ((QR.bind q).mono fun y ρ1 q1 vy H1 S1 => ?_)
  split at q1
  rotate_left
  · exact q1.elim
  rename_i j
  split at q1
  rotate_left
  · exact q1.elim
  rename_i d e1
  have hy := S1.topF rfl
  subst hy
  cases hit : items d with
  | none => rw [hit] at q1; exact q1.elim
  | some ds =>
    rw [hit] at q1
    simp only [Option.bind_some] at q1
    cases ha : atI ds j with
    | none => rw [ha] at q1; exact q1.elim
    | some e =>
      rw [ha] at q1
      by_cases hf : fro e = true
      · simp only [hf, if_true] at q1
        have hj : ∃ n : Nat, ds[n]? = some e := by
          unfold atI at ha
          cases hn : ixN ds.length j with
          | none => rw [hn] at ha; cases ha
          | some n => rw [hn] at ha; exact ⟨n, ha⟩
        obtain ⟨n, hn, hx⟩ : ∃ n : Nat, ds[n]? = some e ∧ ∀ (α : Type) (xs : List α) (x : α), xs.length = ds.length → xs[n]? = some x → atI xs j = some x := by
          unfold atI at ha ⊢
          cases hn : ixN ds.length j with
          | none => rw [hn] at ha; cases ha
          | some n => rw [hn] at ha; exact ⟨n, ha, fun α xs x hl hx => by rw [hl, hn]; exact hx⟩
        obtain ⟨p, xs, v, h1, h2, h3, h4, S2⟩ := S1.drop.look e1 hit hn hf
        rw [hv0] at h1
        cases h1
        have hL := hx V xs v h3 h4
        by_cases hk : isL d = true
        · rw [if_pos hk] at h2
          exact .inl ⟨p, xs, j, v, rfl, rfl, h2, hL, q1 v H1 S2⟩
        · rw [if_neg hk] at h2
          exact .inr (.inl ⟨p, xs, j, v, rfl, rfl, h2, hL, q1 v H1 S2⟩)
      · simp only [hf] at q1
        exact q1.elim
end
end DL

set_option Elab.async false
set_option linter.all false
set_option maxRecDepth 100000
set_option maxHeartbeats 4000000
namespace DL
open PySem PySem.Spec L2
/-! ### dict displays, constant keys -/
theorem putK_new {k : Key} {v : V} {kvs : List (Key × V)} (h : k ∉ kvs.map Prod.fst) : putK kvs k v = kvs ++ [(k, v)] := by
  unfold putK
  rw [if_neg]
  intro h'
  obtain ⟨kv, h1, h2⟩ := List.any_eq_true.mp h'
  exact h (List.mem_map.mpr ⟨kv, h1, of_decide_eq_true h2⟩)
theorem mergeK_app : ∀ {more kvs : List (Key × V)}, (kvs.map Prod.fst ++ more.map Prod.fst).Nodup → mergeK kvs more = kvs ++ more
  | [], kvs, _ => by rw [List.append_nil]; rfl
  | (k, v) :: r, kvs, h => by
    show mergeK (putK kvs k v) r = _
    have hk : k ∉ kvs.map Prod.fst := fun z => (List.nodup_append.mp h).2.2 k z k List.mem_cons_self rfl
    rw [putK_new hk, mergeK_app (by
      rw [List.map_append, List.append_assoc]
      exact h), List.append_assoc]
    rfl
section
variable {K : RC} {fr : Fr} {ρ : Env} {σ : L2.St} {H : Hp} {ds : List D} {vs : List V} {ks : List Key} {p : Addr}
theorem Sim.newDk (S : Sim K fr ρ σ H) (hp : H p = none) : Sim K fr (some (.dk true [] []) :: ρ) (some (.ref p) :: σ) (upd H p (.dK [])) := by
  obtain ⟨A, S⟩ := S
  have tr := S.sl.tr
  have sub : ∀ a ∈ p :: A, a ∈ A ∨ H a = none := fun a z => by
    rcases List.mem_cons.mp z with z | z
    · subst z; exact .inr hp
    · exact .inl z
  have kp : ∀ a o, H a = some o → upd H p (.dK []) a = some o := fun a o e => by rw [upd_ne (ne_of_none e hp)]; exact e
  have f := S.fro sub (H' := upd H p (.dK [])) fun a o _ e => kp a o e
  exact ⟨p :: A, S.next sub (nodup_cons_fresh S.nd hp tr) (fun a o _ e => kp a o e) ⟨some (.ref p), σ, [p], A, rfl, rfl, ⟨.ref p, rfl, p, [], [], rfl, rfl, upd_same, rfl, rfl, rfl⟩, S.sl.mono f fun a _ o e => kp a o e⟩⟩
theorem zip_fst : ∀ {ks : List Key} {vs : List V}, ks.length = vs.length → (ks.zip vs).map Prod.fst = ks
  | [], [], _ => rfl
  | k :: ks, v :: vs, h => by
    show k :: ((ks.zip vs).map Prod.fst) = _
    rw [zip_fst (by simpa using h)]
theorem zip_snd : ∀ {ks : List Key} {vs : List V}, ks.length = vs.length → (ks.zip vs).map Prod.snd = vs
  | [], [], _ => rfl
  | k :: ks, v :: vs, h => by
    show v :: ((ks.zip vs).map Prod.snd) = _
    rw [zip_snd (by simpa using h)]
theorem Sim.fillD (S : Sim K fr (some (.dk true [] []) :: (ds.map some ++ ρ)) (some (.ref p) :: (vs.map some ++ σ)) H) (hl : vs.length = ds.length) (hk : ks.length = ds.length) : H p = some (.dK []) ∧ Sim K fr (some (.dk true ks ds) :: ρ) (some (.ref p) :: σ) (upd H p (.dK (ks.zip vs))) := by
  obtain ⟨A, S⟩ := S
  obtain ⟨s1, τ1, B1, C1, e1, rfl, ⟨v1, ev, r1⟩, r2⟩ := S.sl
  injection e1 with e1 e2
  subst e1 e2
  cases ev
  obtain ⟨a, kvs, B, ea, rfl, hx, hks, r1⟩ := r1
  cases ea
  have hkv : kvs = [] := by simpa using hks
  subst hkv
  have hB : B = [] := r1.2
  subst hB
  obtain ⟨A1, A2, rfl, q1, q2⟩ := Sl.cut (by simpa using hl) r2
  refine ⟨hx, p :: (A1 ++ A2), ?_⟩
  have sub : ∀ b ∈ p :: (A1 ++ A2), b ∈ p :: [] ++ (A1 ++ A2) ∨ H b = none := fun b z => .inl z
  have nd0 : (p :: (A1 ++ A2)).Nodup := S.nd
  have pn : p ∉ A1 ++ A2 := (List.nodup_cons.mp nd0).1
  have kp : ∀ b o, b ≠ p → H b = some o → upd H p (.dK (ks.zip vs)) b = some o := fun b o n e => by rw [upd_ne n]; exact e
  have kpA : ∀ b o, b ∉ p :: [] ++ (A1 ++ A2) → H b = some o → upd H p (.dK (ks.zip vs)) b = some o := fun b o n e => kp b o (fun z => n (by simp [z])) e
  have f := S.fro sub (H' := upd H p (.dK (ks.zip vs))) kpA
  have ne : ∀ b, b ∈ A1 ++ A2 → b ≠ p := fun b z e => pn (e ▸ z)
  have hlk : ks.length = vs.length := by rw [hk, hl]
  refine S.next sub nd0 kpA ⟨some (.ref p), _, p :: A1, A2, rfl, rfl, ⟨.ref p, rfl, p, ks.zip vs, A1, rfl, rfl, upd_same, zip_fst hlk, ?_⟩, q2.mono f fun b z o e => kp b o (ne b (by simp [z])) e⟩
  rw [zip_snd hlk]
  exact q1.repL.mono f _ _ _ fun b z o e => kp b o (ne b (by simp [z])) e
end
structure PD {ι : Type} (X : ι → Cx) (K : RC) (W : WX) (pos : Pos) (keys : List (Option Expr)) (values : List Expr) (ks : List Key) (f : M (List D)) : Prop where
  ex : ∃ trs, (∀ i, PPs (X i) pos keys values trs) ∧ ∀ fr ρ σ H Q, Sim K fr ρ σ H → QR K W fr σ (f ρ) (fun ds ρ' => ∀ vs H', vs.length = ds.length → ks.length = ds.length → Sim K fr (ds.map some ++ ρ') (vs.map some ++ σ) H' → Q ((ks.zip vs).map fun kv => (kV kv.1, kv.2)) H') → tPairs trs σ H Q
def eDict (ks : List Key) (f : M (List D)) : M D := mbind f fun ds => if ks.Nodup ∧ ks.length ≤ 15 then mret (.dk true ks ds) else mlift none
section
variable {ι : Type} {X : ι → Cx} {K : RC} {W : WX} {k : Nat} {e : Expr} {f : M D} {g : M (List D)} {pos : Pos} {ks : List Key} {keys : List (Option Expr)} {values : List Expr}
theorem pd_nil : PD X K W pos [] [] [] aNil := ⟨[], (fun _ => pps_nil), fun fr ρ σ H Q S q => q [] H rfl rfl S⟩
theorem pd_cons {ke : Expr} {y : Key} (hk : ∀ i, PE (X i) ke (tC (kV y))) (h : ED X K W e f) (hr : PD X K W pos keys values ks g) : PD X K W pos (some ke :: keys) (e :: values) (y :: ks) (aCons f g) := by
  obtain ⟨t, p, s⟩ := h.ex
  obtain ⟨u, p2, s2⟩ := hr.ex
  refine ⟨(tC (kV y), t) :: u, (fun i => pps_cons (hk i) (p i) (p2 i)), fun fr ρ σ H Q S q => ?_⟩
  refine s fr ρ σ H _ S ((QR.bind q).mono fun d ρ1 q1 v H1 S1 => ?_)
  obtain ⟨fr', S', back⟩ := S1.hold
  refine s2 fr' ρ1 σ H1 _ S' (((QR.bind q1).frame fun ρ H s => (back ρ σ H s).drop).mono fun ds ρ2 q2 vs H2 hl hk S2 => ?_)
  exact q2 (v :: vs) H2 (by simp [hl]) (by simp [hk]) (back _ _ H2 S2)
theorem ed_dict0 : ED X K W (.Dict [] [] pos) (eC (.dk true [] [])) := ⟨tDNewK, (fun _ => pe_dnewK), fun fr ρ σ H Q S q p hp => q _ _ (S.newDk hp)⟩
theorem ed_dict {y : Key} {ke : Option Expr} (h : PD X K W pos (ke :: keys) values (y :: ks) g) (hall : (ke :: keys).all (·.isSome) = true := by rfl) (hl : (ke :: keys).length = values.length := by rfl) (h15 : (ke :: keys).length ≤ 15 := by decide) : ED X K W (.Dict (ke :: keys) values pos) (eDict (y :: ks) g) := by
  obtain ⟨u, p, s⟩ := h.ex
  refine ⟨tDisp u, (fun i => pe_disp (p i) hall hl (by intro z; cases z) h15), fun fr ρ σ H Q S q a ha => ?_⟩
  have S1 := S.newDk ha
  obtain ⟨fr', S', back⟩ := S1.hold
  refine s fr' ρ σ _ _ S' (((QR.bind q).frame fun ρ H s => (back ρ σ H s).drop).mono fun ds ρ2 q2 vs H2 hlv hk S2 => ?_)
  by_cases hz : (y :: ks).Nodup ∧ (y :: ks).length ≤ 15
  · rw [if_pos hz] at q2
    obtain ⟨h1, h2⟩ := (back _ _ _ S2).fillD hlv hk
    have hlk : (y :: ks).length = vs.length := by rw [hk, hlv]
    refine ⟨h1, (y :: ks).zip vs, rfl, by rw [List.length_zip, hlk, Nat.min_self, ← hlk]; exact hz.2, ?_⟩
    rw [mergeK_app (kvs := []) (by
      rw [List.map_nil, List.nil_append, zip_fst hlk]
      exact hz.1)]
    exact q2 _ _ h2
  · rw [if_neg hz] at q2
    exact q2.elim
end
def tBor (f : M Bool) : M Bool := fun ρ => match f (ρ.map (Option.map frz)) with
  | .ok b _ => .ok b ρ
  | .exc c fs _ => .exc c fs ρ
  | .stuck => .stuck
def keepsW : True := trivial
theorem CF.w0 {ι : Type} {X : ι → Cx} {K : RC} {W : WX} {k : Nat} (c : CF X K W k) : CF X K W0 k := ⟨c.K, c.calm, c.room, (fun _ => takes0), c.nd⟩
end DL

set_option Elab.async false
set_option linter.all false
set_option maxRecDepth 100000
set_option maxHeartbeats 4000000
namespace DL
open PySem PySem.Spec L2
theorem walk_ofEW {l : PySem.W.OpenLaw} {n k : Nat} {q : Program} {loose : List Str} {XP : (Str → Option Value) → Heap → Prop} {YP : World → Heap → Prop} {d : DefRec} {CX : World → CXT} {x : Str}
    (hn : l.most = some n) (hn2 : n ≤ sizeLine) (hdf : d.params.defaults = []) (hr : Room k callerA)
    (F : ∀ (w : World) (mg : Str → Option Value) (fa : Addr) (h : Heap), YP w h → h.Ns mainGlobals mg → mg d.name = some (.ref fa) →
      ∃ (K : PySem.W.Frag) (fd : FuncData) (sp : Sp), K.In h ∧ (∀ (s : Shared) (u : Value), BindsTo s fd ⟨[u], []⟩ [(x, u)]) ∧
        (∀ (H : Hp) (a : Addr) (ns : List Int), ns.length ≤ n → Only H → SqL K H a (ns.map V.int) → sp [.ref a] H (fun v _ => v = .bl true) fun _ _ _ => False) ∧
        ∀ base : Heap, K.In base → base.Ns mainGlobals mg → FnOk l.prog w K mg base (CX w) k fa fd [x] sp)
    (hCX : ∀ (w : World) (H : Hp) (s : Shared) (e : Value) (s' : Shared), CX w [] H s (fun _ _ _ => False) e s' → False) :
    PySem.W.WalkO q loose XP YP l.row.toRowW d [] (fun f vs => PySem.call f vs) := by
  refine Att.attach_call hn hdf fun w s₀ s₁ mg mb fa o pm cd doc a vs ns G Y ho hd hcd hmg hobj hints hlen hg => ?_
  obtain ⟨K, fd, sp, KX, hb, hsp, hF⟩ := F w mg fa _ Y G.T.g hmg
  exact law_call KX G.T.g G.T.b G.T.builtins G.T.nolimit hg hobj hints (Nat.le_trans hlen hn2) hr hF hb (fun H hO hS => hsp H a ns hlen hO hS) fun H e s' => hCX w H s₁ e s'
theorem cx_no {P : Program} (w : World) (H : Hp) (s : Shared) (e : Value) (s' : Shared) (x : L2.CX P w [] H s (fun _ _ _ => False) e s') : False := by
  obtain ⟨a, B, H', cls, d, _, _, _, _, _, _, _, z⟩ := x
  exact z
end DL

set_option Elab.async false
set_option linter.all false
set_option maxRecDepth 100000
set_option maxHeartbeats 4000000
set_option exponentiation.threshold 9000
namespace DL
open PySem PySem.Spec L2
/-! ## plain evaluation of readings -/
theorem eqv_ii (i j : Int) : PyData.eqv (.int i) (.int j) = (i == j) := by rw [PyData.eqv]
theorem shaped_int (i : Int) : SeqAt.shaped (.int i) = true := by rfl
theorem eqB_int (i j : Int) : eqB (.int i) (.int j) = some (decide (i = j)) := by
  unfold eqB
  simp only [toPy, Option.bind_some, shaped_int, and_self, if_true, eqv_ii]
  by_cases h : i = j <;> simp [h]
theorem lt300 {n b : Nat} (hb : b ≤ 300) (h : n < 2 ^ b) : n < 2 ^ 300 := Nat.lt_of_lt_of_le h (Nat.pow_le_pow_right (by decide) hb)
theorem mulD_ok {i j : Int} (hi : i.natAbs < 2 ^ 300) (hj : j.natAbs < 2 ^ 300) : mulD (.int i) (.int j) = some (.int (i * j)) := by
  have := mulx_ok hi hj (by decide)
  simp [mulD, this]
theorem mulD_ok2 {i j : Int} (hi : -(2 ^ 80 : Int) < i ∧ i < 2 ^ 80) (hj : -(2 ^ 80 : Int) < j ∧ j < 2 ^ 80) : mulD (.int i) (.int j) = some (.int (i * j)) :=
  mulD_ok (lt300 (b := 80) (by decide) (by omega)) (lt300 (b := 80) (by decide) (by omega))
theorem fdivD_ok {i j : Int} (h1 : 0 < j) (h2 : j < 2 ^ 62) : fdivD (.int i) (.int j) = some (.int (i / j)) := by
  have : j.natAbs < 2 ^ 8000 := Nat.lt_trans (show j.natAbs < 2 ^ 62 by omega) (by decide)
  simp [fdivD, ii, h1, this]
theorem modD_ok {i j : Int} (h1 : 0 < j) : modD (.int i) (.int j) = some (.int (i % j)) := by simp [modD, ii, h1]
theorem powD_ok {i j : Int} (h1 : 0 ≤ j) (h2 : j ≤ 1000000) (h3 : i.natAbs < 2 ^ 64) : powD (.int i) (.int j) = some (.int (i ^ j.toNat)) := by simp [powD, ii, h1, h2, h3]
section
variable {α β : Type} {m : M α} {F G : SF} {ρ ρ1 ρ2 ρ3 : DL.Env} {f fa fb fc : M D} {g : M (List D)} {d x y z : D} {ds os : _} {c c2 : M Bool} {i j : Int}
theorem mbind_of {m : M α} {k : α → M β} {a : α} (h : m ρ = .ok a ρ1) : mbind m k ρ = k a ρ1 := by unfold mbind; rw [h]
theorem sE_of {m : M α} {k : α → SF} {a : α} (h : m ρ = .ok a ρ1) : sE m k ρ = k a ρ1 := by unfold sE; rw [h]
theorem e2_ok {op : D → D → Option D} (h1 : fa ρ = .ok x ρ1) (h2 : fb ρ1 = .ok y ρ2) (h3 : op x y = some d) : e2 op fa fb ρ = .ok d ρ2 := by
  unfold e2; rw [mbind_of h1, mbind_of h2, h3]; rfl
theorem e1_ok {op : D → Option D} (h1 : fa ρ = .ok x ρ1) (h3 : op x = some d) : e1 op fa ρ = .ok d ρ1 := by
  unfold e1; rw [mbind_of h1, h3]; rfl
theorem eBi_ok {op : List D → Option D} {ds : List D} (h1 : g ρ = .ok ds ρ1) (h3 : op ds = some d) : eBi op g ρ = .ok d ρ1 := by
  unfold eBi; rw [mbind_of h1, h3]; rfl
theorem aCons_ok {ds : List D} (h1 : f ρ = .ok d ρ1) (h2 : g ρ1 = .ok ds ρ2) : aCons f g ρ = .ok (d :: ds) ρ2 := by
  unfold aCons; rw [mbind_of h1, mbind_of h2]; rfl
theorem eFrz_ok (h1 : f ρ = .ok d ρ1) : eFrz f ρ = .ok (frz d) ρ1 := by
  unfold eFrz; rw [mbind_of h1]; rfl
theorem eFrz_int (h1 : f ρ = .ok (.int i) ρ1) : eFrz f ρ = .ok (.int i) ρ1 := eFrz_ok h1
theorem eBor_int (h1 : f (ρ.map (Option.map frz)) = .ok (.int i) ρ1) : eBor f ρ = .ok (.int i) ρ := by
  unfold eBor; rw [h1]; rfl
theorem eBor_bl {b : Bool} (h1 : f (ρ.map (Option.map frz)) = .ok (.bl b) ρ1) : eBor f ρ = .ok (.bl b) ρ := by
  unfold eBor; rw [h1]; rfl
theorem tBor_ok {b : Bool} (h1 : c (ρ.map (Option.map frz)) = .ok b ρ1) : tBor c ρ = .ok b ρ := by
  unfold tBor; rw [h1]
theorem sAsg_ok {k : D → DL.Env → Option DL.Env} (h1 : f ρ = .ok d ρ1) (h2 : k d ρ1 = some ρ2) : sAsg f k ρ = .nx ρ2 := by
  unfold sAsg; rw [sE_of h1]; simp only [h2]
theorem sRet_ok (h1 : f ρ = .ok d ρ1) : sRet f ρ = .ret d ρ1 := by
  unfold sRet; rw [sE_of h1]
theorem sDrop_ok (h1 : f ρ = .ok d ρ1) : sDrop f ρ = .nx ρ1 := by
  unfold sDrop; rw [sE_of h1]
theorem sIf_t (h1 : c ρ = .ok true ρ1) : sIf c F G ρ = F ρ1 := by
  unfold sIf; rw [sE_of h1]; rfl
theorem sIf_f (h1 : c ρ = .ok false ρ1) : sIf c F G ρ = G ρ1 := by
  unfold sIf; rw [sE_of h1]; rfl
theorem seq_nx (h : F ρ = .nx ρ1) : sSeq F G ρ = G ρ1 := by unfold sSeq; rw [h]
theorem seq_ret (h : F ρ = .ret d ρ1) : sSeq F G ρ = .ret d ρ1 := by unfold sSeq; rw [h]
theorem seq_exc {cn : Str} {fs : List (Str × D)} (h : F ρ = .exc cn fs ρ1) : sSeq F G ρ = .exc cn fs ρ1 := by unfold sSeq; rw [h]
theorem eCall_ok {Fn : List D → Res D} {dfl : List D} {rs : List (Nat × Nat)} {ds : List D} {os : DL.Env} (h1 : g ρ = .ok ds ρ1) (h2 : Fn (ds ++ dfl) = .ok d os) : eCall Fn g dfl rs ρ = .ok d (restore rs os ρ1) := by
  unfold eCall; rw [mbind_of h1, h2]
theorem eCall_exc {Fn : List D → Res D} {dfl : List D} {rs : List (Nat × Nat)} {ds : List D} {os : DL.Env} {cn : Str} {fs : List (Str × D)} (h1 : g ρ = .ok ds ρ1) (h2 : Fn (ds ++ dfl) = .exc cn fs os) : eCall Fn g dfl rs ρ = .exc cn fs (restore rs os ρ1) := by
  unfold eCall; rw [mbind_of h1, h2]
theorem eCall_of {Fn : List D → Res D} {dfl : List D} {rs : List (Nat × Nat)} {ds es : List D} {os : DL.Env} (h1 : g ρ = .ok ds ρ1) (hd : ds ++ dfl = es) (h2 : Fn es = .ok d os) (h3 : restore rs os ρ1 = ρ2) : eCall Fn g dfl rs ρ = .ok d ρ2 := by subst hd h3; exact eCall_ok h1 h2
theorem eCall_xof {Fn : List D → Res D} {dfl : List D} {rs : List (Nat × Nat)} {ds es : List D} {os : DL.Env} {cn : Str} {fs : List (Str × D)} (h1 : g ρ = .ok ds ρ1) (hd : ds ++ dfl = es) (h2 : Fn es = .exc cn fs os) (h3 : restore rs os ρ1 = ρ2) : eCall Fn g dfl rs ρ = .exc cn fs ρ2 := by subst hd h3; exact eCall_exc h1 h2
theorem run_ok {pr : List Nat} {n L : Nat} {b : SF} {ds : List D} {os ρ0 : DL.Env} (h : b ρ0 = .ret d ρ) (h0 : ds.map some ++ List.replicate (L - ds.length) none = ρ0) (hl : n ≤ ρ.length) (ho : outs pr n ρ = os) : runS pr n L b ds = .ok d os := by
  subst h0 ho
  unfold runS; rw [h]; exact if_pos hl
theorem run_nx {pr : List Nat} {n L : Nat} {b : SF} {ds : List D} {os ρ0 : DL.Env} (h : b ρ0 = .nx ρ) (h0 : ds.map some ++ List.replicate (L - ds.length) none = ρ0) (hl : n ≤ ρ.length) (ho : outs pr n ρ = os) : runS pr n L b ds = .ok .non os := by
  subst h0 ho
  unfold runS; rw [h]; exact if_pos hl
theorem run_exc {pr : List Nat} {n L : Nat} {b : SF} {ds : List D} {os ρ0 : DL.Env} {cn : Str} {fs : List (Str × D)} (h : b ρ0 = .exc cn fs ρ) (h0 : ds.map some ++ List.replicate (L - ds.length) none = ρ0) (hl : n ≤ ρ.length) (ho : outs pr n ρ = os) : runS pr n L b ds = .exc cn fs os := by
  subst h0 ho
  unfold runS; rw [h]; exact if_pos hl
theorem eFrz_exc {cn : Str} {fs : List (Str × D)} (h1 : f ρ = .exc cn fs ρ1) : eFrz f ρ = .exc cn fs ρ1 := by unfold eFrz mbind; rw [h1]
theorem sAsg_exc {k : D → DL.Env → Option DL.Env} {cn : Str} {fs : List (Str × D)} (h1 : f ρ = .exc cn fs ρ1) : sAsg f k ρ = .exc cn fs ρ1 := by unfold sAsg sE; rw [h1]
theorem sTry_exc {m : Str → Option Bool} {i : Nat} {G : Str → List (Str × D) → Addr → SF} {cn : Str} {fs : List (Str × D)} {r : RS} (h : F ρ = .exc cn fs ρ1) (hm : m cn = some true) (hi : i < ρ1.length) (hs : ∀ a, clr i (G cn fs a (ρ1.set i (some (.adr a)))) = r) : sTryAs F m i G ρ = r := by
  unfold sTryAs; rw [h]; simp only [hm, hi, if_true]; exact suite_eq hs
theorem sTry_nx {m : Str → Option Bool} {i : Nat} {G : Str → List (Str × D) → Addr → SF} (h : F ρ = .nx ρ1) : sTryAs F m i G ρ = .nx ρ1 := by
  unfold sTryAs; rw [h]
theorem sTry_ret {m : Str → Option Bool} {i : Nat} {G : Str → List (Str × D) → Addr → SF} (h : F ρ = .ret d ρ1) : sTryAs F m i G ρ = .ret d ρ1 := by
  unfold sTryAs; rw [h]
theorem eIsE_ok {a : Addr} {b : Bool} (h : f ρ = .ok (.adr a) ρ1) : eIsE a (some b) f ρ = .ok (.bl b) ρ1 := by
  unfold eIsE; simp only [mbind_of h, if_true]; rfl
theorem len_scr (ns : List Int) : lenD [.scr ns] = some (.int ns.length) := by simp [lenD, items]
theorem ix_scr {ns : List Int} {k : Int} (h0 : 0 ≤ k) (h1 : k < ns.length) : ∃ x, ixD (.scr ns) (.int k) = some (.int x) := by
  have hk : k.toNat < ns.length := by omega
  refine ⟨ns[k.toNat], ?_⟩
  simp [ixD, items, atI, ixN, h0, h1, hk]
theorem map_mem {α β : Type} {l : List α} {f g : α → β} (h : l.map f = l.map g) : ∀ a ∈ l, f a = g a := List.map_inj_left.mp h
theorem eB_ok {b : Bool} (h1 : f ρ = .ok (.bl b) ρ1) : eB f ρ = .ok b ρ1 := by
  unfold eB; rw [mbind_of h1]; rfl
theorem mAnd_t {b : Bool} (h1 : c ρ = .ok true ρ1) (h2 : c2 ρ1 = .ok b ρ2) : mAnd c c2 ρ = .ok b ρ2 := by
  unfold mAnd; rw [mbind_of h1, if_pos rfl, h2]
theorem mAnd_f (h1 : c ρ = .ok false ρ1) : mAnd c c2 ρ = .ok false ρ1 := by
  unfold mAnd; rw [mbind_of h1]; rfl
theorem mOr_f {b : Bool} (h1 : c ρ = .ok false ρ1) (h2 : c2 ρ1 = .ok b ρ2) : mOr c c2 ρ = .ok b ρ2 := by
  unfold mOr; rw [mbind_of h1, if_neg Bool.false_ne_true, h2]
theorem mOr_t (h1 : c ρ = .ok true ρ1) : mOr c c2 ρ = .ok true ρ1 := by
  unfold mOr; rw [mbind_of h1]; rfl
theorem mNot_ok {b : Bool} (h1 : c ρ = .ok b ρ1) : mNot c ρ = .ok (!b) ρ1 := by
  unfold mNot; rw [mbind_of h1]; rfl
theorem eAnd_t (h1 : fa ρ = .ok (.bl true) ρ1) (h2 : fb ρ1 = .ok d ρ2) : eAnd fa fb ρ = .ok d ρ2 := by
  unfold eAnd; rw [mbind_of h1]; exact h2
theorem eAnd_f (h1 : fa ρ = .ok (.bl false) ρ1) : eAnd fa fb ρ = .ok (.bl false) ρ1 := by
  unfold eAnd; rw [mbind_of h1]; rfl
theorem eOr_f (h1 : fa ρ = .ok (.bl false) ρ1) (h2 : fb ρ1 = .ok d ρ2) : eOr fa fb ρ = .ok d ρ2 := by
  unfold eOr; rw [mbind_of h1]; exact h2
theorem eOr_t (h1 : fa ρ = .ok (.bl true) ρ1) : eOr fa fb ρ = .ok (.bl true) ρ1 := by
  unfold eOr; rw [mbind_of h1]; rfl
theorem eNot_ok {b : Bool} (h1 : fa ρ = .ok (.bl b) ρ1) : eNot fa ρ = .ok (.bl !b) ρ1 := by
  unfold eNot; rw [mbind_of h1]; rfl
theorem eIf_t (h1 : c ρ = .ok true ρ1) (h2 : fa ρ1 = .ok d ρ2) : eIf c fa fb ρ = .ok d ρ2 := by
  unfold eIf; rw [mbind_of h1, if_pos rfl, h2]
theorem eIf_f (h1 : c ρ = .ok false ρ1) (h2 : fb ρ1 = .ok d ρ2) : eIf c fa fb ρ = .ok d ρ2 := by
  unfold eIf; rw [mbind_of h1, if_neg Bool.false_ne_true, h2]
theorem eTup_ok {ds : List D} (h1 : g ρ = .ok ds ρ1) (h : ds.length ≤ 1000) : eTup g ρ = .ok (.tup (frzL ds)) ρ1 := by
  unfold eTup; rw [mbind_of h1, if_pos (Nat.le_trans h (by rw [sizeLine_eq]; decide))]; rfl
theorem eLst_ok {ds : List D} (h1 : g ρ = .ok ds ρ1) (h : ds.length ≤ 1000) : eLst g ρ = .ok (.lst true ds) ρ1 := by
  unfold eLst; rw [mbind_of h1, if_pos (Nat.le_trans h (by rw [sizeLine_eq]; decide))]; rfl
theorem eInst_ok {T : Ty} {b : Bool} (h1 : f ρ = .ok d ρ1) (h : instB T d = some b) : eInst T f ρ = .ok (.bl b) ρ1 := by
  unfold eInst; rw [mbind_of h1, h]; rfl
theorem add_ok (h1 : fa ρ = .ok (.int i) ρ1) (h2 : fb ρ1 = .ok (.int j) ρ2) : e2 addD fa fb ρ = .ok (.int (i + j)) ρ2 := e2_ok h1 h2 rfl
theorem sub_ok (h1 : fa ρ = .ok (.int i) ρ1) (h2 : fb ρ1 = .ok (.int j) ρ2) : e2 subD fa fb ρ = .ok (.int (i - j)) ρ2 := e2_ok h1 h2 rfl
theorem mul_ok {k : Int} (h1 : fa ρ = .ok (.int i) ρ1) (h2 : fb ρ1 = .ok (.int j) ρ2) (h3 : mulD (.int i) (.int j) = some (.int k)) : e2 mulD fa fb ρ = .ok (.int k) ρ2 := e2_ok h1 h2 h3
theorem mod_ok {k : Int} (h1 : fa ρ = .ok (.int i) ρ1) (h2 : fb ρ1 = .ok (.int j) ρ2) (h3 : modD (.int i) (.int j) = some (.int k)) : e2 modD fa fb ρ = .ok (.int k) ρ2 := e2_ok h1 h2 h3
theorem fdiv_ok {k : Int} (h1 : fa ρ = .ok (.int i) ρ1) (h2 : fb ρ1 = .ok (.int j) ρ2) (h3 : fdivD (.int i) (.int j) = some (.int k)) : e2 fdivD fa fb ρ = .ok (.int k) ρ2 := e2_ok h1 h2 h3
theorem ix_int (h1 : fa ρ = .ok x ρ1) (h2 : fb ρ1 = .ok y ρ2) (h3 : ixD x y = some (.int i)) : e2 ixD fa fb ρ = .ok (.int i) ρ2 := e2_ok h1 h2 h3
theorem int_ok (h1 : g ρ = .ok [.int i] ρ1) : eBi intD g ρ = .ok (.int i) ρ1 := eBi_ok h1 rfl
/-! tests of ints -/
theorem lt_ok (h1 : fa ρ = .ok (.int i) ρ1) (h2 : fb ρ1 = .ok (.int j) ρ2) {b : Bool} (h : decide (i < j) = b) : e2 ltD fa fb ρ = .ok (.bl b) ρ2 := e2_ok h1 h2 (by rw [← h]; rfl)
theorem gt_ok (h1 : fa ρ = .ok (.int i) ρ1) (h2 : fb ρ1 = .ok (.int j) ρ2) {b : Bool} (h : decide (j < i) = b) : e2 gtD fa fb ρ = .ok (.bl b) ρ2 := e2_ok h1 h2 (by rw [← h]; rfl)
theorem le_ok (h1 : fa ρ = .ok (.int i) ρ1) (h2 : fb ρ1 = .ok (.int j) ρ2) {b : Bool} (h : decide (i ≤ j) = b) : e2 lebD fa fb ρ = .ok (.bl b) ρ2 := e2_ok h1 h2 (by rw [← h]; rfl)
theorem ge_ok (h1 : fa ρ = .ok (.int i) ρ1) (h2 : fb ρ1 = .ok (.int j) ρ2) {b : Bool} (h : decide (j ≤ i) = b) : e2 geD fa fb ρ = .ok (.bl b) ρ2 := e2_ok h1 h2 (by rw [← h]; rfl)
theorem eqi_ok (h1 : fa ρ = .ok (.int i) ρ1) (h2 : fb ρ1 = .ok (.int j) ρ2) {b : Bool} (h : decide (i = j) = b) : e2 eqD fa fb ρ = .ok (.bl b) ρ2 := e2_ok h1 h2 (by unfold eqD; rw [eqB_int, ← h]; rfl)
theorem nei_ok (h1 : fa ρ = .ok (.int i) ρ1) (h2 : fb ρ1 = .ok (.int j) ρ2) {b : Bool} (h : (!decide (i = j)) = b) : e2 neD fa fb ρ = .ok (.bl b) ρ2 := e2_ok h1 h2 (by unfold neD; rw [eqB_int, ← h]; rfl)
/-- a range of tests a <= x <= b -/
theorem chain_ok {k l : Int} (h1 : fa ρ = .ok (.int i) ρ1) (h2 : fb ρ1 = .ok (.int j) ρ2) (h3 : fc ρ2 = .ok (.int k) ρ3) (hp : ρ3 = ρ2) {b : Bool} (h : decide (i ≤ j ∧ j ≤ k) = b) : eChain lebD lebD fa fb fc ρ = .ok (.bl b) ρ2 := by
  subst hp
  unfold eChain
  rw [mbind_of h1, mbind_of h2]
  by_cases c1 : i ≤ j
  · have e : lebD (.int i) (.int j) = some (.bl true) := by simp [lebD, ii, c1]
    rw [e]
    show mbind fc (fun z => mlift (lebD (.int j) z)) _ = _
    rw [mbind_of h3, ← h]
    simp [lebD, ii, mlift, c1]
  · have e : lebD (.int i) (.int j) = some (.bl false) := by simp [lebD, ii, c1]
    rw [e, ← h]
    simp [mbind, mlift, isB, mret, c1]
theorem forGo_inv {k : D → DL.Env → Option DL.Env} {b : SF} (I : DL.Env → Prop) : ∀ (ds : List D) (ρ : DL.Env), (∀ d ∈ ds, ∀ ρ, I ρ → ∃ ρ1 ρ2, k d ρ = some ρ1 ∧ b ρ1 = .nx ρ2 ∧ I ρ2) → I ρ → ∃ ρ', forGo k b ds ρ = .nx ρ' ∧ I ρ'
  | [], ρ, _, hI => ⟨ρ, rfl, hI⟩
  | d :: ds, ρ, h, hI => by
    obtain ⟨ρ1, ρ2, e1, e2, hI2⟩ := h d List.mem_cons_self ρ hI
    obtain ⟨ρ', e3, hI3⟩ := forGo_inv I ds ρ2 (fun d hd => h d (List.mem_cons_of_mem _ hd)) hI2
    refine ⟨ρ', ?_, hI3⟩
    unfold forGo
    simp only [e1, e2, e3]
theorem sFor_inv {fi : M (List D)} {k : D → DL.Env → Option DL.Env} {b : SF} {ds : List D} (I : DL.Env → Prop) (h1 : fi ρ = .ok ds ρ1) (h0 : I ρ1) (h : ∀ d ∈ ds, ∀ ρ, I ρ → ∃ ρ1 ρ2, k d ρ = some ρ1 ∧ b ρ1 = .nx ρ2 ∧ I ρ2) : ∃ ρ', sFor fi k b ρ = .nx ρ' ∧ I ρ' := by
  unfold sFor
  rw [sE_of h1]
  exact forGo_inv I ds ρ1 h h0
theorem for_then {fi : M (List D)} {k : D → DL.Env → Option DL.Env} {b : SF} {ds : List D} (I : DL.Env → Prop) (h1 : fi ρ = .ok ds ρ1) (h0 : I ρ1) (h : ∀ d ∈ ds, ∀ ρ, I ρ → ∃ ρ1 ρ2, k d ρ = some ρ1 ∧ b ρ1 = .nx ρ2 ∧ I ρ2) (h2 : ∀ ρ', I ρ' → ∃ ρ2, G ρ' = .ret d ρ2 ∧ I ρ2) : ∃ ρ2, sSeq (sFor fi k b) G ρ = .ret d ρ2 ∧ I ρ2 := by
  obtain ⟨ρ', e, hI⟩ := sFor_inv I h1 h0 h
  obtain ⟨ρ2, e2, hI2⟩ := h2 ρ' hI
  exact ⟨ρ2, (seq_nx e).trans e2, hI2⟩
theorem rgD_mem {a b : Int} {d : D} (h : d ∈ rgD a b) : ∃ i : Int, d = .int i ∧ a ≤ i ∧ i < b := by
  unfold rgD at h
  obtain ⟨n, hn, rfl⟩ := List.mem_map.mp h
  have := List.mem_range.mp hn
  exact ⟨_, rfl, by omega, by omega⟩
end
end DL

set_option Elab.async false
set_option linter.all false
set_option maxRecDepth 100000
set_option maxHeartbeats 4000000
namespace DL
open PySem PySem.Spec L2
section
variable {K : RC} {fr : Fr} {ρ : DL.Env} {σ : L2.St} {H : Hp}
theorem Sim.frzN : ∀ {ds : List D} {vs : List V} {ρ : DL.Env} {fr : Fr}, vs.length = ds.length → Sim K fr (ds.map some ++ ρ) (vs.map some ++ σ) H → Sim K fr ((frzL ds).map some ++ ρ) (vs.map some ++ σ) H
  | [], [], ρ, fr, _, S => S
  | d :: ds, v :: vs, ρ, fr, hl, S => by
    have S1 : Sim K fr (some d :: (ds.map some ++ ρ)) (some v :: (vs.map some ++ σ)) H := S
    obtain ⟨fr', S2, back⟩ := S1.frz.hold
    exact back _ _ _ (Sim.frzN (by simpa using hl) S2)
theorem repL_frz {F H : Hp} : ∀ {ds : List D} {vs : List V} {A : List Addr}, RepL K F H (frzL ds) vs A → A = []
  | [], vs, A, r => r.2
  | d :: ds, vs, A, r => by
    obtain ⟨v, ws, B, C, rfl, rfl, r1, r2⟩ := r
    rw [fro_rep (fro_frz d) r1, repL_frz r2]
    rfl
theorem Sim.holdFL {ds : List D} {vs : List V} (hl : vs.length = ds.length) (S0 : Sim K fr (ds.map some ++ ρ) (vs.map some ++ σ) H) : ∃ fr', Sim K fr' ρ σ H ∧ RepL K (VF fr') H (frzL ds) vs [] ∧ ∀ ρ' σ' H', Sim K fr' ρ' σ' H' → Sim K fr ρ' σ' H' := by
  obtain ⟨A, S⟩ := S0.frzN hl
  obtain ⟨A1, C, rfl, q1, r2⟩ := Sl.cut (by simp [hl, frzL_len]) S.sl
  have r1 := q1.repL
  have := repL_frz r1
  subst this
  refine ⟨⟨hid C H, fr.N⟩, ⟨C, r2, S.nd, fun a z => ⟨(S.off a z).1, by show hid C H a = none; unfold hid; rw [if_pos z]⟩, fun a o e => (hid_some.mp e).2, fun a z => ?_⟩, ?_, ?_⟩
  · obtain ⟨o, e⟩ := S.tr a z
    exact ⟨o, hid_some.mpr ⟨fun w => (S.off a w).1 z, S.keep a o e⟩⟩
  · refine RepL.mono (fun a o e => ?_) _ _ [] (fun _ z => nomatch z) r1
    obtain ⟨n, e⟩ := hid_some.mp e
    exact hid_some.mpr ⟨fun z => n (List.mem_append_right _ z), hid_some.mpr ⟨fun z => n (List.mem_append_left _ z), e⟩⟩
  · rintro ρ' σ' H' ⟨A', U⟩
    refine ⟨A', U.sl, U.nd, fun a z => ⟨(U.off a z).1, ?_⟩, fun a o e => ?_, S.tr⟩
    · cases g : fr.G a with
      | none => rfl
      | some o =>
        have q : hid C H a = none := (U.off a z).2
        have nC : a ∉ C := fun w => by rw [(S.off a w).2] at g; cases g
        rw [show hid C H a = some o from hid_some.mpr ⟨nC, S.keep a o g⟩] at q
        cases q
    · have nC : a ∉ C := fun w => by rw [(S.off a w).2] at e; cases e
      exact U.keep a o (hid_some.mpr ⟨nC, S.keep a o e⟩)
/-! ### reversed -/
theorem yields_revL {ds : List D} {xs : List V} {H0 : Hp} {a : Addr} (hs : SqL K.K (VF fr) a xs) (r : RepL K (VF fr) H0 ds xs []) : Yields K (Itv K.K a xs.length) fr ds.reverse where
  go := fun i H ρ σ S hi => by
    have hl := r.len
    rw [List.length_reverse] at hi
    refine ⟨by omega, xs, xs[xs.length - 1 - i]'(by omega), SqL.mono S.vfH hs, List.getElem?_eq_getElem _⟩
  stop := fun i H ρ σ S hi => by
    have hl := r.len
    rw [List.length_reverse] at hi
    show xs.length ≤ i
    omega
  yld := fun i H x H' ρ σ d S e hy => by
    obtain ⟨rfl, h⟩ := hy
    have hl := r.len
    have hi : i < ds.reverse.length := (List.getElem?_eq_some_iff.mp e).1
    rw [List.length_reverse] at hi
    rw [List.getElem?_reverse hi, ← hl] at e
    obtain ⟨x', hx, q⟩ := r.get e
    have := h xs (SqL.mono S.vfH hs)
    rw [hx] at this
    cases this
    exact S.pushG q
theorem yields_revT {ds : List D} {xs : List V} {H0 : Hp} {a : Addr} (hs : SqT K.K (VF fr) a xs) (r : RepL K (VF fr) H0 ds xs []) : Yields K (RT.ItvT K.K a xs.length) fr ds.reverse where
  go := fun i H ρ σ S hi => by
    have hl := r.len
    rw [List.length_reverse] at hi
    refine ⟨by omega, xs, xs[xs.length - 1 - i]'(by omega), SqT.mono S.vfH hs, List.getElem?_eq_getElem _⟩
  stop := fun i H ρ σ S hi => by
    have hl := r.len
    rw [List.length_reverse] at hi
    show xs.length ≤ i
    omega
  yld := fun i H x H' ρ σ d S e hy => by
    obtain ⟨rfl, h⟩ := hy
    have hl := r.len
    have hi : i < ds.reverse.length := (List.getElem?_eq_some_iff.mp e).1
    rw [List.length_reverse] at hi
    rw [List.getElem?_reverse hi, ← hl] at e
    obtain ⟨x', hx, q⟩ := r.get e
    have := h xs (SqT.mono S.vfH hs)
    rw [hx] at this
    cases this
    exact S.pushG q
/-! ### zip of two lists, of two tuples -/
def zipD : List D → List D → List D
  | x :: xs, y :: ys => .tup [x, y] :: zipD xs ys
  | _, _ => []
theorem zipD_get : ∀ {xs ys : List D} {i : Nat} {d : D}, (zipD xs ys)[i]? = some d → ∃ x y, xs[i]? = some x ∧ ys[i]? = some y ∧ d = .tup [x, y]
  | [], ys, i, d, h => by simp [zipD] at h
  | x :: xs, [], i, d, h => by simp [zipD] at h
  | x :: xs, y :: ys, 0, d, h => by
    have : D.tup [x, y] = d := by simpa [zipD] using h
    exact ⟨x, y, rfl, rfl, this.symm⟩
  | x :: xs, y :: ys, i + 1, d, h => by
    obtain ⟨a, b, h1, h2, h3⟩ := zipD_get (xs := xs) (ys := ys) (i := i) (d := d) (by simpa [zipD] using h)
    exact ⟨a, b, by simpa using h1, by simpa using h2, h3⟩
theorem zipD_len : ∀ xs ys : List D, (zipD xs ys).length = min xs.length ys.length
  | [], ys => by simp [zipD]
  | x :: xs, [] => by simp [zipD]
  | x :: xs, y :: ys => by simp [zipD, zipD_len xs ys]
theorem zip_yld {d1 d2 : D} {x y : V} {T : Addr} {ρ : DL.Env} {σ : L2.St} {H H0 : Hp} (S : Sim K fr ρ σ H) (r1 : Rep K (VF fr) H0 d1 x []) (r2 : Rep K (VF fr) H0 d2 y []) (hT : H T = none) : Sim K fr (some (.tup [d1, d2]) :: ρ) (some (.ref T) :: σ) (upd H T (.tup [x, y])) := by
  have S1 : Sim K fr ([d1, d2].map some ++ ρ) ([x, y].map some ++ σ) H := (S.pushG r2).pushG r1
  have z := S1.newT rfl hT
  have e1 := Rep.frz_id d1 x r1
  have e2 := Rep.frz_id d2 y r2
  rw [show frzL [d1, d2] = [frz d1, frz d2] from rfl, e1, e2] at z
  exact z
theorem yields_zipL {ds es : List D} {xs ys : List V} {H0 : Hp} {a b : Addr} (hs : SqL K.K (VF fr) a xs) (r : RepL K (VF fr) H0 ds xs []) (hs2 : SqL K.K (VF fr) b ys) (r2 : RepL K (VF fr) H0 es ys []) : Yields K (Itz K.K a b) fr (zipD ds es) where
  go := fun i H ρ σ S hi => by
    obtain ⟨x, y, h1, h2, _⟩ := zipD_get (List.getElem?_eq_getElem hi)
    obtain ⟨u, hu, _⟩ := r.get h1
    obtain ⟨v, hv, _⟩ := r2.get h2
    exact ⟨xs, ys, u, v, SqL.mono S.vfH hs, SqL.mono S.vfH hs2, hu, hv⟩
  stop := fun i H ρ σ S hi => by
    rw [zipD_len, ← r.len, ← r2.len] at hi
    exact ⟨xs, ys, SqL.mono S.vfH hs, SqL.mono S.vfH hs2, by omega⟩
  yld := fun i H x H' ρ σ d S e hy => by
    obtain ⟨T, u, v, rfl, hT, rfl, h1, h2⟩ := hy
    obtain ⟨p, q, hp, hq, rfl⟩ := zipD_get e
    obtain ⟨u', hu, ru⟩ := r.get hp
    obtain ⟨v', hv, rv⟩ := r2.get hq
    have e1 := h1 xs (SqL.mono S.vfH hs)
    have e2 := h2 ys (SqL.mono S.vfH hs2)
    rw [hu] at e1
    rw [hv] at e2
    cases e1
    cases e2
    exact zip_yld S ru rv hT
theorem yields_zipT {ds es : List D} {xs ys : List V} {H0 : Hp} {a b : Addr} (hs : SqT K.K (VF fr) a xs) (r : RepL K (VF fr) H0 ds xs []) (hs2 : SqT K.K (VF fr) b ys) (r2 : RepL K (VF fr) H0 es ys []) : Yields K (RZ.ItzT K.K a b) fr (zipD ds es) where
  go := fun i H ρ σ S hi => by
    obtain ⟨x, y, h1, h2, _⟩ := zipD_get (List.getElem?_eq_getElem hi)
    obtain ⟨u, hu, _⟩ := r.get h1
    obtain ⟨v, hv, _⟩ := r2.get h2
    exact ⟨xs, ys, u, v, SqT.mono S.vfH hs, SqT.mono S.vfH hs2, hu, hv⟩
  stop := fun i H ρ σ S hi => by
    rw [zipD_len, ← r.len, ← r2.len] at hi
    exact ⟨xs, ys, SqT.mono S.vfH hs, SqT.mono S.vfH hs2, by omega⟩
  yld := fun i H x H' ρ σ d S e hy => by
    obtain ⟨T, u, v, rfl, hT, rfl, h1, h2⟩ := hy
    obtain ⟨p, q, hp, hq, rfl⟩ := zipD_get e
    obtain ⟨u', hu, ru⟩ := r.get hp
    obtain ⟨v', hv, rv⟩ := r2.get hq
    have e1 := h1 xs (SqT.mono S.vfH hs)
    have e2 := h2 ys (SqT.mono S.vfH hs2)
    rw [hu] at e1
    rw [hv] at e2
    cases e1
    cases e2
    exact zip_yld S ru rv hT
/-! ### enumerate of a list -/
def enumD : Nat → List D → List D
  | _, [] => []
  | n, x :: xs => .tup [.int (n : Nat), x] :: enumD (n + 1) xs
theorem enumD_get : ∀ {xs : List D} {n i : Nat} {d : D}, (enumD n xs)[i]? = some d → ∃ x, xs[i]? = some x ∧ d = .tup [.int ((n + i : Nat) : Int), x]
  | [], n, i, d, h => by simp [enumD] at h
  | x :: xs, n, 0, d, h => by
    have : D.tup [.int (n : Nat), x] = d := by simpa [enumD] using h
    exact ⟨x, rfl, this.symm⟩
  | x :: xs, n, i + 1, d, h => by
    obtain ⟨a, h1, h2⟩ := enumD_get (xs := xs) (n := n + 1) (i := i) (d := d) (by simpa [enumD] using h)
    refine ⟨a, by simpa using h1, ?_⟩
    rw [h2, show n + 1 + i = n + (i + 1) by omega]
theorem enumD_len : ∀ (n : Nat) (xs : List D), (enumD n xs).length = xs.length
  | _, [] => rfl
  | n, x :: xs => by simp [enumD, enumD_len (n + 1) xs]
theorem yields_enum {ds : List D} {xs : List V} {H0 : Hp} {a : Addr} (hs : SqL K.K (VF fr) a xs) (r : RepL K (VF fr) H0 ds xs []) : Yields K (Ite K.K a) fr (enumD 0 ds) where
  go := fun i H ρ σ S hi => by
    obtain ⟨x, h1, _⟩ := enumD_get (List.getElem?_eq_getElem hi)
    obtain ⟨u, hu, _⟩ := r.get h1
    exact ⟨xs, u, SqL.mono S.vfH hs, hu⟩
  stop := fun i H ρ σ S hi => by
    rw [enumD_len, ← r.len] at hi
    exact ⟨xs, SqL.mono S.vfH hs, hi⟩
  yld := fun i H x H' ρ σ d S e hy => by
    obtain ⟨T, u, rfl, hT, rfl, h1⟩ := hy
    obtain ⟨p, hp, rfl⟩ := enumD_get e
    obtain ⟨u', hu, ru⟩ := r.get hp
    have e1 := h1 xs (SqL.mono S.vfH hs)
    rw [hu] at e1
    cases e1
    rw [Nat.zero_add]
    exact zip_yld S (show Rep K (VF fr) H0 (.int ((i : Nat) : Int)) (.int ((i : Nat) : Int)) [] from ⟨rfl, rfl⟩) ru hT
end
/-! ### the walks -/
def iRevD (f : M D) : M (List D) := mbind f fun d => mlift ((seqOf d).map List.reverse)
def zipOf : D → D → Option (List D)
  | .tup xs, .tup ys => some (zipD xs ys)
  | .lst _ xs, .lst _ ys => some (zipD xs ys)
  | _, _ => none
def enumOf : D → Option (List D)
  | .lst _ xs => some (enumD 0 xs)
  | .scr ns => some (enumD 0 (ns.map D.int))
  | _ => none
def zip2 : List D → Option (List D)
  | [x, y] => zipOf (frz x) (frz y)
  | _ => none
def enum1 : List D → Option (List D)
  | [x] => enumOf (frz x)
  | _ => none
theorem zip2_two {ds l : List D} (h : zip2 ds = some l) : ∃ x y, ds = [x, y] ∧ zipOf (frz x) (frz y) = some l := by
  unfold zip2 at h
  split at h
  · exact ⟨_, _, rfl, h⟩
  · cases h
theorem enum1_one {ds l : List D} (h : enum1 ds = some l) : ∃ x, ds = [x] ∧ enumOf (frz x) = some l := by
  unfold enum1 at h
  split at h
  · exact ⟨_, rfl, h⟩
  · cases h
theorem zipOf_cases {x y : D} {l : List D} (h : zipOf x y = some l) : (∃ xs ys, x = .tup xs ∧ y = .tup ys ∧ l = zipD xs ys) ∨ (∃ o xs o2 ys, x = .lst o xs ∧ y = .lst o2 ys ∧ l = zipD xs ys) := by
  unfold zipOf at h
  split at h
  · cases h; exact .inl ⟨_, _, rfl, rfl, rfl⟩
  · cases h; exact .inr ⟨_, _, _, _, rfl, rfl, rfl⟩
  · cases h
theorem enumOf_cases {x : D} {l : List D} (h : enumOf x = some l) : (∃ o xs, x = .lst o xs ∧ l = enumD 0 xs) ∨ (∃ ns, x = .scr ns ∧ l = enumD 0 (ns.map D.int)) := by
  unfold enumOf at h
  split at h
  · cases h; exact .inl ⟨_, _, rfl, rfl⟩
  · cases h; exact .inr ⟨_, rfl, rfl⟩
  · cases h
def iZipD (g : M (List D)) : M (List D) := mbind g fun ds => mlift (zip2 ds)
def iEnumD (g : M (List D)) : M (List D) := mbind g fun ds => mlift (enum1 ds)
section
variable {ι : Type} {X : ι → Cx} {K : RC} {W : WX} {k : Nat} {e a b tg : Expr} {es : List Expr} {f fa fb : M D} {g : M (List D)} {pos : Pos} {pr : List Nat}
theorem id_rev {p : Pos} (c : CF X K W k) (hg : ∀ i, Gl (X i) "reversed") (hm : K.mg "reversed" = none) (h : ED X K W e f) (hs : ∀ i, starEach [e] (X i).env = (false, eval e (X i).env) :: starEach [] (X i).env := by intro _; rfl) : ID X K W tg (.Call (.Name "reversed" p) [e] [] pos) (iRevD f) := by
  obtain ⟨t, pp, s⟩ := h.ex
  refine ⟨RT.iRevA K.K t, (fun i => by rw [← c.kk i]; exact RT.pi_revA (hg i) (by rw [c.mg i]; exact hm) (pp i) (hs i)), fun fr ρ σ H R S q => s fr ρ σ H _ S ((QR.bind q).mono fun d ρ1 q1 v H1 S1 => ?_)⟩
  obtain ⟨ds, e1, q2⟩ := QR.lift q1
  obtain ⟨fr', S2, r, back⟩ := S1.frz.holdF (fro_frz d)
  unfold seqOf at e1
  cases ed : frz d with
  | tup es =>
    rw [ed] at e1 r
    cases e1
    obtain ⟨_, a, xs, rfl, hs, r⟩ := r
    exact ⟨a, xs, rfl, .inr ⟨SqT.mono S2.vfH hs, q2 _ H1 fr' S2 back (yields_revT hs r)⟩⟩
  | lst o es =>
    rw [ed] at e1 r
    cases e1
    cases o with
    | true =>
      have := fro_frz d
      rw [ed] at this
      cases this
    | false =>
      obtain ⟨_, a, xs, rfl, hs, r⟩ := r
      exact ⟨a, xs, rfl, .inl ⟨SqL.mono S2.vfH (SqL.of hs), q2 _ H1 fr' S2 back (yields_revL (SqL.of hs) r)⟩⟩
  | scr ns =>
    rw [ed] at e1 r
    cases e1
    obtain ⟨_, a, rfl, hs⟩ := r
    exact ⟨a, _, rfl, .inl ⟨SqL.mono S2.vfH hs, q2 _ H1 fr' S2 back (yields_revL (H0 := H1) hs (rep_ints ns))⟩⟩
  | _ => rw [ed] at e1; cases e1
theorem id_zip {p tpos : Pos} {elts : List Expr} {kk : Nat} (c : CF X K W k) (hg : ∀ i, Gl (X i) "zip") (hm : K.mg "zip" = none) (ha : AM X K W [a, b] g []) (hs : ∀ i, starEach [a, b] (X i).env = (false, eval a (X i).env) :: starEach [b] (X i).env := by intro _; rfl) (hpl : ∀ i, (backTo pos (starEach [b] (X i).env)).any (·.1) = false := by intro _; rfl) :
    ID X K W (.Tuple elts kk tpos) (.Call (.Name "zip" p) [a, b] [] pos) (iZipD g) := by
  obtain ⟨t, pa, s⟩ := ha.ex
  refine ⟨RZ.iZipA K.K t, (fun i => by rw [← c.kk i]; exact RZ.pi_zipA (hg i) (by rw [c.mg i]; exact hm) (pa i) (hs i) (hpl i)), fun fr ρ σ H R S q => s fr ρ σ H _ S ((QR.bind q).mono fun ds ρ1 q1 vs H1 hl _ S1 => ?_)⟩
  obtain ⟨l, el, q1⟩ := QR.lift q1
  obtain ⟨x, y, rfl, el⟩ := zip2_two el
  match vs, hl with
  | [vx, vy], _ =>
    obtain ⟨fr', S2, r, back⟩ := Sim.holdFL (ds := [x, y]) (vs := [vx, vy]) rfl S1
    obtain ⟨v1, w1, B, C, e1, e2, r1, v2, w2, B2, C2, e3, e4, r2, e5, e6⟩ := r
    cases e1
    cases e3
    have eB := (List.append_eq_nil_iff.mp e2.symm).1
    subst eB
    have eC := (List.append_eq_nil_iff.mp e2.symm).2
    subst eC
    have eB2 := (List.append_eq_nil_iff.mp e4.symm).1
    subst eB2
    rcases zipOf_cases el with ⟨xs, ys, h1, h2, rfl⟩ | ⟨o, xs, o2, ys, h1, h2, rfl⟩
    · rw [h1] at r1
      rw [h2] at r2
      obtain ⟨_, p, us, rfl, hs, rr⟩ := r1
      obtain ⟨_, p2, us2, rfl, hs2, rr2⟩ := r2
      exact ⟨p, p2, us, us2, rfl, .inr ⟨SqT.mono S2.vfH hs, SqT.mono S2.vfH hs2, q1 _ H1 fr' S2 back (yields_zipT hs rr hs2 rr2)⟩⟩
    · rw [h1] at r1
      rw [h2] at r2
      have f1 := fro_frz x
      have f2 := fro_frz y
      rw [h1] at f1
      rw [h2] at f2
      cases o with
      | true => cases f1
      | false =>
        cases o2 with
        | true => cases f2
        | false =>
          obtain ⟨_, p, us, rfl, hs, rr⟩ := r1
          obtain ⟨_, p2, us2, rfl, hs2, rr2⟩ := r2
          exact ⟨p, p2, us, us2, rfl, .inl ⟨SqL.mono S2.vfH (SqL.of hs), SqL.mono S2.vfH (SqL.of hs2), q1 _ H1 fr' S2 back (yields_zipL (SqL.of hs) rr (SqL.of hs2) rr2)⟩⟩
theorem id_enum {p tpos : Pos} {elts : List Expr} {kk : Nat} (c : CF X K W k) (hg : ∀ i, Gl (X i) "enumerate") (hm : K.mg "enumerate" = none) (ha : AM X K W [a] g []) (hs : ∀ i, starEach [a] (X i).env = [(false, eval a (X i).env)] := by intro _; rfl) :
    ID X K W (.Tuple elts kk tpos) (.Call (.Name "enumerate" p) [a] [] pos) (iEnumD g) := by
  obtain ⟨t, pa, s⟩ := ha.ex
  refine ⟨iEnum K.K t, (fun i => by rw [← c.kk i]; exact pi_enum (hg i) (by rw [c.mg i]; exact hm) (pa i) (hs i)), fun fr ρ σ H R S q => s fr ρ σ H _ S ((QR.bind q).mono fun ds ρ1 q1 vs H1 hl _ S1 => ?_)⟩
  obtain ⟨l, el, q1⟩ := QR.lift q1
  obtain ⟨x, rfl, el⟩ := enum1_one el
  obtain ⟨v, rfl⟩ := one_of hl rfl
  have S1 : Sim K fr (some x :: ρ1) (some v :: σ) H1 := S1
  obtain ⟨fr', S2, r, back⟩ := S1.frz.holdF (fro_frz x)
  rcases enumOf_cases el with ⟨o, xs, h1, rfl⟩ | ⟨ns, h1, rfl⟩
  · rw [h1] at r
    have f1 := fro_frz x
    rw [h1] at f1
    cases o with
    | true => cases f1
    | false =>
      obtain ⟨_, p, us, rfl, hs, rr⟩ := r
      exact ⟨p, us, rfl, SqL.mono S2.vfH (SqL.of hs), q1 _ H1 fr' S2 back (yields_enum (SqL.of hs) rr)⟩
  · rw [h1] at r
    obtain ⟨_, p, rfl, hs⟩ := r
    exact ⟨p, _, rfl, SqL.mono S2.vfH hs, q1 _ H1 fr' S2 back (yields_enum (H0 := H1) hs (rep_ints ns))⟩
/-! ### tuple(reversed(x)), x a list -/
def eTupRev (f : M D) : M D := mbind f fun d => match d with
  | .lst _ ds => mret (.tup (frzL ds).reverse)
  | _ => mlift none
theorem frzL_rev (ds : List D) : frzL ds.reverse = (frzL ds).reverse := by
  induction ds with
  | nil => rfl
  | cons d ds ih => rw [List.reverse_cons, frzL_app, ih]; show _ = (frz d :: frzL ds).reverse; rw [List.reverse_cons]; rfl
/-! ### x op= e of ints -/
theorem ip_mulX {X : Cx} : PIp X .Mult (fun x y H Q => ∃ i j, x = .int i ∧ y = .int j ∧ CMulX i j ∧ Q (.int (i * j)) H) := by
  intro pins s σ H x y v u Q I r1 r2 h
  obtain ⟨i, j, e1, e2, hc, q⟩ := h
  subst e1; subst e2
  obtain ⟨t, rfl⟩ := r1
  obtain ⟨t', rfl⟩ := r2
  exact PyProof.Rows.imul_int ⟨.int _, H, I.tok _, ⟨_, rfl⟩, q⟩ hc.ok
def sAug (i : Nat) (F : D → D → Option D) (f : M D) : SF := fun ρ => match ρ[i]? with
  | some (some (.int n)) => sE f (fun y ρ1 => match F (.int n) y with
    | some d => if i < ρ1.length then .nx (ρ1.set i (some d)) else .stuck
    | none => .stuck) ρ
  | _ => .stuck
theorem sd_aug {op : Operator} {ti : TIp} {F : D → D → Option D} {i : Nat} {x : Str} {pos' : Pos} (hN : ∀ j, (X j).N.Nodup) (hi : ∀ j, (X j).N[i]? = some x) (hx : ∀ j, Loc (X j).env.scope x) (hf : ∀ j, (X j).fn x = true ∨ (X j).env.scope.names.lookup x = some .local) (ho : ∀ j, PIp (X j) op ti) (hp : i ∉ pr)
    (hs : ∀ n m d Q H, F (.int n) (.int m) = some d → (∃ w, flat d = some w ∧ Q w H) → ti (.int n) (.int m) H Q) (hI : ∀ n y d, F (.int n) y = some d → ∃ m, y = .int m) (hF : ∀ n m d, F (.int n) (.int m) = some d → (flat d).isSome = true) (h : ED X K W e f) : SD X K W pr (.AugAssign (.Name x pos') op e pos) (sAug i F f) := by
  obtain ⟨t, p, s⟩ := h.ex
  refine ⟨tAug i t ti, (fun j => ps_aug (hN j) (hi j) (hx j) (p j) (ho j) (hf j)), fun fr ρ σ H Dn S q => ?_⟩
  unfold sAug at q
  split at q
  rotate_left
  · exact q.elim
  rename_i n e0
  obtain ⟨v, hv, S0⟩ := S.dup e0 rfl
  have := S0.topF rfl
  subst this
  refine ⟨_, hv, s fr ρ σ H _ S (q.ofE.mono fun y ρ1 q1 vy H1 S1 => ?_)⟩
  cases ey : F (.int n) y with
  | none => rw [ey] at q1; exact q1.elim
  | some d =>
    rw [ey] at q1
    obtain ⟨m, rfl⟩ := hI n y d ey
    have := S1.topF rfl
    subst this
    obtain ⟨w, hw⟩ := Option.isSome_iff_exists.mp (hF n m d ey)
    refine hs n m d _ H1 ey ⟨w, hw, ?_⟩
    by_cases hil : i < ρ1.length
    · simp only [hil, if_true] at q1
      exact q1 _ H1 (KeepS.set hp) ((S1.drop.pushF hw).store hil)
    · simp only [hil, if_false] at q1
      exact q1.elim
end
end DL

set_option Elab.async false
set_option linter.all false
set_option maxRecDepth 100000
set_option maxHeartbeats 4000000
namespace DL
open PySem PySem.Spec L2
theorem RepL.rev {K : RC} {F H : Hp} : ∀ {ds : List D} {vs : List V}, RepL K F H ds vs [] → RepL K F H ds.reverse vs.reverse []
  | [], vs, r => by
    obtain ⟨rfl, _⟩ := r
    exact ⟨rfl, rfl⟩
  | d :: ds, vs, r => by
    obtain ⟨v, ws, B, C, rfl, e, r1, r2⟩ := r
    have e1 := (List.append_eq_nil_iff.mp e.symm).1
    have e2 := (List.append_eq_nil_iff.mp e.symm).2
    subst e1 e2
    rw [List.reverse_cons, List.reverse_cons]
    exact RepL.app (A := []) (B := []) (RepL.rev r2) ⟨v, [], [], [], rfl, rfl, r1, rfl, rfl⟩
section
variable {ι : Type} {X : ι → Cx} {K : RC} {W : WX} {k : Nat} {e : Expr} {f : M D} {pos : Pos} {pr : List Nat}
theorem ed_tupRev {p p2 pos2 : Pos} (c : CF X K W k) (hg : ∀ i, Gl (X i) "tuple") (hm : K.mg "tuple" = none) (hg2 : ∀ i, Gl (X i) "reversed") (hm2 : K.mg "reversed" = none) (h : ED X K W e f) (hs : ∀ i, starEach [e] (X i).env = (false, eval e (X i).env) :: starEach [] (X i).env := by intro _; rfl)
    (hs2 : ∀ i, starEach [.Call (.Name "reversed" p2) [e] [] pos2] (X i).env = (false, eval (.Call (.Name "reversed" p2) [e] [] pos2) (X i).env) :: starEach [] (X i).env := by intro _; rfl) :
    ED X K W (.Call (.Name "tuple" p) [.Call (.Name "reversed" p2) [e] [] pos2] [] pos) (eTupRev f) := by
  obtain ⟨t, pp, s⟩ := h.ex
  refine ⟨RT.tTupRev K.K t, (fun i => by rw [← c.kk i]; exact RT.pe_tupRev (c.calm i) (hg i) (by rw [c.mg i]; exact hm) (hg2 i) (by rw [c.mg i]; exact hm2) (pp i) (hs i) (hs2 i)), fun fr ρ σ H Q S q => s fr ρ σ H _ S ((QR.bind q).mono fun d ρ1 q1 v H1 S1 => ?_)⟩
  cases d with
  | lst o ds =>
    have S2 := S1.frz
    obtain ⟨A, T⟩ := S2
    obtain ⟨s', τ, B, C, e0, rfl, ⟨v', e1, r1⟩, r2⟩ := T.sl
    injection e0 with e2 e3
    subst e2 e3
    cases e1
    obtain ⟨hB, a, xs, rfl, hx, r⟩ := r1
    subst hB
    have hH : H1 a = some (.lst xs) := (hid_some.mp hx).2
    refine ⟨a, xs, rfl, SqL.of hH, fun l hl => q1 _ _ ?_⟩
    have S3 : Sim K fr ((frzL ds).reverse.map some ++ ρ1) (xs.reverse.map some ++ σ) H1 := ⟨C, Sl.app (A1 := []) (r.rev).sl r2, T.nd, T.off, T.keep, T.tr⟩
    have z := S3.newT (by simp [r.len]) hl
    have ef : frzL (frzL ds).reverse = (frzL ds).reverse := by rw [frzL_rev, RepL.frz_id _ _ r]
    rw [ef] at z
    exact z
  | _ => exact q1.elim
theorem sd_augA {i : Nat} {x : Str} {pos' : Pos} (hN : ∀ j, (X j).N.Nodup) (hi : ∀ j, (X j).N[i]? = some x) (hx : ∀ j, Loc (X j).env.scope x) (hf : ∀ j, (X j).fn x = true ∨ (X j).env.scope.names.lookup x = some .local) (hp : i ∉ pr) (h : ED X K W e f) : SD X K W pr (.AugAssign (.Name x pos') .Add e pos) (sAug i (ii (fun _ _ => true) fun i j => .int (i + j)) f) :=
  sd_aug hN hi hx hf (fun _ => ip_add) hp (fun n m d Q H e ⟨w, hw, q⟩ => by cases e; cases hw; exact ⟨n, m, rfl, rfl, q⟩) (fun n y d e => by
    cases y with
    | int m => exact ⟨m, rfl⟩
    | _ => cases e) (fun n m d e => by cases e; rfl) h
theorem sd_augS {i : Nat} {x : Str} {pos' : Pos} (hN : ∀ j, (X j).N.Nodup) (hi : ∀ j, (X j).N[i]? = some x) (hx : ∀ j, Loc (X j).env.scope x) (hf : ∀ j, (X j).fn x = true ∨ (X j).env.scope.names.lookup x = some .local) (hp : i ∉ pr) (h : ED X K W e f) : SD X K W pr (.AugAssign (.Name x pos') .Sub e pos) (sAug i subD f) :=
  sd_aug hN hi hx hf (fun _ => ip_sub) hp (fun n m d Q H e ⟨w, hw, q⟩ => by cases e; cases hw; exact ⟨n, m, rfl, rfl, q⟩) (fun n y d e => by
    cases y with
    | int m => exact ⟨m, rfl⟩
    | _ => cases e) (fun n m d e => by cases e; rfl) h
def mulI : D → D → Option D := ii (fun i j => decide (CMulX i j)) fun i j => .int (i * j)
theorem sd_augM {i : Nat} {x : Str} {pos' : Pos} (hN : ∀ j, (X j).N.Nodup) (hi : ∀ j, (X j).N[i]? = some x) (hx : ∀ j, Loc (X j).env.scope x) (hf : ∀ j, (X j).fn x = true ∨ (X j).env.scope.names.lookup x = some .local) (hp : i ∉ pr) (h : ED X K W e f) : SD X K W pr (.AugAssign (.Name x pos') .Mult e pos) (sAug i mulI f) :=
  sd_aug hN hi hx hf (fun _ => ip_mulX) hp (fun n m d Q H e ⟨w, hw, q⟩ => by
    have e : (if decide (CMulX n m) = true then some (D.int (n * m)) else none) = some d := e
    by_cases hc : CMulX n m
    · rw [if_pos (decide_eq_true hc)] at e
      cases e
      cases hw
      exact ⟨n, m, rfl, rfl, hc, q⟩
    · rw [if_neg (by simp [hc])] at e
      cases e) (fun n y d e => by
    cases y with
    | int m => exact ⟨m, rfl⟩
    | _ => cases e) (fun n m d e => by
    have e : (if decide (CMulX n m) = true then some (D.int (n * m)) else none) = some d := e
    by_cases hc : CMulX n m
    · rw [if_pos (decide_eq_true hc)] at e
      cases e
      rfl
    · rw [if_neg (by simp [hc])] at e
      cases e) h
end
end DL

set_option Elab.async false
set_option linter.all false
set_option maxRecDepth 100000
set_option maxHeartbeats 4000000
namespace DL
open PySem PySem.Spec L2
/-! ### in, not in: a list or a tuple of data -/
def seqP : PyData → Option (List PyData)
  | .list qs => some qs
  | .tuple qs => some qs
  | _ => none
def rInA (K : PySem.W.Frag) (neg : Bool) : R2 := fun x y H Q => ∃ d e ds, Dp K H x d ∧ Dp K H y e ∧ seqP e = some ds ∧ SeqAt.shaped d = true ∧ SeqAt.shaped e = true ∧ Q (.bl (if neg then !(ds.any fun z => PyData.eqv z d) else ds.any fun z => PyData.eqv z d)) H
theorem room_inS {A : Around} {xs : List PyData} {d : PyData} (hd : SeqAt.shaped d = true) (hu : A.units + 65 < cLine) : A.units + 1 + min (PyData.depthAll xs) d.depth < cLine := by
  have h1 := SeqAt.depth_of_shaped hd
  have h2 : min (PyData.depthAll xs) d.depth ≤ d.depth := Nat.min_le_right _ _
  omega
theorem op_inA {X : Cx} (hu : X.A.units + 65 < cLine) : OpR X (compareOp .In) (rInA X.K false) := by
  intro pins s σ H x y v u Q I rx ry h
  obtain ⟨d, e, ds, hd, he, hs, sd, se, q⟩ := h
  obtain ⟨as, r1⟩ := Dp.reads I d x v hd rx
  obtain ⟨bs, r2⟩ := Dp.reads I e y u he ry
  cases e with
  | list qs => cases hs; exact SeqAt.in_list_reads r2 r1 (SeqAt.canLay_of_shaped se) (SeqAt.canLay_of_shaped sd) (room_inS sd hu) ⟨.bl _, H, I, rfl, q⟩
  | tuple qs => cases hs; exact SeqAt.in_tuple_reads r2 r1 (SeqAt.canLay_of_shaped se) (SeqAt.canLay_of_shaped sd) (room_inS sd hu) ⟨.bl _, H, I, rfl, q⟩
  | _ => cases hs
theorem op_ninA {X : Cx} (hu : X.A.units + 65 < cLine) : OpR X (compareOp .NotIn) (rInA X.K true) := by
  intro pins s σ H x y v u Q I rx ry h
  obtain ⟨d, e, ds, hd, he, hs, sd, se, q⟩ := h
  obtain ⟨as, r1⟩ := Dp.reads I d x v hd rx
  obtain ⟨bs, r2⟩ := Dp.reads I e y u he ry
  cases e with
  | list qs => cases hs; exact SeqAt.notIn_list_reads r2 r1 (SeqAt.canLay_of_shaped se) (SeqAt.canLay_of_shaped sd) (room_inS sd hu) ⟨.bl _, H, I, rfl, q⟩
  | tuple qs => cases hs; exact SeqAt.notIn_tuple_reads r2 r1 (SeqAt.canLay_of_shaped se) (SeqAt.canLay_of_shaped sd) (room_inS sd hu) ⟨.bl _, H, I, rfl, q⟩
  | _ => cases hs
def inB (x y : D) : Option Bool := (toPy x).bind fun p => (toPy y).bind fun q => (seqP q).bind fun qs => if SeqAt.shaped p = true ∧ SeqAt.shaped q = true then some (qs.any fun z => PyData.eqv z p) else none
def inD (x y : D) : Option D := (inB x y).map D.bl
def ninD (x y : D) : Option D := (inB x y).map fun b => D.bl !b
theorem inB_some {x y : D} {b : Bool} (h : inB x y = some b) : ∃ p q qs, toPy x = some p ∧ toPy y = some q ∧ seqP q = some qs ∧ SeqAt.shaped p = true ∧ SeqAt.shaped q = true ∧ (qs.any fun z => PyData.eqv z p) = b := by
  unfold inB at h
  cases e1 : toPy x with
  | none => rw [e1] at h; cases h
  | some p =>
    cases e2 : toPy y with
    | none => rw [e1, e2] at h; cases h
    | some q =>
      cases e3 : seqP q with
      | none => rw [e1, e2] at h; simp [e3] at h
      | some qs =>
        rw [e1, e2] at h
        simp only [Option.bind_some, e3] at h
        by_cases hz : SeqAt.shaped p = true ∧ SeqAt.shaped q = true
        · rw [if_pos hz] at h
          exact ⟨p, q, qs, rfl, rfl, e3, hz.1, hz.2, Option.some.inj h⟩
        · rw [if_neg hz] at h
          cases h
section
variable {ι : Type} {X : ι → Cx} {K : RC} {W : WX} {k : Nat} {a b : Expr} {fa fb : M D} {pos : Pos}
theorem ops_in : OpS K (rInA K.K false) inD := by
  intro fr ρ σ H dx dy vx vy d Q S e q
  unfold inD at e
  cases e1 : inB dx dy with
  | none => rw [e1] at e; cases e
  | some b =>
    rw [e1] at e
    cases e
    obtain ⟨p, r, rs, h1, h2, h6, h3, h4, h5⟩ := inB_some e1
    obtain ⟨F1, B1, r1, k1⟩ := S.drop.top
    obtain ⟨F2, B2, r2, k2⟩ := S.top
    refine ⟨p, r, rs, rep_dp k1 _ _ _ _ r1 h1, rep_dp k2 _ _ _ _ r2 h2, h6, h3, h4, ?_⟩
    rw [h5]
    exact q _ H (S.drop.drop.pushF rfl)
theorem ops_nin : OpS K (rInA K.K true) ninD := by
  intro fr ρ σ H dx dy vx vy d Q S e q
  unfold ninD at e
  cases e1 : inB dx dy with
  | none => rw [e1] at e; cases e
  | some b =>
    rw [e1] at e
    cases e
    obtain ⟨p, r, rs, h1, h2, h6, h3, h4, h5⟩ := inB_some e1
    obtain ⟨F1, B1, r1, k1⟩ := S.drop.top
    obtain ⟨F2, B2, r2, k2⟩ := S.top
    refine ⟨p, r, rs, rep_dp k1 _ _ _ _ r1 h1, rep_dp k2 _ _ _ _ r2 h2, h6, h3, h4, ?_⟩
    rw [h5]
    exact q _ H (S.drop.drop.pushF rfl)
theorem CF.inD (c : CF X K W k) (i : ι) : OpR (X i) (compareOp .In) (rInA K.K false) := by rw [← c.kk i]; exact op_inA (by have := (c.room i).un; omega)
theorem CF.ninD (c : CF X K W k) (i : ι) : OpR (X i) (compareOp .NotIn) (rInA K.K true) := by rw [← c.kk i]; exact op_ninA (by have := (c.room i).un; omega)
theorem ed_in (c : CF X K W k) (ha : ED X K W a fa) (hb : ED X K W b fb) (hm : behindInMarks .In b = false := by rfl) : ED X K W (.Compare a [.In] [b] pos) (e2 inD fa fb) := ed_cmp (fun i => c.inD i) ops_in ha hb hm
theorem ed_nin (c : CF X K W k) (ha : ED X K W a fa) (hb : ED X K W b fb) (hm : behindInMarks .NotIn b = false := by rfl) : ED X K W (.Compare a [.NotIn] [b] pos) (e2 ninD fa fb) := ed_cmp (fun i => c.ninD i) ops_nin ha hb hm
theorem td_in (c : CF X K W k) (ha : ED X K W a fa) (hb : ED X K W b fb) (hm : behindInMarks .In b = false := by rfl) : TD X K W (.Compare a [.In] [b] pos) (eB (e2 inD fa fb)) := td_cmp (fun i => c.inD i) ops_in ha hb hm
theorem td_nin (c : CF X K W k) (ha : ED X K W a fa) (hb : ED X K W b fb) (hm : behindInMarks .NotIn b = false := by rfl) : TD X K W (.Compare a [.NotIn] [b] pos) (eB (e2 ninD fa fb)) := td_cmp (fun i => c.ninD i) ops_nin ha hb hm
end
end DL

set_option Elab.async false
set_option linter.all false
set_option maxRecDepth 100000
set_option maxHeartbeats 4000000
namespace DL
open PySem PySem.Spec L2
/-! ### slices of lists and tuples -/
def cutD (ds : List D) (lo hi : Option Int) : List D := (ds.drop (HT.sIx ds.length 0 lo)).take (HT.sIx ds.length ds.length hi - HT.sIx ds.length 0 lo)
def slD (d : D) (lo hi : Option Int) : Option D := match d with
  | .tup ds => some (.tup (cutD ds lo hi))
  | .lst _ ds => some (.lst true (cutD ds lo hi))
  | .scr ns => some (.lst true (cutD (ns.map D.int) lo hi))
  | _ => none
section
variable {K : RC} {fr : Fr} {ρ : DL.Env} {σ : L2.St} {H : Hp} {ds : List D} {vs : List V}
theorem Sim.cutS (S : Sim K fr (ds.map some ++ ρ) (vs.map some ++ σ) H) (hl : vs.length = ds.length) (a b : Nat) : Sim K fr (((ds.drop a).take b).map some ++ ρ) (((vs.drop a).take b).map some ++ σ) H := by
  have S1 : Sim K fr ((ds.take a).map some ++ ((ds.drop a).map some ++ ρ)) ((vs.take a).map some ++ ((vs.drop a).map some ++ σ)) H := by
    rw [← List.append_assoc, ← List.append_assoc, ← List.map_append, ← List.map_append, List.take_append_drop, List.take_append_drop]
    exact S
  have S2 := S1.dropN (by simp [hl])
  have S3 : Sim K fr (((ds.drop a).take b).map some ++ (((ds.drop a).drop b).map some ++ ρ)) (((vs.drop a).take b).map some ++ (((vs.drop a).drop b).map some ++ σ)) H := by
    rw [← List.append_assoc, ← List.append_assoc, ← List.map_append, ← List.map_append, List.take_append_drop, List.take_append_drop]
    exact S2
  obtain ⟨fr', S4, back⟩ := S3.holdN (by simp [hl])
  exact back _ _ _ (S4.dropN (by simp [hl]))
end
structure POD {ι : Type} (X : ι → Cx) (K : RC) (W : WX) (o : Option Expr) (f : M (Option Int)) : Prop where
  ex : ∃ t, (∀ i, PO (X i) o t) ∧ ∀ fr ρ σ H (Q : Option Int → Hp → Prop), Sim K fr ρ σ H → QR K W fr σ (f ρ) (fun p ρ' => ∀ H', Sim K fr ρ' σ H' → Q p H') → t σ H Q
def pNone : M (Option Int) := mret none
def pSome (f : M D) : M (Option Int) := mbind f fun d => mbind (mlift (isI d)) fun i => mret (some i)
def eSl (fa : M D) (fl fu : M (Option Int)) : M D := mbind fa fun x => mbind fl fun l => mbind fu fun u => mlift (slD x l u)
theorem frzL_take (ds : List D) : ∀ n, frzL (ds.take n) = (frzL ds).take n := by
  induction ds with
  | nil => intro n; simp [frzL]
  | cons d ds ih =>
    intro n
    cases n with
    | zero => simp [frzL]
    | succ n => simp [frzL, ih]
theorem frzL_drop (ds : List D) : ∀ n, frzL (ds.drop n) = (frzL ds).drop n := by
  induction ds with
  | nil => intro n; simp [frzL]
  | cons d ds ih =>
    intro n
    cases n with
    | zero => simp
    | succ n => simp [frzL, ih]
section
variable {ι : Type} {X : ι → Cx} {K : RC} {W : WX} {k : Nat} {a b : Expr} {fa fb : M D} {pos p2 : Pos} {lo hi : Option Expr} {fl fu : M (Option Int)}
theorem pod_none : POD X K W none pNone := ⟨tNoPart, (fun _ => po_none), fun fr ρ σ H Q S q => q H S⟩
theorem pod_some (h : ED X K W a fa) : POD X K W (some a) (pSome fa) := by
  obtain ⟨t, p, s⟩ := h.ex
  refine ⟨tPart t, (fun i => po_some (p i)), fun fr ρ σ H Q S q => s fr ρ σ H _ S ((QR.bind q).mono fun d ρ1 q1 v H1 S1 => ?_)⟩
  obtain ⟨n, e, q2⟩ := QR.lift (QR.bind q1)
  have := isI_eq e
  subst this
  exact ⟨n, S1.topF rfl, q2 H1 S1.drop⟩
def rSlAll (K : PySem.W.Frag) : V → Option Int → Option Int → Hp → VK → Prop := fun x lo hi H Q => rSlA K x lo hi H Q ∨ rSlL K x lo hi H Q
theorem sl_all {X : Cx} : SlR X (rSlAll X.K) := SlR.or sl_tupA sl_list
theorem cut_len {xs : List V} {ds : List D} (h : xs.length = ds.length) (l u : Option Int) : cutV xs l u = (xs.drop (HT.sIx ds.length 0 l)).take (HT.sIx ds.length ds.length u - HT.sIx ds.length 0 l) := by
  unfold cutV; rw [h]
theorem sl_sem {fr : Fr} {ρ : DL.Env} {σ : L2.St} {H : Hp} {Q : VK} {x d : D} {v : V} {l u : Option Int} (S : Sim K fr (some x :: ρ) (some v :: σ) H) (e : slD x l u = some d) (q : ∀ v H', Sim K fr (some d :: ρ) (some v :: σ) H' → Q v H') : rSlAll K.K v l u H Q := by
  cases x with
  | tup ds =>
    cases e
    have hf := S.tup_frz
    obtain ⟨a, xs, rfl, h2, h3, _, S1⟩ := S.explode (ds := ds) rfl
    refine .inl ⟨a, xs, rfl, h3, fun hw => ?_, fun _ p hp => ?_⟩
    · have hc : cutD ds l u = ds := by
        unfold cutD
        rw [← h2, hw.1, hw.2, Nat.sub_zero, List.drop_zero, h2, List.take_length]
      rw [hc] at q
      exact q _ H S
    · rw [cut_len h2]
      have z := (S1.cutS h2 (HT.sIx ds.length 0 l) (HT.sIx ds.length ds.length u - HT.sIx ds.length 0 l)).newT (by simp [h2]) hp
      rw [frzL_take, frzL_drop, hf] at z
      exact q _ _ z
  | lst o ds =>
    cases e
    obtain ⟨a, xs, rfl, h2, h3, _, S1⟩ := S.explode (ds := ds) rfl
    refine .inr ⟨a, xs, rfl, h3, fun p hp => ?_⟩
    rw [cut_len h2]
    exact q _ _ ((S1.cutS h2 (HT.sIx ds.length 0 l) (HT.sIx ds.length ds.length u - HT.sIx ds.length 0 l)).newL (by simp [h2]) hp)
  | scr ns =>
    cases e
    obtain ⟨a, xs, rfl, h2, h3, _, S1⟩ := S.explode (ds := ns.map D.int) rfl
    refine .inr ⟨a, xs, rfl, h3, fun p hp => ?_⟩
    rw [cut_len h2]
    exact q _ _ ((S1.cutS h2 (HT.sIx (ns.map D.int).length 0 l) (HT.sIx (ns.map D.int).length (ns.map D.int).length u - HT.sIx (ns.map D.int).length 0 l)).newL (by simp [h2]) hp)
  | _ => cases e
theorem ed_sl (c : CF X K W k) (ha : ED X K W a fa) (hl : POD X K W lo fl) (hu : POD X K W hi fu) : ED X K W (.Subscript a (.Slice lo hi none p2) pos) (eSl fa fl fu) := by
  obtain ⟨ta, pa, sa⟩ := ha.ex
  obtain ⟨tl, pl, sl⟩ := hl.ex
  obtain ⟨tu, pu, su⟩ := hu.ex
  refine ⟨tSl (rSlAll K.K) ta tl tu, (fun i => pe_slice (by rw [← c.kk i]; exact sl_all) (pa i) (pl i) (pu i)), fun fr ρ σ H Q S q => sa fr ρ σ H _ S ((QR.bind q).mono fun x ρ1 q1 v H1 S1 => ?_)⟩
  obtain ⟨fr', S2, back⟩ := S1.hold
  refine sl fr' ρ1 σ H1 _ S2 (((QR.bind q1).frame fun ρ H s => (back ρ σ H s).drop).mono fun l ρ2 q2 H2 S3 => ?_)
  refine su fr' ρ2 σ H2 _ S3 (((QR.bind q2).frame fun ρ H s => (back ρ σ H s).drop).mono fun u ρ3 q3 H3 S4 => ?_)
  obtain ⟨d, e, q4⟩ := QR.lift q3
  exact sl_sem (back _ _ _ S4) e q4
end
end DL

set_option Elab.async false
set_option linter.all false
set_option maxRecDepth 100000
set_option maxHeartbeats 4000000
namespace DL
open PySem PySem.Spec L2
/-! ### a module's tuple of constants -/
theorem rep_flats {K : RC} {F H : Hp} : ∀ {ds : List D} {vs : List V}, ds.map flat = vs.map some → RepL K F H ds vs []
  | [], [], _ => ⟨rfl, rfl⟩
  | [], v :: vs, e => by cases e
  | d :: ds, [], e => by cases e
  | d :: ds, v :: vs, e => by
    have e : flat d :: ds.map flat = some v :: vs.map some := e
    injection e with e1 e2
    exact ⟨v, vs, [], [], rfl, rfl, flat_rep e1, rep_flats e2⟩
section
variable {ι : Type} {X : ι → Cx} {K : RC} {W : WX} {k : Nat} {pos : Pos}
theorem ed_gtup {x : Str} {a : Addr} {ds : List D} {vs : List V} (c : CF X K W k) (hm : K.mg x = some (.ref a)) (ht : ∀ F : Hp, SqT K.K F a vs) (hg : ∀ j, Gl (X j) x) (hv : ds.map flat = vs.map some := by rfl) (hd : (x == ("__debug__" : Str)) = false := by decide) : ED X K W (.Name x pos) (eC (.tup ds)) :=
  ⟨tC (.ref a), (fun j => pe_glob (hg j) (by rw [c.mg j]; exact hm) rfl hd), fun fr ρ σ H Q S q => q _ H (S.pushG (H0 := H) ⟨rfl, a, vs, rfl, ht _, rep_flats hv⟩)⟩
end
end DL

set_option Elab.async false
set_option linter.all false
set_option maxRecDepth 100000
set_option maxHeartbeats 4000000
namespace DL
open PySem PySem.Spec L2
/-! ### x.extend(list), x a list of one's own -/
theorem Sim.appendN {K : RC} {fr : Fr} {ρ : DL.Env} {σ : L2.St} {H : Hp} {ds es : List D} {p : Addr} {zs : List V} (S : Sim K fr (some (.lst true ds) :: (es.map some ++ ρ)) (some (.ref p) :: (zs.map some ++ σ)) H) (hz : zs.length = es.length) :
    ∃ xs, H p = some (.lst xs) ∧ xs.length = ds.length ∧ Sim K fr (some (.lst true (ds ++ es)) :: ρ) (some (.ref p) :: σ) (upd H p (.lst (xs ++ zs))) := by
  obtain ⟨A, S⟩ := S
  obtain ⟨s1, τ1, B1, C1, e1, rfl, ⟨v1, ev, r1⟩, r2⟩ := S.sl
  injection e1 with e1 e2
  subst e1 e2
  cases ev
  obtain ⟨B2, C2, rfl, q1, r4⟩ := Sl.cut (by simp [hz]) r2
  have r3 := q1.repL
  obtain ⟨a, xs, B, ea, rfl, hx, r1⟩ := r1
  cases ea
  refine ⟨xs, hx, r1.len, p :: (B ++ B2) ++ C2, ?_⟩
  have sub : ∀ a ∈ p :: (B ++ B2) ++ C2, a ∈ p :: B ++ (B2 ++ C2) ∨ H a = none := fun a z => .inl (by simpa [List.append_assoc] using z)
  have nd : (p :: (B ++ B2) ++ C2).Nodup := by
    have := S.nd
    simpa [List.append_assoc] using this
  have pn : p ∉ B ++ (B2 ++ C2) := by
    have := S.nd
    rw [List.cons_append] at this
    exact (List.nodup_cons.mp this).1
  have kp : ∀ a o, a ≠ p → H a = some o → upd H p (.lst (xs ++ zs)) a = some o := fun a o n e => by rw [upd_ne n]; exact e
  have kpA : ∀ a o, a ∉ p :: B ++ (B2 ++ C2) → H a = some o → upd H p (.lst (xs ++ zs)) a = some o := fun a o n e => kp a o (fun z => n (by simp [z])) e
  have f := S.fro sub (H' := upd H p (.lst (xs ++ zs))) kpA
  have ne : ∀ a, a ∈ B ++ (B2 ++ C2) → a ≠ p := fun a z e => pn (e ▸ z)
  refine S.next sub nd kpA ⟨some (.ref p), _, p :: (B ++ B2), C2, rfl, rfl, ⟨.ref p, rfl, p, xs ++ zs, B ++ B2, rfl, rfl, upd_same, ?_⟩, r4.mono f fun a z o e => kp a o (ne a (by simp [z])) e⟩
  exact RepL.app (RepL.mono f _ _ _ (fun a z o e => kp a o (ne a (by simp [z])) e) r1) (RepL.mono f _ _ _ (fun a z o e => kp a o (ne a (by simp [z])) e) r3)
def eExt (i : Nat) (f : M D) : M D := fun ρ => match ρ[i]? with
  | some (some (.lst true _)) => mbind f (fun d ρ1 => match d, ρ1[i]? with
    | .lst _ es, some (some (.lst true ds)) => if ds.length + es.length ≤ 1000000 then .ok .non (ρ1.set i (some (.lst true (ds ++ es)))) else .stuck
    | _, _ => .stuck) ρ
  | _ => .stuck
section
variable {ι : Type} {X : ι → Cx} {K : RC} {W : WX} {k : Nat} {e : Expr} {f : M D}
theorem ed_ext (i : Nat) {x : Str} {p0 apos cpos : Pos} (h : ∀ j, PE (X j) (.Name x p0) (tVar i)) (ha : ED X K W e f) (c : CF X K W k)
    (hs : ∀ i, starEach [e] (X i).env = (false, eval e (X i).env) :: starEach [] (X i).env := by intro _; rfl) (hline : (apos.endLine == cpos.line) = true := by rfl)
    (hfew : ∀ i, ((backTo cpos (starEach [e] (X i).env)).all (fun x => !x.1) && (backToKw cpos (keywordEach [] (X i).env)).all (fun x => x.1.isSome) && decide ([e].length + ([] : List Keyword).length + (if ([] : List Keyword).isEmpty then 0 else 1) < 30)) = true := by intro _; rfl) :
    ED X K W (.Call (.Attribute (.Name x p0) "extend" apos) [e] [] cpos) (eExt i f) := by
  obtain ⟨t, pa, s⟩ := ha.ex
  refine ⟨tBM K.K "list" rExtend (tVar i) (tCons t tNil), (fun j => ?_), fun fr ρ σ H Q S q => ?_⟩
  · rw [← c.kk j]
    exact pe_bm PySem.F.plainAttrs_list PySem.F.slot_list_extend PySem.F.type_list_extend mt_extend (h j) (pa_cons (pa j) pa_nil (hs j)) rfl (hfew j) hline (hs j) rfl
  · unfold eExt at q
    split at q
    · rename_i ds0 e0
      obtain ⟨p, xs, hv, hx, _⟩ := S.lst_at e0
      refine ⟨.ref p, hv, .inl ⟨rfl, xs, SqL.of hx⟩, ?_⟩
      refine s fr ρ σ H _ S ((QR.bind q).mono fun d ρ1 q1 v1 H1 S1 => ?_)
      split at q1
      · rename_i o es ds e1
        by_cases hz : ds.length + es.length ≤ 1000000
        · rw [if_pos hz] at q1
          obtain ⟨b, zs, rfl, hl, _, hb, S2⟩ := S1.explode (ds := es) rfl
          have hb := hb _ _ rfl
          obtain ⟨v, hv2, S3⟩ := S2.move (i := es.length + i) (d := .lst true ds) (by rw [List.getElem?_append_right (by simp)]; simpa using e1)
          have hv3 : σ[i]? = some (some v) := by
            rw [List.getElem?_append_right (by simp [hl]), List.length_map, hl, Nat.add_sub_cancel_left] at hv2
            exact hv2
          rw [hv] at hv3
          cases hv3
          rw [List.set_append_right _ _ (by simp), List.length_map, Nat.add_sub_cancel_left] at S3
          obtain ⟨ys, hy, hl2, S4⟩ := S3.appendN hl
          have S5 := S4.back hv
          rw [set_set_] at S5
          exact ⟨p, b, ys, zs, rfl, rfl, hy, hb, by rw [hl, hl2]; exact Nat.le_trans hz (by rw [sizeLine_eq]; decide), q1 _ _ (S5.pushF rfl)⟩
        · rw [if_neg hz] at q1
          exact q1.elim
      · exact q1.elim
    · exact q.elim
end
end DL

set_option Elab.async false
set_option linter.all false
set_option maxRecDepth 100000
set_option maxHeartbeats 4000000
namespace DL
open PySem PySem.Spec L2
/-! ### try: .. except X: .. except Y: .. (no names) -/
def noExc : RS → RS
  | .exc _ _ _ => .stuck
  | r => r
def sHandle : List ((Str → Option Bool) × SF) → Str → List (Str × D) → SF
  | [], c, fs => fun ρ => .exc c fs ρ
  | (m, G) :: r, c, fs => fun ρ => match m c with
    | some true => noExc (G ρ)
    | some false => sHandle r c fs ρ
    | none => .stuck
structure HD {ι : Type} (X : ι → Cx) (K : RC) (pr : List Nat) (hds : List ExceptHandler) (l : List ((Str → Option Bool) × SF)) : Prop where
  ex : ∃ ls, (∀ j, HdsOk (X j) hds ls) ∧ ∀ (W : WX) (c : Str) (fs : List (Str × D)) (cls : Value) (dd : Option Addr) (fr : Fr) (ρ : DL.Env) (σ0 σ : L2.St) (H : Hp) (Dn : Ends), KeepS pr σ0 σ → ExcR K.mg c fs cls dd H → Sim K fr ρ σ H → QS K W pr fr σ0 (sHandle l c fs ρ) Dn → wMany K.K W Dn ls cls dd σ H
section
variable {ι : Type} {X : ι → Cx} {K : RC} {W : WX} {k : Nat} {pr : List Nat} {hds : List ExceptHandler} {l : List ((Str → Option Bool) × SF)}
theorem hd_nil : HD X K pr [] [] := ⟨[], (fun _ => .nil), fun W c fs cls dd fr ρ σ0 σ H Dn ks hx S q => q cls dd σ H ks hx S⟩
theorem hd_cons {x : Str} {np pos' : Pos} {b₀ : Stmt} {suite : List Stmt} {m : Str → Option Bool} {G : SF} (c : CF X K W k) (hg : ∀ j, Gl (X j) x) (hm : ExmF K x m) {Y : Addr} (hY : K.mg x = some (.ref Y)) (hsu : ∀ a C d, SDs (suF X a C d) K W0 pr (b₀ :: suite) G) (hr : HD X K pr hds l) (hdb : (x == ("__debug__" : Str)) = false := by decide) :
    HD X K pr (.ExceptHandler (some (.Name x np)) none (b₀ :: suite) pos' :: hds) ((m, G) :: l) := by
  obtain ⟨ls, h1, h2⟩ := hr.ex
  let ts : Addr → Value → Option Addr → TS := fun a cls d Dn σ H => ∃ p : { C : Addr // cls = .ref C }, (hsu a p.1 d).ex.choose Dn σ H
  refine ⟨(.ref Y, ts) :: ls, (fun j => .cons ⟨hg j, hdb, .inl (by rw [c.mg j]; exact hY)⟩ (fun a oe cls d pn hz hf => ?_) (h1 j)), fun W' cn fs cls dd fr ρ σ0 σ H Dn ks hx S q => ?_⟩
  · refine pss_ex fun p => ?_
    obtain ⟨C, hc⟩ := p
    subst hc
    exact (hsu a C d).ex.choose_spec.1 ⟨(j, oe, pn), hz, hf⟩
  · unfold sHandle at q
    cases em : m cn with
    | none => simp only [em] at q; exact q.elim
    | some b =>
      obtain ⟨C, Y', h4, h5, h6⟩ := hm cn b em
      have hx0 := hx
      obtain ⟨C', h7, h8, _⟩ := hx
      rw [h4] at h7
      cases h7
      rw [hY] at h5
      cases h5
      subst h8
      refine ⟨b, h6, fun hb a ha => ?_, fun hb => ?_⟩
      · subst hb
        simp only [em] at q
        refine ⟨⟨C, rfl⟩, ?_⟩
        refine (hsu a C dd).ex.choose_spec.2 fr ρ σ H _ S ?_
        cases eg : G ρ with
        | nx ρ2 => rw [eg] at q; exact fun σ2 H2 k2 S2 => q σ2 H2 (ks.trans k2) S2
        | brk ρ2 => rw [eg] at q; exact fun σ2 H2 k2 S2 => q σ2 H2 (ks.trans k2) S2
        | cnt ρ2 => rw [eg] at q; exact fun σ2 H2 k2 S2 => q σ2 H2 (ks.trans k2) S2
        | ret d ρ2 => rw [eg] at q; exact fun v σ2 H2 k2 S2 => q v σ2 H2 (ks.trans k2) S2
        | exc _ _ _ => rw [eg] at q; exact q.elim
        | stuck => rw [eg] at q; exact q.elim
      · subst hb
        simp only [em] at q
        exact h2 W' cn fs _ dd fr ρ σ0 σ H Dn ks hx0 S q
def sTryN (F : SF) (l : List ((Str → Option Bool) × SF)) : SF := fun ρ => match F ρ with
  | .exc c fs ρ' => sHandle l c fs ρ'
  | r => r
theorem sd_try {body : List Stmt} {h₀ : ExceptHandler} {F : SF} {pos : Pos} (c : CF X K W k) (hs : ∀ j, (X j).stack = (X j).env :: (X j).outer) (hfr : ∀ j, (X j).env.frame = some (X j).env.locals) (hb : ∀ W', SDs (trF X W') K W' pr body F) (hh : HD X K pr (h₀ :: hds) l) :
    SD X K W pr (.Try body (h₀ :: hds) [] [] pos) (sTryN F l) := by
  obtain ⟨ls, h1, h2⟩ := hh.ex
  let tb : WX → TS := fun W' => (hb W').ex.choose
  refine ⟨fun D σ H => tb (wMany K.K W D ls) D σ H, (fun j => ?_), fun fr ρ σ H Dn S q => ?_⟩
  · rw [← c.kk j]
    exact ps_try_many (tb := tb) (hs j) (hfr j) (c.tk j) (fun W' pn xe tk po => (hb W').ex.choose_spec.1 ⟨(j, pn, xe), tk, po⟩) (h1 j)
  · refine (hb _).ex.choose_spec.2 fr ρ σ H _ S ?_
    unfold sTryN at q
    cases e : F ρ with
    | exc c' fs ρ' =>
      rw [e] at q
      exact fun cls dd σ' H' ks hx S' => h2 W c' fs cls dd fr ρ' σ σ' H' Dn ks hx S' q
    | nx ρ' => rw [e] at q; exact q
    | ret d ρ' => rw [e] at q; exact q
    | brk ρ' => rw [e] at q; exact q
    | cnt ρ' => rw [e] at q; exact q
    | stuck => rw [e] at q; exact q.elim
end
end DL

set_option Elab.async false
set_option linter.all false
set_option maxRecDepth 100000
set_option maxHeartbeats 4000000
namespace DL
open PySem PySem.Spec L2
/-! ## plain evaluation of loops and comprehensions -/
section
variable {ρ ρ1 ρ2 : DL.Env} {g : D → DL.Env → Option DL.Env} {b : SF} {fi : M (List D)} {tt : M Bool} {te : M D} {vs : List Nat} {ds ys : List D} {L : Nat}
/-- a loop as a fold over a state that the slots show -/
theorem forGo_fold {S : Type} (f : S → DL.Env) (step : S → D → S) (I : S → Prop) : ∀ (ds : List D) (st : S), I st → (∀ st d, I st → d ∈ ds → ∃ ρ1, g d (f st) = some ρ1 ∧ b ρ1 = .nx (f (step st d)) ∧ I (step st d)) → forGo g b ds (f st) = .nx (f (ds.foldl step st)) ∧ I (ds.foldl step st)
  | [], st, hI, _ => ⟨rfl, hI⟩
  | d :: ds, st, hI, h => by
    obtain ⟨ρ1, e1, e2, hI2⟩ := h st d hI List.mem_cons_self
    have ih := forGo_fold f step I ds (step st d) hI2 (fun st d' hI hd => h st d' hI (List.mem_cons_of_mem _ hd))
    refine ⟨?_, ih.2⟩
    unfold forGo
    simp only [e1, e2]
    exact ih.1
theorem sFor_fold {S : Type} (f : S → DL.Env) (step : S → D → S) (I : S → Prop) {st : S} (h1 : fi ρ = .ok ds (f st)) (hI : I st) (h : ∀ st d, I st → d ∈ ds → ∃ ρ1, g d (f st) = some ρ1 ∧ b ρ1 = .nx (f (step st d)) ∧ I (step st d)) : sFor fi g b ρ = .nx (f (ds.foldl step st)) ∧ I (ds.foldl step st) := by
  unfold sFor
  rw [sE_of h1]
  exact forGo_fold f step I ds st hI h
/-- a comprehension: each turn starts from the same slots -/
theorem lcGo_filter (ρ' : DL.Env) (e : D → DL.Env) (p : D → Bool) (y : D → D) : ∀ (ds : List D) (ρ : DL.Env), wipeE ρ vs = ρ' → (∀ d ∈ ds, g d ρ' = some (e d) ∧ tt (e d) = .ok (p d) (e d) ∧ (p d = true → te (e d) = .ok (y d) (e d)) ∧ wipeE (e d) vs = ρ') → lcGo g tt te vs ds ρ = .ok ((ds.filter p).map y) ρ'
  | [], ρ, hw, _ => by show Res.ok [] (wipeE ρ vs) = _; rw [hw]; rfl
  | d :: ds, ρ, hw, h => by
    obtain ⟨h1, h2, h3, h4⟩ := h d List.mem_cons_self
    have ih := lcGo_filter ρ' e p y ds (e d) h4 (fun d' hd => h d' (List.mem_cons_of_mem _ hd))
    unfold lcGo
    rw [hw, h1]
    simp only [mbind_of h2]
    cases hp : p d with
    | true =>
      rw [if_pos rfl, mbind_of (h3 hp), mbind_of ih, List.filter_cons_of_pos hp]
      rfl
    | false =>
      rw [if_neg Bool.false_ne_true, ih, List.filter_cons_of_neg (by rw [hp]; exact Bool.false_ne_true)]
theorem lcGo_map (ρ' : DL.Env) (e : D → DL.Env) (y : D → D) (ds : List D) (ρ : DL.Env) (hw : wipeE ρ vs = ρ') (h : ∀ d ∈ ds, g d ρ' = some (e d) ∧ te (e d) = .ok (y d) (e d) ∧ wipeE (e d) vs = ρ') : lcGo g mYes te vs ds ρ = .ok (ds.map y) ρ' := by
  have z := lcGo_filter (tt := mYes) ρ' e (fun _ => true) y ds ρ hw (fun d hd => ⟨(h d hd).1, rfl, fun _ => (h d hd).2.1, (h d hd).2.2⟩)
  rw [List.filter_eq_self.mpr (fun _ _ => rfl)] at z
  exact z
theorem eLcL_ok (h1 : fi ρ = .ok ds ρ1) (hl : ds.length ≤ 100000) (hL : ρ1.length = L) (h2 : lcGo g tt te vs ds ρ1 = .ok ys ρ2) : eLcL L fi g tt te vs ρ = .ok (.lst true ys) ρ2 := by
  unfold eLcL
  rw [mbind_of h1, if_pos ⟨Nat.lt_of_le_of_lt hl (by rw [sizeLine_eq]; decide), hL⟩, mbind_of h2]
  rfl
theorem iSeq_ok {f : M D} {d : D} (h1 : f ρ = .ok d ρ1) (h2 : items (frz d) = some ds) : iSeq f ρ = .ok ds ρ1 := by
  unfold iSeq seqOf; rw [mbind_of h1, h2]; rfl
theorem iRg1_ok {gg : M (List D)} {n : Int} (h1 : gg ρ = .ok [.int n] ρ1) (h2 : -1000000000 ≤ n ∧ n ≤ 1000000000) : iRg1 gg ρ = .ok (rgD 0 n) ρ1 := by
  unfold iRg1; rw [mbind_of h1]; dsimp only; rw [if_pos (by omega)]; rfl
theorem iRg2_ok {gg : M (List D)} {m n : Int} (h1 : gg ρ = .ok [.int m, .int n] ρ1) (h2 : -1000000000 ≤ m ∧ m ≤ 1000000000 ∧ -1000000000 ≤ n ∧ n ≤ 1000000000) : iRg2 gg ρ = .ok (rgD m n) ρ1 := by
  unfold iRg2; rw [mbind_of h1]; dsimp only; rw [if_pos (by omega)]; rfl
theorem frzL_ints : ∀ ns : List Int, frzL (ns.map D.int) = ns.map D.int
  | [] => rfl
  | n :: ns => by show frz (D.int n) :: frzL (ns.map D.int) = _; rw [frzL_ints ns]; rfl
theorem boolsL_map : ∀ bs : List Bool, boolsL (bs.map D.bl) = some bs
  | [] => rfl
  | b :: bs => by show (boolsL (bs.map D.bl)).map (fun z => b :: z) = _; rw [boolsL_map bs]; rfl
theorem intsL_map : ∀ bs : List Int, intsL (bs.map D.int) = some bs
  | [] => rfl
  | b :: bs => by show (intsL (bs.map D.int)).map (fun z => b :: z) = _; rw [intsL_map bs]; rfl
theorem all_ok {gg : M (List D)} {o : Bool} {bs : List Bool} (h1 : gg ρ = .ok [.lst o (bs.map D.bl)] ρ1) : eBi allD gg ρ = .ok (.bl (bs.all id)) ρ1 := eBi_ok h1 (by show (boolsL (bs.map D.bl)).map (fun bs : List Bool => D.bl (bs.all id)) = _; rw [boolsL_map]; rfl)
theorem any_ok {gg : M (List D)} {o : Bool} {bs : List Bool} (h1 : gg ρ = .ok [.lst o (bs.map D.bl)] ρ1) : eBi anyD gg ρ = .ok (.bl (bs.any id)) ρ1 := eBi_ok h1 (by show (boolsL (bs.map D.bl)).map (fun bs : List Bool => D.bl (bs.any id)) = _; rw [boolsL_map]; rfl)
theorem sum_ok {gg : M (List D)} {o : Bool} {bs : List Int} (h1 : gg ρ = .ok [.lst o (bs.map D.int)] ρ1) : eBi sumD gg ρ = .ok (.int bs.sum) ρ1 := eBi_ok h1 (by show (intsL (bs.map D.int)).map (fun bs : List Int => D.int bs.sum) = _; rw [intsL_map]; rfl)
end
end DL

set_option Elab.async false
set_option linter.all false
set_option maxRecDepth 100000
set_option maxHeartbeats 4000000
namespace DL
open PySem PySem.Spec L2
/-! ## more plain lemmas: == of whole data, comprehensions in one slot, tuples of ints -/
abbrev TI (l : List Int) : D := .tup (l.map .int)
theorem toPyL_ints : ∀ l : List Int, toPyL (l.map D.int) = some (l.map PyData.int)
  | [] => rfl
  | n :: ns => by
    show (toPy (D.int n)).bind (fun p => (toPyL (ns.map D.int)).map fun ps => p :: ps) = _
    rw [toPyL_ints ns]
    rfl
theorem toPy_TI (l : List Int) : toPy (TI l) = some (.tuple (l.map PyData.int)) := by
  show (toPyL (l.map D.int)).map PyData.tuple = _
  rw [toPyL_ints]; rfl
theorem toPyL_TIs : ∀ ls : List (List Int), toPyL (ls.map TI) = some (ls.map fun l => PyData.tuple (l.map PyData.int))
  | [] => rfl
  | l :: ls => by
    show (toPy (TI l)).bind (fun p => (toPyL (ls.map TI)).map fun ps => p :: ps) = _
    rw [toPyL_TIs ls, toPy_TI]
    rfl
theorem toPy_lstTI (o : Bool) (ls : List (List Int)) : toPy (.lst o (ls.map TI)) = some (.list (ls.map fun l => PyData.tuple (l.map PyData.int))) := by
  show (toPyL (ls.map TI)).map PyData.list = _
  rw [toPyL_TIs]; rfl
theorem lay_ints : ∀ l : List Int, PyData.canLayAll0 (l.map PyData.int) = true
  | [] => by simp only [List.map_nil, PyData.canLayAll0]
  | n :: ns => by simp only [List.map_cons, PyData.canLayAll0, PyData.canLay0, lay_ints ns, Bool.and_self]
theorem dep_ints : ∀ l : List Int, PyData.depthAll (l.map PyData.int) = 0
  | [] => by simp only [List.map_nil, PyData.depthAll]
  | n :: ns => by simp only [List.map_cons, PyData.depthAll, PyData.depth, dep_ints ns, Nat.max_self]
theorem lay_TIs : ∀ ls : List (List Int), PyData.canLayAll0 (ls.map fun l => PyData.tuple (l.map PyData.int)) = true
  | [] => by simp only [List.map_nil, PyData.canLayAll0]
  | l :: ls => by simp only [List.map_cons, PyData.canLayAll0, PyData.canLay0, lay_ints, lay_TIs ls, Bool.and_self]
theorem dep_TIs : ∀ ls : List (List Int), PyData.depthAll (ls.map fun l => PyData.tuple (l.map PyData.int)) ≤ 1
  | [] => by simp only [List.map_nil, PyData.depthAll]; omega
  | l :: ls => by
    have := dep_TIs ls
    simp only [List.map_cons, PyData.depthAll, PyData.depth, dep_ints]
    omega
theorem shaped_TI (l : List Int) : SeqAt.shaped (.tuple (l.map PyData.int)) = true := by
  unfold SeqAt.shaped
  simp only [PyData.canLay0, lay_ints, PyData.depth, dep_ints]
  rfl
theorem shaped_lstTI (ls : List (List Int)) : SeqAt.shaped (.list (ls.map fun l => PyData.tuple (l.map PyData.int))) = true := by
  unfold SeqAt.shaped
  have := dep_TIs ls
  simp only [PyData.canLay0, lay_TIs, PyData.depth, Bool.true_and]
  exact decide_eq_true (by omega)
theorem shaped_ints (l : List Int) : SeqAt.shaped (.list (l.map PyData.int)) = true := by
  unfold SeqAt.shaped
  simp only [PyData.canLay0, lay_ints, PyData.depth, dep_ints]
  rfl
theorem eqB_same {x y : D} {p : PyData} (hx : toPy x = some p) (hy : toPy y = some p) (hs : SeqAt.shaped p = true) : eqB x y = some true := by
  unfold eqB
  rw [hx, hy]
  simp only [Option.bind_some, hs, and_self, if_true]
  rw [SeqAt.eqv_refl p (SeqAt.canLay_of_shaped hs)]
theorem eqv_ints : ∀ l m : List Int, PyData.eqvAll (l.map PyData.int) (m.map PyData.int) = decide (l = m)
  | [], [] => by rw [List.map_nil, PyData.eqvAll]; rfl
  | [], b :: m => by rw [List.map_nil, List.map_cons, PyData.eqvAll]; rfl
  | a :: l, [] => by rw [List.map_nil, List.map_cons, PyData.eqvAll]; rfl
  | a :: l, b :: m => by
    rw [List.map_cons, List.map_cons, PyData.eqvAll, eqv_ints l m, PyData.eqv]
    simp
    rfl
theorem eqB_TI (l m : List Int) : eqB (TI l) (TI m) = some (decide (l = m)) := by
  unfold eqB
  rw [toPy_TI, toPy_TI]
  simp only [Option.bind_some, shaped_TI, and_self, if_true]
  rw [PyData.eqv, eqv_ints]
theorem eqB_lstTI (o o' : Bool) (ls : List (List Int)) : eqB (.lst o (ls.map TI)) (.lst o' (ls.map TI)) = some true := eqB_same (toPy_lstTI o ls) (toPy_lstTI o' ls) (shaped_lstTI ls)
theorem toPy_lstI (o : Bool) (l : List Int) : toPy (.lst o (l.map D.int)) = some (.list (l.map PyData.int)) := by
  show (toPyL (l.map D.int)).map PyData.list = _
  rw [toPyL_ints]; rfl
theorem eqB_lstI (o o' : Bool) (l m : List Int) : eqB (.lst o (l.map D.int)) (.lst o' (m.map D.int)) = some (decide (l = m)) := by
  unfold eqB
  rw [toPy_lstI, toPy_lstI]
  simp only [Option.bind_some, shaped_ints, and_self, if_true]
  rw [PyData.eqv, eqv_ints]
theorem frzL_TI : ∀ ls : List (List Int), frzL (ls.map TI) = ls.map TI
  | [] => rfl
  | n :: ns => by show frz (TI n) :: frzL (ns.map TI) = _; rw [frzL_TI ns]; rfl
section
variable {ρ ρ1 ρ2 : DL.Env} {fi g : M (List D)} {f fa fb te : M D} {tt : M Bool} {d x y : D} {ds ys : List D} {L i : Nat}
theorem eq_ok {b : Bool} (h1 : fa ρ = .ok x ρ1) (h2 : fb ρ1 = .ok y ρ2) (h : eqB x y = some b) : e2 eqD fa fb ρ = .ok (.bl b) ρ2 := e2_ok h1 h2 (by unfold eqD; rw [h]; rfl)
theorem ne_ok {b : Bool} (h1 : fa ρ = .ok x ρ1) (h2 : fb ρ1 = .ok y ρ2) (h : eqB x y = some b) : e2 neD fa fb ρ = .ok (.bl !b) ρ2 := e2_ok h1 h2 (by unfold neD; rw [h]; rfl)
theorem all_t {o : Bool} (h1 : g ρ = .ok [.lst o ys] ρ1) (h : ∀ y ∈ ys, y = .bl true) : eBi allD g ρ = .ok (.bl true) ρ1 := by
  have e : ys = (ys.map fun _ => true).map D.bl := by
    rw [List.map_map]
    exact (List.map_id ys).symm.trans (List.map_congr_left fun y hy => by rw [h y hy]; rfl)
  rw [e] at h1
  refine (all_ok h1).trans ?_
  have : (ys.map fun _ => true).all id = true := by simp
  rw [this]
theorem lc_map1 {yf : D → D} (h1 : fi ρ = .ok ds ρ1) (hl : ds.length ≤ 100000) (hL : ρ1.length = L) (hw : ρ1.set i none = ρ1) (hi : i < L) (h : ∀ d ∈ ds, te (ρ1.set i (some d)) = .ok (yf d) (ρ1.set i (some d))) : eLcL L fi (gSet i) mYes te [i] ρ = .ok (.lst true (ds.map yf)) ρ1 := by
  refine eLcL_ok h1 hl hL (lcGo_map ρ1 (fun d => ρ1.set i (some d)) yf ds ρ1 hw fun d hd => ⟨?_, h d hd, ?_⟩)
  · unfold gSet; exact if_pos (by omega)
  · show (ρ1.set i (some d)).set i none = ρ1
    rw [List.set_set, hw]
theorem lc_filter1 {yf : D → D} {p : D → Bool} (h1 : fi ρ = .ok ds ρ1) (hl : ds.length ≤ 100000) (hL : ρ1.length = L) (hw : ρ1.set i none = ρ1) (hi : i < L) (ht : ∀ d ∈ ds, tt (ρ1.set i (some d)) = .ok (p d) (ρ1.set i (some d))) (h : ∀ d ∈ ds, p d = true → te (ρ1.set i (some d)) = .ok (yf d) (ρ1.set i (some d))) : eLcL L fi (gSet i) tt te [i] ρ = .ok (.lst true ((ds.filter p).map yf)) ρ1 := by
  refine eLcL_ok h1 hl hL (lcGo_filter ρ1 (fun d => ρ1.set i (some d)) p yf ds ρ1 hw fun d hd => ⟨?_, ht d hd, h d hd, ?_⟩)
  · unfold gSet; exact if_pos (by omega)
  · show (ρ1.set i (some d)).set i none = ρ1
    rw [List.set_set, hw]
theorem len_lst (o : Bool) (ds : List D) : lenD [.lst o ds] = some (.int ds.length) := rfl
theorem len_tup (ds : List D) : lenD [.tup ds] = some (.int ds.length) := rfl
theorem len_TI (l : List Int) : lenD [TI l] = some (.int l.length) := by rw [len_tup, List.length_map]
theorem atI_nat {ds : List D} {n : Nat} (h : ds[n]? = some d) : atI ds (n : Int) = some d := by
  have hn : n < ds.length := (List.getElem?_eq_some_iff.mp h).1
  have h2 := (List.getElem?_eq_some_iff.mp h).2
  simp [atI, ixN, hn, h2]
theorem ix_l {o : Bool} {n : Nat} (h : ds[n]? = some d) : ixD (.lst o ds) (.int (n : Int)) = some d := by
  show atI ds (n : Int) = _
  exact atI_nat h
theorem ix_t {n : Nat} (h : ds[n]? = some d) : ixD (.tup ds) (.int (n : Int)) = some d := by
  show atI ds (n : Int) = _
  exact atI_nat h
theorem ix_TI {l : List Int} {n : Nat} (h : n < l.length) : ixD (TI l) (.int (n : Int)) = some (.int (l.getD n 0)) := ix_t (by
  rw [List.getElem?_map, List.getElem?_eq_getElem h, List.getD_eq_getElem?_getD, List.getElem?_eq_getElem h]; rfl)
theorem rgD_0 (n : Nat) : rgD 0 (n : Int) = (List.range n).map fun i : Nat => D.int (i : Int) := by
  unfold rgD
  rw [show ((n : Int) - 0).toNat = n by omega]
  exact List.map_congr_left fun i _ => by rw [Int.zero_add]
/-- append -/
theorem app_ok {ρ : DL.Env} (h0 : ∃ es, ρ[i]? = some (some (.lst true es))) (h1 : f ρ = .ok d ρ1) (h2 : ρ1[i]? = some (some (.lst true ds))) (hl : ds.length ≤ 100000) : eApp i f ρ = .ok .non (ρ1.set i (some (.lst true (ds ++ [d])))) := by
  obtain ⟨es, e⟩ := h0
  unfold eApp
  rw [e]
  show mbind f _ ρ = _
  rw [mbind_of h1]
  simp only [h2]
  rw [if_pos (Nat.lt_of_le_of_lt hl (by rw [sizeLine_eq]; decide))]
theorem put_ok {fj : M D} {j : Int} {n : Nat} {es : List D} (h0 : ρ[i]? = some (some (.lst true es))) (h1 : fj ρ = .ok (.int j) ρ1) (h2 : ρ1[i]? = some (some (.lst true ds))) (hl : ρ1.length = ρ.length) (hn : ixN ds.length j = some n) : gItem i fj d ρ = some (ρ1.set i (some (.lst true (ds.set n d)))) := by
  unfold gItem
  simp only [h0, h1, h2, hl, if_true, hn]
  rfl
theorem forGo_cons {gg : D → DL.Env → Option DL.Env} {b : SF} (h1 : gg d ρ = some ρ1) (h2 : b ρ1 = .nx ρ2) : forGo gg b (d :: ds) ρ = forGo gg b ds ρ2 := by
  conv => lhs; unfold forGo
  simp only [h1, h2]
theorem sFor_of {gg : D → DL.Env → Option DL.Env} {b : SF} (h1 : fi ρ = .ok ds ρ1) : sFor fi gg b ρ = forGo gg b ds ρ1 := by
  unfold sFor; exact sE_of h1
end
end DL

set_option Elab.async false
set_option linter.all false
set_option maxRecDepth 100000
set_option maxHeartbeats 4000000
noncomputable section
namespace Lk01
open PySem PySem.Spec L2 DL
def top (i : Nat) : Stmt := PySem.Challenge.pw_owncause_k01_whole_rows_and_their_number.main.body.getD i (.Pass ⟨0, 0, 0, 0⟩)
structure Txt (K : PySem.W.Frag) (mg : Str → Option Value) : Prop where
  f_all : mg "all" = none
  f_bool : mg "bool" = none
  f_int : mg "int" = none
  f_isinstance : mg "isinstance" = none
  f_len : mg "len" = none
  f_list : mg "list" = none
  f_max : mg "max" = none
  f_min : mg "min" = none
  f_range : mg "range" = none
  f_reversed : mg "reversed" = none
  f_tuple : mg "tuple" = none
  f_zip : mg "zip" = none
  i_MOST_MEMBERS : ∃ t, mg "MOST_MEMBERS" = some (.int 8 t)
  i_MOST_ROWS : ∃ t, mg "MOST_ROWS" = some (.int 256 t)
  i_MOST_SORTS : ∃ t, mg "MOST_SORTS" = some (.int 4 t)
  x_NoClub : ExF ⟨K, mg⟩ "NoClub"
  x_NoRow : ExF ⟨K, mg⟩ "NoRow"
variable {P : Program} {w : World} {K : PySem.W.Frag} {mg : Str → Option Value} {base : Heap}
abbrev s_law_source : Stmt := top 27
abbrev N_law_source : List Str := ["_law_script", "_law_k", "_law_first"]
abbrev P_law_source : List Str := ["_law_script", "_law_k"]
theorem sc_law_source : FnScope N_law_source P_law_source (defScope s_law_source) := ⟨rfl, rfl, rfl, by decide +kernel, rfl, by decide +kernel, by decide +kernel⟩
def b_law_source : SF := (sSeq (sIf (eB (e2 ltD (eVar 1) (eBi lenD (aCons (eVar 0) aNil)))) (sRet (eLst (aCons (e2 ixD (eVar 0) (eVar 1)) (aCons (eBi intD (aCons (e2 geD (e2 ixD (eVar 0) (eVar 1)) (e2 powD (eC (.int 10)) (eC (.int 18)))) aNil)) (aCons (eC (.int 0)) (aCons (e2 modD (eBi intD (aCons (e2 ixD (eVar 0) (eVar 1)) aNil)) (eC (.int 2147483629))) aNil)))))) sNext)
  (sSeq (sAsg (eC (.int 0)) (gSet 2))
  (sSeq (sIf (eB (e2 gtD (eBi lenD (aCons (eVar 0) aNil)) (eC (.int 0)))) (sAsg (e2 modD (eBi intD (aCons (e2 ixD (eVar 0) (eC (.int 0))) aNil)) (eC (.int 2147483629))) (gSet 2)) sNext)
  (sRet (eLst (aCons (eC (.int 0)) (aCons (eC (.int 0)) (aCons (eC (.int 0)) (aCons (e2 addD (e2 addD (eVar 2) (e2 mulD (eC (.int 104729)) (eVar 1))) (eBi lenD (aCons (eVar 0) aNil))) aNil)))))))))
def F_law_source : List D → Res D := runS [] 2 3 b_law_source
theorem ok_law_source (T : Txt K mg)  {f : Addr} {fd : FuncData} (F : FunD K "_law_source" "_law_source" (defArgs s_law_source) (defBody s_law_source) (defScope s_law_source) [] [] f fd) : FnOk P w K mg base (L2.CX P w) 1 f fd P_law_source (spD ⟨K, mg⟩ P_law_source.length F_law_source) :=
  fnok_of (pr := []) F sc_law_source fun cdv A outer s H E hr => by
    have c := cf_of (P := P) (w := w) (K := K) (mg := mg) (base := base) (E := E) (H := H) (outer := outer) sc_law_source hr
    have po : ∀ i : Unit, PassesOwn (model ((fun _ : Unit => cxOf (L2.CX P w) P w K mg base N_law_source "_law_source" (defScope s_law_source) f cdv A outer s H E) i).prog ((fun _ : Unit => cxOf (L2.CX P w) P w K mg base N_law_source "_law_source" (defScope s_law_source) f cdv A outer s H E) i).w) ((fun _ : Unit => cxOf (L2.CX P w) P w K mg base N_law_source "_law_source" (defScope s_law_source) f cdv A outer s H E) i).A ((fun _ : Unit => cxOf (L2.CX P w) P w K mg base N_law_source "_law_source" (defScope s_law_source) f cdv A outer s H E) i).env ((fun _ : Unit => cxOf (L2.CX P w) P w K mg base N_law_source "_law_source" (defScope s_law_source) f cdv A outer s H E) i).xe := fun _ => passes_of rfl
    exact (ss_cons (sd_if (td_lt c (ed_var 1 (fun _ => pv 1)) (ed_len c (fun _ => by rfl) T.f_len (am_cons (ed_var 0 (fun _ => pv 0)) am_nil))) (ss_one (sd_ret (ed_lst (am_cons (ed_ix c (ed_var 0 (fun _ => pv 0)) (ed_var 1 (fun _ => pv 1))) (am_cons (ed_toint c (fun _ => by rfl) T.f_int (am_cons (ed_ge c (ed_ix c (ed_var 0 (fun _ => pv 0)) (ed_var 1 (fun _ => pv 1))) (ed_pow c ed_int ed_int)) am_nil)) (am_cons ed_int (am_cons (ed_mod c (ed_toint c (fun _ => by rfl) T.f_int (am_cons (ed_ix c (ed_var 0 (fun _ => pv 0)) (ed_var 1 (fun _ => pv 1))) am_nil)) ed_int) am_nil))))))) ss_nil)
  (ss_cons (sd_asg (fun i te tg he hg => ps_asg he hg) ed_int (gd_name (i := 2) (fun j => pg_name (c.nd j) rfl (by first | exact Or.inl rfl | exact Or.inr rfl))))
  (ss_cons (sd_if (td_gt c (ed_len c (fun _ => by rfl) T.f_len (am_cons (ed_var 0 (fun _ => pv 0)) am_nil)) ed_int) (ss_one (sd_asg (fun i te tg he hg => ps_asg he hg) (ed_mod c (ed_toint c (fun _ => by rfl) T.f_int (am_cons (ed_ix c (ed_var 0 (fun _ => pv 0)) ed_int) am_nil)) ed_int) (gd_name (i := 2) (fun j => pg_name (c.nd j) rfl (by first | exact Or.inl rfl | exact Or.inr rfl))))) ss_nil)
  (ss_one (sd_ret (ed_lst (am_cons ed_int (am_cons ed_int (am_cons ed_int (am_cons (ed_add c (ed_add c (ed_var 2 (fun _ => pv 2)) (ed_mul c ed_int (ed_var 1 (fun _ => pv 1)))) (ed_len c (fun _ => by rfl) T.f_len (am_cons (ed_var 0 (fun _ => pv 0)) am_nil))) am_nil))))))))))
abbrev s_law_draw : Stmt := top 28
abbrev N_law_draw : List Str := ["_law_source_here", "_law_many", "_law_number", "_law_mixed"]
abbrev P_law_draw : List Str := ["_law_source_here", "_law_many"]
theorem sc_law_draw : FnScope N_law_draw P_law_draw (defScope s_law_draw) := ⟨rfl, rfl, rfl, by decide +kernel, rfl, by decide +kernel, by decide +kernel⟩
def b_law_draw : SF := (sSeq (sAsg (eFrz (eVix 0 (eC (.int 0)))) (gSet 2))
  (sSeq (sIf (tBor (mAnd (eB (e2 eqD (e2 ixD (eVar 0) (eC (.int 1))) (eC (.int 1)))) (eB (e2 gtD (eVar 2) (eC (.int 0)))))) (sSeq (sAsg (e2 fdivD (eVar 2) (eVar 1)) (gItem 0 (eC (.int 0))))
  (sRet (e2 modD (eBi intD (aCons (eVar 2) aNil)) (eVar 1)))) sNext)
  (sSeq (sAsg (eFrz (eBor (e2 addD (e2 ixD (eVar 0) (eC (.int 2))) (eC (.int 1))))) (gItem 0 (eC (.int 2))))
  (sSeq (sAsg (eBor (e2 modD (eBi intD (aCons (e2 mulD (e2 addD (e2 addD (e2 ixD (eVar 0) (eC (.int 3))) (e2 mulD (eC (.int 7919)) (e2 ixD (eVar 0) (eC (.int 2))))) (eC (.int 1))) (eC (.int 48271))) aNil)) (eC (.int 2147483647)))) (gSet 3))
  (sSeq (sAsg (e2 modD (eBi intD (aCons (e2 mulD (eVar 3) (e2 addD (e2 fdivD (eVar 3) (eC (.int 1009))) (eC (.int 69621)))) aNil)) (eC (.int 2147483647))) (gSet 3))
  (sSeq (sAsg (e2 modD (eBi intD (aCons (e2 mulD (eVar 3) (e2 addD (e2 fdivD (eVar 3) (eC (.int 2003))) (eC (.int 40692)))) aNil)) (eC (.int 2147483399))) (gSet 3))
  (sRet (e2 modD (eBi intD (aCons (eVar 3) aNil)) (eVar 1)))))))))
def F_law_draw : List D → Res D := runS [0] 2 4 b_law_draw
theorem ok_law_draw (T : Txt K mg)  {f : Addr} {fd : FuncData} (F : FunD K "_law_draw" "_law_draw" (defArgs s_law_draw) (defBody s_law_draw) (defScope s_law_draw) [] [] f fd) : FnOk P w K mg base (L2.CX P w) 1 f fd P_law_draw (spD ⟨K, mg⟩ P_law_draw.length F_law_draw) :=
  fnok_of (pr := [0]) F sc_law_draw fun cdv A outer s H E hr => by
    have c := cf_of (P := P) (w := w) (K := K) (mg := mg) (base := base) (E := E) (H := H) (outer := outer) sc_law_draw hr
    have po : ∀ i : Unit, PassesOwn (model ((fun _ : Unit => cxOf (L2.CX P w) P w K mg base N_law_draw "_law_draw" (defScope s_law_draw) f cdv A outer s H E) i).prog ((fun _ : Unit => cxOf (L2.CX P w) P w K mg base N_law_draw "_law_draw" (defScope s_law_draw) f cdv A outer s H E) i).w) ((fun _ : Unit => cxOf (L2.CX P w) P w K mg base N_law_draw "_law_draw" (defScope s_law_draw) f cdv A outer s H E) i).A ((fun _ : Unit => cxOf (L2.CX P w) P w K mg base N_law_draw "_law_draw" (defScope s_law_draw) f cdv A outer s H E) i).env ((fun _ : Unit => cxOf (L2.CX P w) P w K mg base N_law_draw "_law_draw" (defScope s_law_draw) f cdv A outer s H E) i).xe := fun _ => passes_of rfl
    exact (ss_cons (sd_asg (fun i te tg he hg => ps_asg he hg) (ed_frz (ed_vix 0 c (fun _ => pv 0) ed_int)) (gd_name (i := 2) (fun j => pg_name (c.nd j) rfl (by first | exact Or.inl rfl | exact Or.inr rfl))))
  (ss_cons (sd_if (td_bor (td_of (wd_and (td_eq c (ed_ix c (ed_var 0 (fun _ => pv 0)) ed_int) ed_int) (wd_and1 (td_gt c (ed_var 2 (fun _ => pv 2)) ed_int))))) (ss_cons (sd_asg (fun i te tg he hg => ps_asg he hg) (ed_fdiv c (ed_var 2 (fun _ => pv 2)) (ed_var 1 (fun _ => pv 1))) (gd_item 0 c (fun _ => pv 0) ed_int))
  (ss_one (sd_ret (ed_mod c (ed_toint c (fun _ => by rfl) T.f_int (am_cons (ed_var 2 (fun _ => pv 2)) am_nil)) (ed_var 1 (fun _ => pv 1)))))) ss_nil)
  (ss_cons (sd_asg (fun i te tg he hg => ps_asg he hg) (ed_frz (ed_bor (ed_add c (ed_ix c (ed_var 0 (fun _ => pv 0)) ed_int) ed_int))) (gd_item 0 c (fun _ => pv 0) ed_int))
  (ss_cons (sd_asg (fun i te tg he hg => ps_asg he hg) (ed_bor (ed_mod c (ed_toint c (fun _ => by rfl) T.f_int (am_cons (ed_mul c (ed_add c (ed_add c (ed_ix c (ed_var 0 (fun _ => pv 0)) ed_int) (ed_mul c ed_int (ed_ix c (ed_var 0 (fun _ => pv 0)) ed_int))) ed_int) ed_int) am_nil)) ed_int)) (gd_name (i := 3) (fun j => pg_name (c.nd j) rfl (by first | exact Or.inl rfl | exact Or.inr rfl))))
  (ss_cons (sd_asg (fun i te tg he hg => ps_asg he hg) (ed_mod c (ed_toint c (fun _ => by rfl) T.f_int (am_cons (ed_mul c (ed_var 3 (fun _ => pv 3)) (ed_add c (ed_fdiv c (ed_var 3 (fun _ => pv 3)) ed_int) ed_int)) am_nil)) ed_int) (gd_name (i := 3) (fun j => pg_name (c.nd j) rfl (by first | exact Or.inl rfl | exact Or.inr rfl))))
  (ss_cons (sd_asg (fun i te tg he hg => ps_asg he hg) (ed_mod c (ed_toint c (fun _ => by rfl) T.f_int (am_cons (ed_mul c (ed_var 3 (fun _ => pv 3)) (ed_add c (ed_fdiv c (ed_var 3 (fun _ => pv 3)) ed_int) ed_int)) am_nil)) ed_int) (gd_name (i := 3) (fun j => pg_name (c.nd j) rfl (by first | exact Or.inl rfl | exact Or.inr rfl))))
  (ss_one (sd_ret (ed_mod c (ed_toint c (fun _ => by rfl) T.f_int (am_cons (ed_var 3 (fun _ => pv 3)) am_nil)) (ed_var 1 (fun _ => pv 1)))))))))))
abbrev s_law_club : Stmt := top 30
abbrev N_law_club : List Str := ["_law_source_here", "_law_found", "_law_size", "_law_k", "_law_sorts"]
abbrev P_law_club : List Str := ["_law_source_here"]
theorem sc_law_club : FnScope N_law_club P_law_club (defScope s_law_club) := ⟨rfl, rfl, rfl, by decide +kernel, rfl, by decide +kernel, by decide +kernel⟩
def b_law_club : SF := (sSeq (sAsg (eLst aNil) (gSet 1))
  (sSeq (sAsg (eC (.int 1)) (gSet 2))
  (sSeq (sFor (iRg1 (aCons (e2 addD (eC (.int 1)) (eCall F_law_draw (aCons (eMove 0) (aCons (eC (.int 8)) aNil)) [] [(0, 0)])) aNil)) (gSet 3) (sSeq (sAsg (eFrz (e2 addD (eC (.int 1)) (eCall F_law_draw (aCons (eMove 0) (aCons (eC (.int 4)) aNil)) [] [(0, 0)]))) (gSet 4))
  (sSeq (sIf (eB (e2 gtD (e2 mulD (eVar 2) (eVar 4)) (eC (.int 256)))) (sAsg (eC (.int 1)) (gSet 4)) sNext)
  (sSeq (sDrop (eApp 1 (eVar 4)))
  (sAsg (eFrz (e2 mulD (eVar 2) (eVar 4))) (gSet 2))))))
  (sFrz 1 (sRet (eBi tupleD (aCons (eVar 1) aNil)))))))
def F_law_club : List D → Res D := runS [0] 1 5 b_law_club
theorem ok_law_club (T : Txt K mg) (h_law_draw_2 : FnD P w K mg base 1 "_law_draw" 2 [] F_law_draw) {f : Addr} {fd : FuncData} (F : FunD K "_law_club" "_law_club" (defArgs s_law_club) (defBody s_law_club) (defScope s_law_club) [] [] f fd) : FnOk P w K mg base (L2.CX P w) 2 f fd P_law_club (spD ⟨K, mg⟩ P_law_club.length F_law_club) :=
  fnok_of (pr := [0]) F sc_law_club fun cdv A outer s H E hr => by
    have c := cf_of (P := P) (w := w) (K := K) (mg := mg) (base := base) (E := E) (H := H) (outer := outer) sc_law_club hr
    have po : ∀ i : Unit, PassesOwn (model ((fun _ : Unit => cxOf (L2.CX P w) P w K mg base N_law_club "_law_club" (defScope s_law_club) f cdv A outer s H E) i).prog ((fun _ : Unit => cxOf (L2.CX P w) P w K mg base N_law_club "_law_club" (defScope s_law_club) f cdv A outer s H E) i).w) ((fun _ : Unit => cxOf (L2.CX P w) P w K mg base N_law_club "_law_club" (defScope s_law_club) f cdv A outer s H E) i).A ((fun _ : Unit => cxOf (L2.CX P w) P w K mg base N_law_club "_law_club" (defScope s_law_club) f cdv A outer s H E) i).env ((fun _ : Unit => cxOf (L2.CX P w) P w K mg base N_law_club "_law_club" (defScope s_law_club) f cdv A outer s H E) i).xe := fun _ => passes_of rfl
    exact (ss_cons (sd_asg (fun i te tg he hg => ps_asg he hg) (ed_lst am_nil) (gd_name (i := 1) (fun j => pg_name (c.nd j) rfl (by first | exact Or.inl rfl | exact Or.inr rfl))))
  (ss_cons (sd_asg (fun i te tg he hg => ps_asg he hg) ed_int (gd_name (i := 2) (fun j => pg_name (c.nd j) rfl (by first | exact Or.inl rfl | exact Or.inr rfl))))
  (ss_cons (sd_for po c.calm (id_rg1 c (fun _ => by rfl) T.f_range (am_cons (ed_add c ed_int (ed_fn c (fun _ => h_law_draw_2) (by decide) (fun _ => by rfl) (am_mv 0 (fun _ => pv 0) (am_cons ed_int am_nil)) (al_cons (al_cons al_nil)))) am_nil)) (gd_name (i := 3) (fun j => pg_name (c.nd j) rfl (by first | exact Or.inl rfl | exact Or.inr rfl))) (ss_cons (sd_asg (fun i te tg he hg => ps_asg he hg) (ed_frz (ed_add c ed_int (ed_fn c (fun _ => h_law_draw_2) (by decide) (fun _ => by rfl) (am_mv 0 (fun _ => pv 0) (am_cons ed_int am_nil)) (al_cons (al_cons al_nil))))) (gd_name (i := 4) (fun j => pg_name (c.nd j) rfl (by first | exact Or.inl rfl | exact Or.inr rfl))))
  (ss_cons (sd_if (td_gt c (ed_mul c (ed_var 2 (fun _ => pv 2)) (ed_var 4 (fun _ => pv 4))) ed_int) (ss_one (sd_asg (fun i te tg he hg => ps_asg he hg) ed_int (gd_name (i := 4) (fun j => pg_name (c.nd j) rfl (by first | exact Or.inl rfl | exact Or.inr rfl))))) ss_nil)
  (ss_cons (sd_expr (ed_app 1 (fun _ => pv 1) (ed_var 4 (fun _ => pv 4)) c))
  (ss_one (sd_asg (fun i te tg he hg => ps_asg he hg) (ed_frz (ed_mul c (ed_var 2 (fun _ => pv 2)) (ed_var 4 (fun _ => pv 4)))) (gd_name (i := 2) (fun j => pg_name (c.nd j) rfl (by first | exact Or.inl rfl | exact Or.inr rfl)))))))))
  (ss_frz (i := 1) (ss_one (sd_ret (ed_tuple c (fun _ => by rfl) T.f_tuple (am_cons (ed_var 1 (fun _ => pv 1)) am_nil))))))))
abbrev s_law_rows : Stmt := top 31
abbrev N_law_rows : List Str := ["_law_club_here", "_law_found", "_law_sorts", "_law_longer", "_law_row", "_law_slip"]
abbrev P_law_rows : List Str := ["_law_club_here"]
theorem sc_law_rows : FnScope N_law_rows P_law_rows (defScope s_law_rows) := ⟨rfl, rfl, rfl, by decide +kernel, rfl, by decide +kernel, by decide +kernel⟩
def b_law_rows : SF := (sSeq (sAsg (eFrz (eLst (aCons (eTup aNil) aNil))) (gSet 1))
  (sSeq (sFor (iSeq (eVar 0)) (gSet 2) (sSeq (sAsg (eLst aNil) (gSet 3))
  (sSeq (sFor (iSeq (eVar 1)) (gSet 4) (sFor (iRg1 (aCons (eVar 2) aNil)) (gSet 5) (sDrop (eApp 3 (e2 addD (eVar 4) (eTup (aCons (eVar 5) aNil)))))))
  (sAsg (eFrz (eMove 3)) (gSet 1)))))
  (sRet (eVar 1))))
def F_law_rows : List D → Res D := runS [] 1 6 b_law_rows
theorem ok_law_rows (T : Txt K mg)  {f : Addr} {fd : FuncData} (F : FunD K "_law_rows" "_law_rows" (defArgs s_law_rows) (defBody s_law_rows) (defScope s_law_rows) [] [] f fd) : FnOk P w K mg base (L2.CX P w) 1 f fd P_law_rows (spD ⟨K, mg⟩ P_law_rows.length F_law_rows) :=
  fnok_of (pr := []) F sc_law_rows fun cdv A outer s H E hr => by
    have c := cf_of (P := P) (w := w) (K := K) (mg := mg) (base := base) (E := E) (H := H) (outer := outer) sc_law_rows hr
    have po : ∀ i : Unit, PassesOwn (model ((fun _ : Unit => cxOf (L2.CX P w) P w K mg base N_law_rows "_law_rows" (defScope s_law_rows) f cdv A outer s H E) i).prog ((fun _ : Unit => cxOf (L2.CX P w) P w K mg base N_law_rows "_law_rows" (defScope s_law_rows) f cdv A outer s H E) i).w) ((fun _ : Unit => cxOf (L2.CX P w) P w K mg base N_law_rows "_law_rows" (defScope s_law_rows) f cdv A outer s H E) i).A ((fun _ : Unit => cxOf (L2.CX P w) P w K mg base N_law_rows "_law_rows" (defScope s_law_rows) f cdv A outer s H E) i).env ((fun _ : Unit => cxOf (L2.CX P w) P w K mg base N_law_rows "_law_rows" (defScope s_law_rows) f cdv A outer s H E) i).xe := fun _ => passes_of rfl
    exact (ss_cons (sd_asg (fun i te tg he hg => ps_asg he hg) (ed_frz (ed_lst (am_cons (ed_tup am_nil) am_nil))) (gd_name (i := 1) (fun j => pg_name (c.nd j) rfl (by first | exact Or.inl rfl | exact Or.inr rfl))))
  (ss_cons (sd_for po c.calm (id_seq c (ed_var 0 (fun _ => pv 0))) (gd_name (i := 2) (fun j => pg_name (c.nd j) rfl (by first | exact Or.inl rfl | exact Or.inr rfl))) (ss_cons (sd_asg (fun i te tg he hg => ps_asg he hg) (ed_lst am_nil) (gd_name (i := 3) (fun j => pg_name (c.nd j) rfl (by first | exact Or.inl rfl | exact Or.inr rfl))))
  (ss_cons (sd_for po c.calm (id_seq c (ed_var 1 (fun _ => pv 1))) (gd_name (i := 4) (fun j => pg_name (c.nd j) rfl (by first | exact Or.inl rfl | exact Or.inr rfl))) (ss_one (sd_for po c.calm (id_rg1 c (fun _ => by rfl) T.f_range (am_cons (ed_var 2 (fun _ => pv 2)) am_nil)) (gd_name (i := 5) (fun j => pg_name (c.nd j) rfl (by first | exact Or.inl rfl | exact Or.inr rfl))) (ss_one (sd_expr (ed_app 3 (fun _ => pv 3) (ed_add c (ed_var 4 (fun _ => pv 4)) (ed_tup (am_cons (ed_var 5 (fun _ => pv 5)) am_nil))) c))))))
  (ss_one (sd_asg (fun i te tg he hg => ps_asg he hg) (ed_frz (ed_move 3 (fun _ => pv 3))) (gd_name (i := 1) (fun j => pg_name (c.nd j) rfl (by first | exact Or.inl rfl | exact Or.inr rfl))))))))
  (ss_one (sd_ret (ed_var 1 (fun _ => pv 1))))))
abbrev s_is_integer : Stmt := top 6
abbrev N_is_integer : List Str := ["thing"]
abbrev P_is_integer : List Str := ["thing"]
theorem sc_is_integer : FnScope N_is_integer P_is_integer (defScope s_is_integer) := ⟨rfl, rfl, rfl, by decide +kernel, rfl, by decide +kernel, by decide +kernel⟩
def b_is_integer : SF := (sRet (eAnd (eInst .int (eVar 0)) (eNot (eInst .bool (eVar 0)))))
def F_is_integer : List D → Res D := runS [] 1 1 b_is_integer
theorem ok_is_integer (T : Txt K mg)  {f : Addr} {fd : FuncData} (F : FunD K "is_integer" "is_integer" (defArgs s_is_integer) (defBody s_is_integer) (defScope s_is_integer) [] [] f fd) : FnOk P w K mg base (L2.CX P w) 1 f fd P_is_integer (spD ⟨K, mg⟩ P_is_integer.length F_is_integer) :=
  fnok_of (pr := []) F sc_is_integer fun cdv A outer s H E hr => by
    have c := cf_of (P := P) (w := w) (K := K) (mg := mg) (base := base) (E := E) (H := H) (outer := outer) sc_is_integer hr
    have po : ∀ i : Unit, PassesOwn (model ((fun _ : Unit => cxOf (L2.CX P w) P w K mg base N_is_integer "is_integer" (defScope s_is_integer) f cdv A outer s H E) i).prog ((fun _ : Unit => cxOf (L2.CX P w) P w K mg base N_is_integer "is_integer" (defScope s_is_integer) f cdv A outer s H E) i).w) ((fun _ : Unit => cxOf (L2.CX P w) P w K mg base N_is_integer "is_integer" (defScope s_is_integer) f cdv A outer s H E) i).A ((fun _ : Unit => cxOf (L2.CX P w) P w K mg base N_is_integer "is_integer" (defScope s_is_integer) f cdv A outer s H E) i).env ((fun _ : Unit => cxOf (L2.CX P w) P w K mg base N_is_integer "is_integer" (defScope s_is_integer) f cdv A outer s H E) i).xe := fun _ => passes_of rfl
    exact (ss_one (sd_ret (ed_and (ed_inst .int c (fun _ => by rfl) T.f_isinstance (fun _ => by rfl) T.f_int (by decide +kernel) (ed_var 0 (fun _ => pv 0))) (ed_one (ed_not (ed_inst .bool c (fun _ => by rfl) T.f_isinstance (fun _ => by rfl) T.f_bool (by decide +kernel) (ed_var 0 (fun _ => pv 0))))))))
abbrev s_is_within : Stmt := top 7
abbrev N_is_within : List Str := ["thing", "least", "most"]
abbrev P_is_within : List Str := ["thing", "least", "most"]
theorem sc_is_within : FnScope N_is_within P_is_within (defScope s_is_within) := ⟨rfl, rfl, rfl, by decide +kernel, rfl, by decide +kernel, by decide +kernel⟩
def b_is_within : SF := (sRet (eAnd (eCall F_is_integer (aCons (eVar 0) aNil) [] []) (eChain lebD lebD (eVar 1) (eVar 0) (eVar 2))))
def F_is_within : List D → Res D := runS [] 3 3 b_is_within
theorem ok_is_within (T : Txt K mg) (h_is_integer_1 : FnD P w K mg base 1 "is_integer" 1 [] F_is_integer) {f : Addr} {fd : FuncData} (F : FunD K "is_within" "is_within" (defArgs s_is_within) (defBody s_is_within) (defScope s_is_within) [] [] f fd) : FnOk P w K mg base (L2.CX P w) 2 f fd P_is_within (spD ⟨K, mg⟩ P_is_within.length F_is_within) :=
  fnok_of (pr := []) F sc_is_within fun cdv A outer s H E hr => by
    have c := cf_of (P := P) (w := w) (K := K) (mg := mg) (base := base) (E := E) (H := H) (outer := outer) sc_is_within hr
    have po : ∀ i : Unit, PassesOwn (model ((fun _ : Unit => cxOf (L2.CX P w) P w K mg base N_is_within "is_within" (defScope s_is_within) f cdv A outer s H E) i).prog ((fun _ : Unit => cxOf (L2.CX P w) P w K mg base N_is_within "is_within" (defScope s_is_within) f cdv A outer s H E) i).w) ((fun _ : Unit => cxOf (L2.CX P w) P w K mg base N_is_within "is_within" (defScope s_is_within) f cdv A outer s H E) i).A ((fun _ : Unit => cxOf (L2.CX P w) P w K mg base N_is_within "is_within" (defScope s_is_within) f cdv A outer s H E) i).env ((fun _ : Unit => cxOf (L2.CX P w) P w K mg base N_is_within "is_within" (defScope s_is_within) f cdv A outer s H E) i).xe := fun _ => passes_of rfl
    exact (ss_one (sd_ret (ed_and (ed_fn c (fun _ => h_is_integer_1) (by decide) (fun _ => by rfl) (am_cons (ed_var 0 (fun _ => pv 0)) am_nil) (al_cons al_nil)) (ed_one (ed_chain (fun _ => op_le) (fun _ => op_le) ops_le ops_le (ed_var 1 (fun _ => pv 1)) (ed_var 0 (fun _ => pv 0)) (ed_var 2 (fun _ => pv 2)))))))
abbrev s_is_many : Stmt := top 9
abbrev N_is_many : List Str := ["thing"]
abbrev P_is_many : List Str := ["thing"]
theorem sc_is_many : FnScope N_is_many P_is_many (defScope s_is_many) := ⟨rfl, rfl, rfl, by decide +kernel, rfl, by decide +kernel, by decide +kernel⟩
def b_is_many : SF := (sRet (eCall F_is_within (aCons (eVar 0) (aCons (eC (.int 1)) (aCons (eC (.int 8)) aNil))) [] []))
def F_is_many : List D → Res D := runS [] 1 1 b_is_many
theorem ok_is_many (T : Txt K mg) (h_is_within_3 : FnD P w K mg base 2 "is_within" 3 [] F_is_within) {f : Addr} {fd : FuncData} (F : FunD K "is_many" "is_many" (defArgs s_is_many) (defBody s_is_many) (defScope s_is_many) [] [] f fd) : FnOk P w K mg base (L2.CX P w) 3 f fd P_is_many (spD ⟨K, mg⟩ P_is_many.length F_is_many) :=
  fnok_of (pr := []) F sc_is_many fun cdv A outer s H E hr => by
    have c := cf_of (P := P) (w := w) (K := K) (mg := mg) (base := base) (E := E) (H := H) (outer := outer) sc_is_many hr
    have po : ∀ i : Unit, PassesOwn (model ((fun _ : Unit => cxOf (L2.CX P w) P w K mg base N_is_many "is_many" (defScope s_is_many) f cdv A outer s H E) i).prog ((fun _ : Unit => cxOf (L2.CX P w) P w K mg base N_is_many "is_many" (defScope s_is_many) f cdv A outer s H E) i).w) ((fun _ : Unit => cxOf (L2.CX P w) P w K mg base N_is_many "is_many" (defScope s_is_many) f cdv A outer s H E) i).A ((fun _ : Unit => cxOf (L2.CX P w) P w K mg base N_is_many "is_many" (defScope s_is_many) f cdv A outer s H E) i).env ((fun _ : Unit => cxOf (L2.CX P w) P w K mg base N_is_many "is_many" (defScope s_is_many) f cdv A outer s H E) i).xe := fun _ => passes_of rfl
    exact (ss_one (sd_ret (ed_fn c (fun _ => h_is_within_3) (by decide) (fun _ => by rfl) (am_cons (ed_var 0 (fun _ => pv 0)) (am_cons ed_int (am_cons (ed_gint c T.i_MOST_MEMBERS (fun _ => by rfl)) am_nil))) (al_cons (al_cons (al_cons al_nil))))))
abbrev s_size_of : Stmt := top 13
abbrev N_size_of : List Str := ["club", "found", "sorts"]
abbrev P_size_of : List Str := ["club"]
theorem sc_size_of : FnScope N_size_of P_size_of (defScope s_size_of) := ⟨rfl, rfl, rfl, by decide +kernel, rfl, by decide +kernel, by decide +kernel⟩
def b_size_of : SF := (sSeq (sAsg (eC (.int 1)) (gSet 1))
  (sSeq (sFor (iSeq (eVar 0)) (gSet 2) (sAug 1 mulI (eVar 2)))
  (sRet (eVar 1))))
def F_size_of : List D → Res D := runS [] 1 3 b_size_of
theorem ok_size_of (T : Txt K mg)  {f : Addr} {fd : FuncData} (F : FunD K "size_of" "size_of" (defArgs s_size_of) (defBody s_size_of) (defScope s_size_of) [] [] f fd) : FnOk P w K mg base (L2.CX P w) 1 f fd P_size_of (spD ⟨K, mg⟩ P_size_of.length F_size_of) :=
  fnok_of (pr := []) F sc_size_of fun cdv A outer s H E hr => by
    have c := cf_of (P := P) (w := w) (K := K) (mg := mg) (base := base) (E := E) (H := H) (outer := outer) sc_size_of hr
    have po : ∀ i : Unit, PassesOwn (model ((fun _ : Unit => cxOf (L2.CX P w) P w K mg base N_size_of "size_of" (defScope s_size_of) f cdv A outer s H E) i).prog ((fun _ : Unit => cxOf (L2.CX P w) P w K mg base N_size_of "size_of" (defScope s_size_of) f cdv A outer s H E) i).w) ((fun _ : Unit => cxOf (L2.CX P w) P w K mg base N_size_of "size_of" (defScope s_size_of) f cdv A outer s H E) i).A ((fun _ : Unit => cxOf (L2.CX P w) P w K mg base N_size_of "size_of" (defScope s_size_of) f cdv A outer s H E) i).env ((fun _ : Unit => cxOf (L2.CX P w) P w K mg base N_size_of "size_of" (defScope s_size_of) f cdv A outer s H E) i).xe := fun _ => passes_of rfl
    exact (ss_cons (sd_asg (fun i te tg he hg => ps_asg he hg) ed_int (gd_name (i := 1) (fun j => pg_name (c.nd j) rfl (by first | exact Or.inl rfl | exact Or.inr rfl))))
  (ss_cons (sd_for po c.calm (id_seq c (ed_var 0 (fun _ => pv 0))) (gd_name (i := 2) (fun j => pg_name (c.nd j) rfl (by first | exact Or.inl rfl | exact Or.inr rfl))) (ss_one (sd_augM c.nd (fun _ => rfl) (fun _ => by first | exact Or.inl rfl | exact Or.inr rfl) (fun _ => by first | exact Or.inl rfl | exact Or.inr rfl) (by decide) (ed_var 2 (fun _ => pv 2)))))
  (ss_one (sd_ret (ed_var 1 (fun _ => pv 1))))))
abbrev s_is_club : Stmt := top 14
abbrev N_is_club : List Str := ["thing", "sorts"]
abbrev P_is_club : List Str := ["thing"]
theorem sc_is_club : FnScope N_is_club P_is_club (defScope s_is_club) := ⟨rfl, rfl, rfl, by decide +kernel, rfl, by decide +kernel, by decide +kernel⟩
def b_is_club : SF := (sSeq (sIf (mOr (mNot (eB (eInst .tuple (eVar 0)))) (mNot (eB (eCall F_is_many (aCons (eBi lenD (aCons (eVar 0) aNil)) aNil) [] [])))) (sRet (eC (.bl false))) sNext)
  (sRet (eAnd (eBi allD (aCons (eLcL 2 (iSeq (eVar 0)) (gSet 1) mYes (eFrz (eCall F_is_within (aCons (eVar 1) (aCons (eC (.int 1)) (aCons (eC (.int 4)) aNil))) [] [])) [1]) aNil)) (e2 lebD (eCall F_size_of (aCons (eVar 0) aNil) [] []) (eC (.int 256))))))
def F_is_club : List D → Res D := runS [] 1 2 b_is_club
theorem ok_is_club (T : Txt K mg) (h_is_many_1 : FnD P w K mg base 3 "is_many" 1 [] F_is_many) (h_size_of_1 : FnD P w K mg base 1 "size_of" 1 [] F_size_of) (h_is_within_3 : FnD P w K mg base 2 "is_within" 3 [] F_is_within) {f : Addr} {fd : FuncData} (F : FunD K "is_club" "is_club" (defArgs s_is_club) (defBody s_is_club) (defScope s_is_club) [] [] f fd) : FnOk P w K mg base (L2.CX P w) 4 f fd P_is_club (spD ⟨K, mg⟩ P_is_club.length F_is_club) :=
  fnok_of (pr := []) F sc_is_club fun cdv A outer s H E hr => by
    have c := cf_of (P := P) (w := w) (K := K) (mg := mg) (base := base) (E := E) (H := H) (outer := outer) sc_is_club hr
    have po : ∀ i : Unit, PassesOwn (model ((fun _ : Unit => cxOf (L2.CX P w) P w K mg base N_is_club "is_club" (defScope s_is_club) f cdv A outer s H E) i).prog ((fun _ : Unit => cxOf (L2.CX P w) P w K mg base N_is_club "is_club" (defScope s_is_club) f cdv A outer s H E) i).w) ((fun _ : Unit => cxOf (L2.CX P w) P w K mg base N_is_club "is_club" (defScope s_is_club) f cdv A outer s H E) i).A ((fun _ : Unit => cxOf (L2.CX P w) P w K mg base N_is_club "is_club" (defScope s_is_club) f cdv A outer s H E) i).env ((fun _ : Unit => cxOf (L2.CX P w) P w K mg base N_is_club "is_club" (defScope s_is_club) f cdv A outer s H E) i).xe := fun _ => passes_of rfl
    exact (ss_cons (sd_if (td_of (wd_or (td_not (td_val (ed_inst .tuple c (fun _ => by rfl) T.f_isinstance (fun _ => by rfl) T.f_tuple (by decide +kernel) (ed_var 0 (fun _ => pv 0))))) (wd_or1 (td_not (td_val (ed_fn c (fun _ => h_is_many_1) (by decide) (fun _ => by rfl) (am_cons (ed_len c (fun _ => by rfl) T.f_len (am_cons (ed_var 0 (fun _ => pv 0)) am_nil)) am_nil) (al_cons al_nil))))))) (ss_one (sd_ret ed_bl)) ss_nil)
  (ss_one (sd_ret (ed_and (ed_all c (fun _ => by rfl) T.f_all (am_cons (ed_lc (own := [("sorts", 1)]) 2 c.calm c.nd (id_seq c (ed_var 0 (fun _ => pv 0))) (fun _ => blkOk_by (by kernel_rfl)) (gd_name (i := 1) (fun j => pg_name ((c.blk _).nd j) rfl (by first | exact Or.inl rfl | exact Or.inr rfl))) ld_nil (ed_frz (ed_fn (c.blk _) (fun _ => h_is_within_3) (by decide) (fun _ => by rfl) (am_cons (ed_var 1 (fun _ => pv 1)) (am_cons ed_int (am_cons (ed_gint (c.blk _) T.i_MOST_SORTS (fun _ => by rfl)) am_nil))) (al_cons (al_cons (al_cons al_nil)))))) am_nil)) (ed_one (ed_le c (ed_fn c (fun _ => h_size_of_1) (by decide) (fun _ => by rfl) (am_cons (ed_var 0 (fun _ => pv 0)) am_nil) (al_cons al_nil)) (ed_gint c T.i_MOST_ROWS (fun _ => by rfl))))))))
abbrev s_check_club : Stmt := top 15
abbrev N_check_club : List Str := ["club"]
abbrev P_check_club : List Str := ["club"]
theorem sc_check_club : FnScope N_check_club P_check_club (defScope s_check_club) := ⟨rfl, rfl, rfl, by decide +kernel, rfl, by decide +kernel, by decide +kernel⟩
def b_check_club : SF := (sIf (mNot (eB (eCall F_is_club (aCons (eVar 0) aNil) [] []))) (sRaise "NoClub") sNext)
def F_check_club : List D → Res D := runS [] 1 1 b_check_club
theorem ok_check_club (T : Txt K mg) (h_is_club_1 : FnD P w K mg base 4 "is_club" 1 [] F_is_club) {f : Addr} {fd : FuncData} (F : FunD K "check_club" "check_club" (defArgs s_check_club) (defBody s_check_club) (defScope s_check_club) [] [] f fd) : FnOk P w K mg base (L2.CX P w) 5 f fd P_check_club (spD ⟨K, mg⟩ P_check_club.length F_check_club) :=
  fnok_of (pr := []) F sc_check_club fun cdv A outer s H E hr => by
    have c := cf_of (P := P) (w := w) (K := K) (mg := mg) (base := base) (E := E) (H := H) (outer := outer) sc_check_club hr
    have po : ∀ i : Unit, PassesOwn (model ((fun _ : Unit => cxOf (L2.CX P w) P w K mg base N_check_club "check_club" (defScope s_check_club) f cdv A outer s H E) i).prog ((fun _ : Unit => cxOf (L2.CX P w) P w K mg base N_check_club "check_club" (defScope s_check_club) f cdv A outer s H E) i).w) ((fun _ : Unit => cxOf (L2.CX P w) P w K mg base N_check_club "check_club" (defScope s_check_club) f cdv A outer s H E) i).A ((fun _ : Unit => cxOf (L2.CX P w) P w K mg base N_check_club "check_club" (defScope s_check_club) f cdv A outer s H E) i).env ((fun _ : Unit => cxOf (L2.CX P w) P w K mg base N_check_club "check_club" (defScope s_check_club) f cdv A outer s H E) i).xe := fun _ => passes_of rfl
    exact (ss_one (sd_if (td_not (td_val (ed_fn c (fun _ => h_is_club_1) (by decide) (fun _ => by rfl) (am_cons (ed_var 0 (fun _ => pv 0)) am_nil) (al_cons al_nil)))) (ss_one (sd_raise0 c T.x_NoClub (fun _ => by rfl))) ss_nil))
abbrev s_slips_of : Stmt := top 20
abbrev N_slips_of : List Str := ["club", "number", "found", "sorts"]
abbrev P_slips_of : List Str := ["club", "number"]
theorem sc_slips_of : FnScope N_slips_of P_slips_of (defScope s_slips_of) := ⟨rfl, rfl, rfl, by decide +kernel, rfl, by decide +kernel, by decide +kernel⟩
def b_slips_of : SF := (sSeq (sAsg (eLst aNil) (gSet 2))
  (sSeq (sFor (iRevD (eVar 0)) (gSet 3) (sSeq (sDrop (eApp 2 (e2 modD (eVar 1) (eVar 3))))
  (sAsg (e2 fdivD (eVar 1) (eVar 3)) (gSet 1))))
  (sFrz 2 (sRet (eTupRev (eVar 2))))))
def F_slips_of : List D → Res D := runS [] 2 4 b_slips_of
theorem ok_slips_of (T : Txt K mg)  {f : Addr} {fd : FuncData} (F : FunD K "slips_of" "slips_of" (defArgs s_slips_of) (defBody s_slips_of) (defScope s_slips_of) [] [] f fd) : FnOk P w K mg base (L2.CX P w) 1 f fd P_slips_of (spD ⟨K, mg⟩ P_slips_of.length F_slips_of) :=
  fnok_of (pr := []) F sc_slips_of fun cdv A outer s H E hr => by
    have c := cf_of (P := P) (w := w) (K := K) (mg := mg) (base := base) (E := E) (H := H) (outer := outer) sc_slips_of hr
    have po : ∀ i : Unit, PassesOwn (model ((fun _ : Unit => cxOf (L2.CX P w) P w K mg base N_slips_of "slips_of" (defScope s_slips_of) f cdv A outer s H E) i).prog ((fun _ : Unit => cxOf (L2.CX P w) P w K mg base N_slips_of "slips_of" (defScope s_slips_of) f cdv A outer s H E) i).w) ((fun _ : Unit => cxOf (L2.CX P w) P w K mg base N_slips_of "slips_of" (defScope s_slips_of) f cdv A outer s H E) i).A ((fun _ : Unit => cxOf (L2.CX P w) P w K mg base N_slips_of "slips_of" (defScope s_slips_of) f cdv A outer s H E) i).env ((fun _ : Unit => cxOf (L2.CX P w) P w K mg base N_slips_of "slips_of" (defScope s_slips_of) f cdv A outer s H E) i).xe := fun _ => passes_of rfl
    exact (ss_cons (sd_asg (fun i te tg he hg => ps_asg he hg) (ed_lst am_nil) (gd_name (i := 2) (fun j => pg_name (c.nd j) rfl (by first | exact Or.inl rfl | exact Or.inr rfl))))
  (ss_cons (sd_for po c.calm (id_rev c (fun _ => by rfl) T.f_reversed (ed_var 0 (fun _ => pv 0))) (gd_name (i := 3) (fun j => pg_name (c.nd j) rfl (by first | exact Or.inl rfl | exact Or.inr rfl))) (ss_cons (sd_expr (ed_app 2 (fun _ => pv 2) (ed_mod c (ed_var 1 (fun _ => pv 1)) (ed_var 3 (fun _ => pv 3))) c))
  (ss_one (sd_asg (fun i te tg he hg => ps_asg he hg) (ed_fdiv c (ed_var 1 (fun _ => pv 1)) (ed_var 3 (fun _ => pv 3))) (gd_name (i := 1) (fun j => pg_name (c.nd j) rfl (by first | exact Or.inl rfl | exact Or.inr rfl)))))))
  (ss_frz (i := 2) (ss_one (sd_ret (ed_tupRev c (fun _ => by rfl) T.f_tuple (fun _ => by rfl) T.f_reversed (ed_var 2 (fun _ => pv 2))))))))
abbrev s_all_rows : Stmt := top 21
abbrev N_all_rows : List Str := ["club", "number"]
abbrev P_all_rows : List Str := ["club"]
theorem sc_all_rows : FnScope N_all_rows P_all_rows (defScope s_all_rows) := ⟨rfl, rfl, rfl, by decide +kernel, rfl, by decide +kernel, by decide +kernel⟩
def b_all_rows : SF := (sRet (eLcL 2 (iRg1 (aCons (eCall F_size_of (aCons (eVar 0) aNil) [] []) aNil)) (gSet 1) mYes (eFrz (eCall F_slips_of (aCons (eVar 0) (aCons (eVar 1) aNil)) [] [])) [1]))
def F_all_rows : List D → Res D := runS [] 1 2 b_all_rows
theorem ok_all_rows (T : Txt K mg) (h_size_of_1 : FnD P w K mg base 1 "size_of" 1 [] F_size_of) (h_slips_of_2 : FnD P w K mg base 1 "slips_of" 2 [] F_slips_of) {f : Addr} {fd : FuncData} (F : FunD K "all_rows" "all_rows" (defArgs s_all_rows) (defBody s_all_rows) (defScope s_all_rows) [] [] f fd) : FnOk P w K mg base (L2.CX P w) 2 f fd P_all_rows (spD ⟨K, mg⟩ P_all_rows.length F_all_rows) :=
  fnok_of (pr := []) F sc_all_rows fun cdv A outer s H E hr => by
    have c := cf_of (P := P) (w := w) (K := K) (mg := mg) (base := base) (E := E) (H := H) (outer := outer) sc_all_rows hr
    have po : ∀ i : Unit, PassesOwn (model ((fun _ : Unit => cxOf (L2.CX P w) P w K mg base N_all_rows "all_rows" (defScope s_all_rows) f cdv A outer s H E) i).prog ((fun _ : Unit => cxOf (L2.CX P w) P w K mg base N_all_rows "all_rows" (defScope s_all_rows) f cdv A outer s H E) i).w) ((fun _ : Unit => cxOf (L2.CX P w) P w K mg base N_all_rows "all_rows" (defScope s_all_rows) f cdv A outer s H E) i).A ((fun _ : Unit => cxOf (L2.CX P w) P w K mg base N_all_rows "all_rows" (defScope s_all_rows) f cdv A outer s H E) i).env ((fun _ : Unit => cxOf (L2.CX P w) P w K mg base N_all_rows "all_rows" (defScope s_all_rows) f cdv A outer s H E) i).xe := fun _ => passes_of rfl
    exact (ss_one (sd_ret (ed_lc (own := [("number", 1)]) 2 c.calm c.nd (id_rg1 c (fun _ => by rfl) T.f_range (am_cons (ed_fn c (fun _ => h_size_of_1) (by decide) (fun _ => by rfl) (am_cons (ed_var 0 (fun _ => pv 0)) am_nil) (al_cons al_nil)) am_nil)) (fun _ => blkOk_by (by kernel_rfl)) (gd_name (i := 1) (fun j => pg_name ((c.blk _).nd j) rfl (by first | exact Or.inl rfl | exact Or.inr rfl))) ld_nil (ed_frz (ed_fn (c.blk _) (fun _ => h_slips_of_2) (by decide) (fun _ => by rfl) (am_cons (ed_var 0 (fun _ => pv 0)) (am_cons (ed_var 1 (fun _ => pv 1)) am_nil)) (al_cons (al_cons al_nil)))))))
abbrev s_rows : Stmt := top 22
abbrev N_rows : List Str := ["club"]
abbrev P_rows : List Str := ["club"]
theorem sc_rows : FnScope N_rows P_rows (defScope s_rows) := ⟨rfl, rfl, rfl, by decide +kernel, rfl, by decide +kernel, by decide +kernel⟩
def b_rows : SF := (sSeq (sDrop (eCall F_check_club (aCons (eVar 0) aNil) [] []))
  (sRet (eCall F_all_rows (aCons (eVar 0) aNil) [] [])))
def F_rows : List D → Res D := runS [] 1 1 b_rows
theorem ok_rows (T : Txt K mg) (h_check_club_1 : FnD P w K mg base 5 "check_club" 1 [] F_check_club) (h_all_rows_1 : FnD P w K mg base 2 "all_rows" 1 [] F_all_rows) {f : Addr} {fd : FuncData} (F : FunD K "rows" "rows" (defArgs s_rows) (defBody s_rows) (defScope s_rows) [] [] f fd) : FnOk P w K mg base (L2.CX P w) 6 f fd P_rows (spD ⟨K, mg⟩ P_rows.length F_rows) :=
  fnok_of (pr := []) F sc_rows fun cdv A outer s H E hr => by
    have c := cf_of (P := P) (w := w) (K := K) (mg := mg) (base := base) (E := E) (H := H) (outer := outer) sc_rows hr
    have po : ∀ i : Unit, PassesOwn (model ((fun _ : Unit => cxOf (L2.CX P w) P w K mg base N_rows "rows" (defScope s_rows) f cdv A outer s H E) i).prog ((fun _ : Unit => cxOf (L2.CX P w) P w K mg base N_rows "rows" (defScope s_rows) f cdv A outer s H E) i).w) ((fun _ : Unit => cxOf (L2.CX P w) P w K mg base N_rows "rows" (defScope s_rows) f cdv A outer s H E) i).A ((fun _ : Unit => cxOf (L2.CX P w) P w K mg base N_rows "rows" (defScope s_rows) f cdv A outer s H E) i).env ((fun _ : Unit => cxOf (L2.CX P w) P w K mg base N_rows "rows" (defScope s_rows) f cdv A outer s H E) i).xe := fun _ => passes_of rfl
    exact (ss_cons (sd_expr (ed_fn c (fun _ => h_check_club_1) (by decide) (fun _ => by rfl) (am_cons (ed_var 0 (fun _ => pv 0)) am_nil) (al_cons al_nil)))
  (ss_one (sd_ret (ed_fn c (fun _ => h_all_rows_1) (by decide) (fun _ => by rfl) (am_cons (ed_var 0 (fun _ => pv 0)) am_nil) (al_cons al_nil)))))
abbrev s_law_integer : Stmt := top 29
abbrev N_law_integer : List Str := ["_law_thing"]
abbrev P_law_integer : List Str := ["_law_thing"]
theorem sc_law_integer : FnScope N_law_integer P_law_integer (defScope s_law_integer) := ⟨rfl, rfl, rfl, by decide +kernel, rfl, by decide +kernel, by decide +kernel⟩
def b_law_integer : SF := (sRet (eAnd (eInst .int (eVar 0)) (eNot (eInst .bool (eVar 0)))))
def F_law_integer : List D → Res D := runS [] 1 1 b_law_integer
theorem ok_law_integer (T : Txt K mg)  {f : Addr} {fd : FuncData} (F : FunD K "_law_integer" "_law_integer" (defArgs s_law_integer) (defBody s_law_integer) (defScope s_law_integer) [] [] f fd) : FnOk P w K mg base (L2.CX P w) 1 f fd P_law_integer (spD ⟨K, mg⟩ P_law_integer.length F_law_integer) :=
  fnok_of (pr := []) F sc_law_integer fun cdv A outer s H E hr => by
    have c := cf_of (P := P) (w := w) (K := K) (mg := mg) (base := base) (E := E) (H := H) (outer := outer) sc_law_integer hr
    have po : ∀ i : Unit, PassesOwn (model ((fun _ : Unit => cxOf (L2.CX P w) P w K mg base N_law_integer "_law_integer" (defScope s_law_integer) f cdv A outer s H E) i).prog ((fun _ : Unit => cxOf (L2.CX P w) P w K mg base N_law_integer "_law_integer" (defScope s_law_integer) f cdv A outer s H E) i).w) ((fun _ : Unit => cxOf (L2.CX P w) P w K mg base N_law_integer "_law_integer" (defScope s_law_integer) f cdv A outer s H E) i).A ((fun _ : Unit => cxOf (L2.CX P w) P w K mg base N_law_integer "_law_integer" (defScope s_law_integer) f cdv A outer s H E) i).env ((fun _ : Unit => cxOf (L2.CX P w) P w K mg base N_law_integer "_law_integer" (defScope s_law_integer) f cdv A outer s H E) i).xe := fun _ => passes_of rfl
    exact (ss_one (sd_ret (ed_and (ed_inst .int c (fun _ => by rfl) T.f_isinstance (fun _ => by rfl) T.f_int (by decide +kernel) (ed_var 0 (fun _ => pv 0))) (ed_one (ed_not (ed_inst .bool c (fun _ => by rfl) T.f_isinstance (fun _ => by rfl) T.f_bool (by decide +kernel) (ed_var 0 (fun _ => pv 0))))))))
abbrev s_law_is_table : Stmt := top 32
abbrev N_law_is_table : List Str := ["_law_told", "_law_due", "_law_row", "_law_slip"]
abbrev P_law_is_table : List Str := ["_law_told", "_law_due"]
theorem sc_law_is_table : FnScope N_law_is_table P_law_is_table (defScope s_law_is_table) := ⟨rfl, rfl, rfl, by decide +kernel, rfl, by decide +kernel, by decide +kernel⟩
def b_law_is_table : SF := (sSeq (sIf (mOr (mNot (eB (eInst .list (eVar 0)))) (eB (e2 neD (eVar 0) (eVar 1)))) (sRet (eC (.bl false))) sNext)
  (sRet (eBi allD (aCons (eLcL 4 (iSeq (eVar 0)) (gSet 2) mYes (eFrz (eAnd (eInst .tuple (eVar 2)) (eBi allD (aCons (eLcL 4 (iSeq (eVar 2)) (gSet 3) mYes (eFrz (eCall F_law_integer (aCons (eVar 3) aNil) [] [])) [3]) aNil)))) [2]) aNil))))
def F_law_is_table : List D → Res D := runS [] 2 4 b_law_is_table
theorem ok_law_is_table (T : Txt K mg) (h_law_integer_1 : FnD P w K mg base 1 "_law_integer" 1 [] F_law_integer) {f : Addr} {fd : FuncData} (F : FunD K "_law_is_table" "_law_is_table" (defArgs s_law_is_table) (defBody s_law_is_table) (defScope s_law_is_table) [] [] f fd) : FnOk P w K mg base (L2.CX P w) 2 f fd P_law_is_table (spD ⟨K, mg⟩ P_law_is_table.length F_law_is_table) :=
  fnok_of (pr := []) F sc_law_is_table fun cdv A outer s H E hr => by
    have c := cf_of (P := P) (w := w) (K := K) (mg := mg) (base := base) (E := E) (H := H) (outer := outer) sc_law_is_table hr
    have po : ∀ i : Unit, PassesOwn (model ((fun _ : Unit => cxOf (L2.CX P w) P w K mg base N_law_is_table "_law_is_table" (defScope s_law_is_table) f cdv A outer s H E) i).prog ((fun _ : Unit => cxOf (L2.CX P w) P w K mg base N_law_is_table "_law_is_table" (defScope s_law_is_table) f cdv A outer s H E) i).w) ((fun _ : Unit => cxOf (L2.CX P w) P w K mg base N_law_is_table "_law_is_table" (defScope s_law_is_table) f cdv A outer s H E) i).A ((fun _ : Unit => cxOf (L2.CX P w) P w K mg base N_law_is_table "_law_is_table" (defScope s_law_is_table) f cdv A outer s H E) i).env ((fun _ : Unit => cxOf (L2.CX P w) P w K mg base N_law_is_table "_law_is_table" (defScope s_law_is_table) f cdv A outer s H E) i).xe := fun _ => passes_of rfl
    exact (ss_cons (sd_if (td_of (wd_or (td_not (td_val (ed_inst .list c (fun _ => by rfl) T.f_isinstance (fun _ => by rfl) T.f_list (by decide +kernel) (ed_var 0 (fun _ => pv 0))))) (wd_or1 (td_ne c (ed_var 0 (fun _ => pv 0)) (ed_var 1 (fun _ => pv 1)))))) (ss_one (sd_ret ed_bl)) ss_nil)
  (ss_one (sd_ret (ed_all c (fun _ => by rfl) T.f_all (am_cons (ed_lc (own := [("_law_row", 2)]) 4 c.calm c.nd (id_seq c (ed_var 0 (fun _ => pv 0))) (fun _ => blkOk_by (by kernel_rfl)) (gd_name (i := 2) (fun j => pg_name ((c.blk _).nd j) rfl (by first | exact Or.inl rfl | exact Or.inr rfl))) ld_nil (ed_frz (ed_and (ed_inst .tuple (c.blk _) (fun _ => by rfl) T.f_isinstance (fun _ => by rfl) T.f_tuple (by decide +kernel) (ed_var 2 (fun _ => pv 2))) (ed_one (ed_all (c.blk _) (fun _ => by rfl) T.f_all (am_cons (ed_lc (own := [("_law_slip", 3)]) 4 (c.blk _).calm (c.blk _).nd (id_seq (c.blk _) (ed_var 2 (fun _ => pv 2))) (fun _ => blkOk_by (by kernel_rfl)) (gd_name (i := 3) (fun j => pg_name (((c.blk _).blk _).nd j) rfl (by first | exact Or.inl rfl | exact Or.inr rfl))) ld_nil (ed_frz (ed_fn ((c.blk _).blk _) (fun _ => h_law_integer_1) (by decide) (fun _ => by rfl) (am_cons (ed_var 3 (fun _ => pv 3)) am_nil) (al_cons al_nil)))) am_nil)))))) am_nil)))))
abbrev s_place_of : Stmt := top 19
abbrev N_place_of : List Str := ["club", "row", "found", "slip", "sorts"]
abbrev P_place_of : List Str := ["club", "row"]
theorem sc_place_of : FnScope N_place_of P_place_of (defScope s_place_of) := ⟨rfl, rfl, rfl, by decide +kernel, rfl, by decide +kernel, by decide +kernel⟩
def b_place_of : SF := (sSeq (sAsg (eC (.int 0)) (gSet 2))
  (sSeq (sFor (iZipD (aCons (eVar 1) (aCons (eVar 0) aNil))) (gTupD 2 (gsCons (gSet 3) (gsCons (gSet 4) gsNil))) (sAsg (eFrz (e2 addD (e2 mulD (eVar 2) (eVar 4)) (eVar 3))) (gSet 2)))
  (sRet (eVar 2))))
def F_place_of : List D → Res D := runS [] 2 5 b_place_of
theorem ok_place_of (T : Txt K mg)  {f : Addr} {fd : FuncData} (F : FunD K "place_of" "place_of" (defArgs s_place_of) (defBody s_place_of) (defScope s_place_of) [] [] f fd) : FnOk P w K mg base (L2.CX P w) 1 f fd P_place_of (spD ⟨K, mg⟩ P_place_of.length F_place_of) :=
  fnok_of (pr := []) F sc_place_of fun cdv A outer s H E hr => by
    have c := cf_of (P := P) (w := w) (K := K) (mg := mg) (base := base) (E := E) (H := H) (outer := outer) sc_place_of hr
    have po : ∀ i : Unit, PassesOwn (model ((fun _ : Unit => cxOf (L2.CX P w) P w K mg base N_place_of "place_of" (defScope s_place_of) f cdv A outer s H E) i).prog ((fun _ : Unit => cxOf (L2.CX P w) P w K mg base N_place_of "place_of" (defScope s_place_of) f cdv A outer s H E) i).w) ((fun _ : Unit => cxOf (L2.CX P w) P w K mg base N_place_of "place_of" (defScope s_place_of) f cdv A outer s H E) i).A ((fun _ : Unit => cxOf (L2.CX P w) P w K mg base N_place_of "place_of" (defScope s_place_of) f cdv A outer s H E) i).env ((fun _ : Unit => cxOf (L2.CX P w) P w K mg base N_place_of "place_of" (defScope s_place_of) f cdv A outer s H E) i).xe := fun _ => passes_of rfl
    exact (ss_cons (sd_asg (fun i te tg he hg => ps_asg he hg) ed_int (gd_name (i := 2) (fun j => pg_name (c.nd j) rfl (by first | exact Or.inl rfl | exact Or.inr rfl))))
  (ss_cons (sd_for po c.calm (id_zip c (fun _ => by rfl) T.f_zip (am_cons (ed_var 1 (fun _ => pv 1)) (am_cons (ed_var 0 (fun _ => pv 0)) am_nil))) (gd_tup (n := 2) (t := gNil) (fun i t h => by rw [← c.kk i]; exact pg_tup (c.calm i) h) (gds_cons (gd_name (i := 3) (fun j => pg_name (c.nd j) rfl (by first | exact Or.inl rfl | exact Or.inr rfl))) (gds_cons (gd_name (i := 4) (fun j => pg_name (c.nd j) rfl (by first | exact Or.inl rfl | exact Or.inr rfl))) gds_nil))) (ss_one (sd_asg (fun i te tg he hg => ps_asg he hg) (ed_frz (ed_add c (ed_mul c (ed_var 2 (fun _ => pv 2)) (ed_var 4 (fun _ => pv 4))) (ed_var 3 (fun _ => pv 3)))) (gd_name (i := 2) (fun j => pg_name (c.nd j) rfl (by first | exact Or.inl rfl | exact Or.inr rfl))))))
  (ss_one (sd_ret (ed_var 2 (fun _ => pv 2))))))
abbrev s_is_table : Stmt := top 8
abbrev N_is_table : List Str := ["thing", "size"]
abbrev P_is_table : List Str := ["thing", "size"]
theorem sc_is_table : FnScope N_is_table P_is_table (defScope s_is_table) := ⟨rfl, rfl, rfl, by decide +kernel, rfl, by decide +kernel, by decide +kernel⟩
def b_is_table : SF := (sRet (eAnd (eInst .tuple (eVar 0)) (e2 eqD (eBi lenD (aCons (eVar 0) aNil)) (eVar 1))))
def F_is_table : List D → Res D := runS [] 2 2 b_is_table
theorem ok_is_table (T : Txt K mg)  {f : Addr} {fd : FuncData} (F : FunD K "is_table" "is_table" (defArgs s_is_table) (defBody s_is_table) (defScope s_is_table) [] [] f fd) : FnOk P w K mg base (L2.CX P w) 1 f fd P_is_table (spD ⟨K, mg⟩ P_is_table.length F_is_table) :=
  fnok_of (pr := []) F sc_is_table fun cdv A outer s H E hr => by
    have c := cf_of (P := P) (w := w) (K := K) (mg := mg) (base := base) (E := E) (H := H) (outer := outer) sc_is_table hr
    have po : ∀ i : Unit, PassesOwn (model ((fun _ : Unit => cxOf (L2.CX P w) P w K mg base N_is_table "is_table" (defScope s_is_table) f cdv A outer s H E) i).prog ((fun _ : Unit => cxOf (L2.CX P w) P w K mg base N_is_table "is_table" (defScope s_is_table) f cdv A outer s H E) i).w) ((fun _ : Unit => cxOf (L2.CX P w) P w K mg base N_is_table "is_table" (defScope s_is_table) f cdv A outer s H E) i).A ((fun _ : Unit => cxOf (L2.CX P w) P w K mg base N_is_table "is_table" (defScope s_is_table) f cdv A outer s H E) i).env ((fun _ : Unit => cxOf (L2.CX P w) P w K mg base N_is_table "is_table" (defScope s_is_table) f cdv A outer s H E) i).xe := fun _ => passes_of rfl
    exact (ss_one (sd_ret (ed_and (ed_inst .tuple c (fun _ => by rfl) T.f_isinstance (fun _ => by rfl) T.f_tuple (by decide +kernel) (ed_var 0 (fun _ => pv 0))) (ed_one (ed_eq c (ed_len c (fun _ => by rfl) T.f_len (am_cons (ed_var 0 (fun _ => pv 0)) am_nil)) (ed_var 1 (fun _ => pv 1)))))))
abbrev s_is_row : Stmt := top 16
abbrev N_is_row : List Str := ["club", "thing", "slip", "sorts"]
abbrev P_is_row : List Str := ["club", "thing"]
theorem sc_is_row : FnScope N_is_row P_is_row (defScope s_is_row) := ⟨rfl, rfl, rfl, by decide +kernel, rfl, by decide +kernel, by decide +kernel⟩
def b_is_row : SF := (sRet (eAnd (eCall F_is_table (aCons (eVar 1) (aCons (eBi lenD (aCons (eVar 0) aNil)) aNil)) [] []) (eBi allD (aCons (eLcL 4 (iZipD (aCons (eVar 1) (aCons (eVar 0) aNil))) (gTupD 2 (gsCons (gSet 2) (gsCons (gSet 3) gsNil))) mYes (eFrz (eCall F_is_within (aCons (eVar 2) (aCons (eC (.int 0)) (aCons (e2 subD (eVar 3) (eC (.int 1))) aNil))) [] [])) [2, 3]) aNil))))
def F_is_row : List D → Res D := runS [] 2 4 b_is_row
theorem ok_is_row (T : Txt K mg) (h_is_within_3 : FnD P w K mg base 2 "is_within" 3 [] F_is_within) (h_is_table_2 : FnD P w K mg base 1 "is_table" 2 [] F_is_table) {f : Addr} {fd : FuncData} (F : FunD K "is_row" "is_row" (defArgs s_is_row) (defBody s_is_row) (defScope s_is_row) [] [] f fd) : FnOk P w K mg base (L2.CX P w) 3 f fd P_is_row (spD ⟨K, mg⟩ P_is_row.length F_is_row) :=
  fnok_of (pr := []) F sc_is_row fun cdv A outer s H E hr => by
    have c := cf_of (P := P) (w := w) (K := K) (mg := mg) (base := base) (E := E) (H := H) (outer := outer) sc_is_row hr
    have po : ∀ i : Unit, PassesOwn (model ((fun _ : Unit => cxOf (L2.CX P w) P w K mg base N_is_row "is_row" (defScope s_is_row) f cdv A outer s H E) i).prog ((fun _ : Unit => cxOf (L2.CX P w) P w K mg base N_is_row "is_row" (defScope s_is_row) f cdv A outer s H E) i).w) ((fun _ : Unit => cxOf (L2.CX P w) P w K mg base N_is_row "is_row" (defScope s_is_row) f cdv A outer s H E) i).A ((fun _ : Unit => cxOf (L2.CX P w) P w K mg base N_is_row "is_row" (defScope s_is_row) f cdv A outer s H E) i).env ((fun _ : Unit => cxOf (L2.CX P w) P w K mg base N_is_row "is_row" (defScope s_is_row) f cdv A outer s H E) i).xe := fun _ => passes_of rfl
    exact (ss_one (sd_ret (ed_and (ed_fn c (fun _ => h_is_table_2) (by decide) (fun _ => by rfl) (am_cons (ed_var 1 (fun _ => pv 1)) (am_cons (ed_len c (fun _ => by rfl) T.f_len (am_cons (ed_var 0 (fun _ => pv 0)) am_nil)) am_nil)) (al_cons (al_cons al_nil))) (ed_one (ed_all c (fun _ => by rfl) T.f_all (am_cons (ed_lc (own := [("slip", 2), ("sorts", 3)]) 4 c.calm c.nd (id_zip c (fun _ => by rfl) T.f_zip (am_cons (ed_var 1 (fun _ => pv 1)) (am_cons (ed_var 0 (fun _ => pv 0)) am_nil))) (fun _ => blkOk_by (by kernel_rfl)) (gd_tup (n := 2) (t := gNil) (fun i t h => by rw [← (c.blk _).kk i]; exact pg_tup ((c.blk _).calm i) h) (gds_cons (gd_name (i := 2) (fun j => pg_name ((c.blk _).nd j) rfl (by first | exact Or.inl rfl | exact Or.inr rfl))) (gds_cons (gd_name (i := 3) (fun j => pg_name ((c.blk _).nd j) rfl (by first | exact Or.inl rfl | exact Or.inr rfl))) gds_nil))) ld_nil (ed_frz (ed_fn (c.blk _) (fun _ => h_is_within_3) (by decide) (fun _ => by rfl) (am_cons (ed_var 2 (fun _ => pv 2)) (am_cons ed_int (am_cons (ed_sub (c.blk _) (ed_var 3 (fun _ => pv 3)) ed_int) am_nil))) (al_cons (al_cons (al_cons al_nil)))))) am_nil))))))
abbrev s_number_of : Stmt := top 23
abbrev N_number_of : List Str := ["club", "row"]
abbrev P_number_of : List Str := ["club", "row"]
theorem sc_number_of : FnScope N_number_of P_number_of (defScope s_number_of) := ⟨rfl, rfl, rfl, by decide +kernel, rfl, by decide +kernel, by decide +kernel⟩
def b_number_of : SF := (sSeq (sDrop (eCall F_check_club (aCons (eVar 0) aNil) [] []))
  (sSeq (sIf (mNot (eB (eCall F_is_row (aCons (eVar 0) (aCons (eVar 1) aNil)) [] []))) (sRaise "NoRow") sNext)
  (sRet (eCall F_place_of (aCons (eVar 0) (aCons (eVar 1) aNil)) [] []))))
def F_number_of : List D → Res D := runS [] 2 2 b_number_of
theorem ok_number_of (T : Txt K mg) (h_check_club_1 : FnD P w K mg base 5 "check_club" 1 [] F_check_club) (h_is_row_2 : FnD P w K mg base 3 "is_row" 2 [] F_is_row) (h_place_of_2 : FnD P w K mg base 1 "place_of" 2 [] F_place_of) {f : Addr} {fd : FuncData} (F : FunD K "number_of" "number_of" (defArgs s_number_of) (defBody s_number_of) (defScope s_number_of) [] [] f fd) : FnOk P w K mg base (L2.CX P w) 6 f fd P_number_of (spD ⟨K, mg⟩ P_number_of.length F_number_of) :=
  fnok_of (pr := []) F sc_number_of fun cdv A outer s H E hr => by
    have c := cf_of (P := P) (w := w) (K := K) (mg := mg) (base := base) (E := E) (H := H) (outer := outer) sc_number_of hr
    have po : ∀ i : Unit, PassesOwn (model ((fun _ : Unit => cxOf (L2.CX P w) P w K mg base N_number_of "number_of" (defScope s_number_of) f cdv A outer s H E) i).prog ((fun _ : Unit => cxOf (L2.CX P w) P w K mg base N_number_of "number_of" (defScope s_number_of) f cdv A outer s H E) i).w) ((fun _ : Unit => cxOf (L2.CX P w) P w K mg base N_number_of "number_of" (defScope s_number_of) f cdv A outer s H E) i).A ((fun _ : Unit => cxOf (L2.CX P w) P w K mg base N_number_of "number_of" (defScope s_number_of) f cdv A outer s H E) i).env ((fun _ : Unit => cxOf (L2.CX P w) P w K mg base N_number_of "number_of" (defScope s_number_of) f cdv A outer s H E) i).xe := fun _ => passes_of rfl
    exact (ss_cons (sd_expr (ed_fn c (fun _ => h_check_club_1) (by decide) (fun _ => by rfl) (am_cons (ed_var 0 (fun _ => pv 0)) am_nil) (al_cons al_nil)))
  (ss_cons (sd_if (td_not (td_val (ed_fn c (fun _ => h_is_row_2) (by decide) (fun _ => by rfl) (am_cons (ed_var 0 (fun _ => pv 0)) (am_cons (ed_var 1 (fun _ => pv 1)) am_nil)) (al_cons (al_cons al_nil))))) (ss_one (sd_raise0 c T.x_NoRow (fun _ => by rfl))) ss_nil)
  (ss_one (sd_ret (ed_fn c (fun _ => h_place_of_2) (by decide) (fun _ => by rfl) (am_cons (ed_var 0 (fun _ => pv 0)) (am_cons (ed_var 1 (fun _ => pv 1)) am_nil)) (al_cons (al_cons al_nil)))))))
abbrev s_law_is_tuple : Stmt := top 33
abbrev N_law_is_tuple : List Str := ["_law_told", "_law_due", "_law_item"]
abbrev P_law_is_tuple : List Str := ["_law_told", "_law_due"]
theorem sc_law_is_tuple : FnScope N_law_is_tuple P_law_is_tuple (defScope s_law_is_tuple) := ⟨rfl, rfl, rfl, by decide +kernel, rfl, by decide +kernel, by decide +kernel⟩
def b_law_is_tuple : SF := (sRet (eAnd (eInst .tuple (eVar 0)) (eAnd (eBi allD (aCons (eLcL 3 (iSeq (eVar 0)) (gSet 2) mYes (eFrz (eCall F_law_integer (aCons (eVar 2) aNil) [] [])) [2]) aNil)) (e2 eqD (eVar 0) (eVar 1)))))
def F_law_is_tuple : List D → Res D := runS [] 2 3 b_law_is_tuple
theorem ok_law_is_tuple (T : Txt K mg) (h_law_integer_1 : FnD P w K mg base 1 "_law_integer" 1 [] F_law_integer) {f : Addr} {fd : FuncData} (F : FunD K "_law_is_tuple" "_law_is_tuple" (defArgs s_law_is_tuple) (defBody s_law_is_tuple) (defScope s_law_is_tuple) [] [] f fd) : FnOk P w K mg base (L2.CX P w) 2 f fd P_law_is_tuple (spD ⟨K, mg⟩ P_law_is_tuple.length F_law_is_tuple) :=
  fnok_of (pr := []) F sc_law_is_tuple fun cdv A outer s H E hr => by
    have c := cf_of (P := P) (w := w) (K := K) (mg := mg) (base := base) (E := E) (H := H) (outer := outer) sc_law_is_tuple hr
    have po : ∀ i : Unit, PassesOwn (model ((fun _ : Unit => cxOf (L2.CX P w) P w K mg base N_law_is_tuple "_law_is_tuple" (defScope s_law_is_tuple) f cdv A outer s H E) i).prog ((fun _ : Unit => cxOf (L2.CX P w) P w K mg base N_law_is_tuple "_law_is_tuple" (defScope s_law_is_tuple) f cdv A outer s H E) i).w) ((fun _ : Unit => cxOf (L2.CX P w) P w K mg base N_law_is_tuple "_law_is_tuple" (defScope s_law_is_tuple) f cdv A outer s H E) i).A ((fun _ : Unit => cxOf (L2.CX P w) P w K mg base N_law_is_tuple "_law_is_tuple" (defScope s_law_is_tuple) f cdv A outer s H E) i).env ((fun _ : Unit => cxOf (L2.CX P w) P w K mg base N_law_is_tuple "_law_is_tuple" (defScope s_law_is_tuple) f cdv A outer s H E) i).xe := fun _ => passes_of rfl
    exact (ss_one (sd_ret (ed_and (ed_inst .tuple c (fun _ => by rfl) T.f_isinstance (fun _ => by rfl) T.f_tuple (by decide +kernel) (ed_var 0 (fun _ => pv 0))) (ed_and (ed_all c (fun _ => by rfl) T.f_all (am_cons (ed_lc (own := [("_law_item", 2)]) 3 c.calm c.nd (id_seq c (ed_var 0 (fun _ => pv 0))) (fun _ => blkOk_by (by kernel_rfl)) (gd_name (i := 2) (fun j => pg_name ((c.blk _).nd j) rfl (by first | exact Or.inl rfl | exact Or.inr rfl))) ld_nil (ed_frz (ed_fn (c.blk _) (fun _ => h_law_integer_1) (by decide) (fun _ => by rfl) (am_cons (ed_var 2 (fun _ => pv 2)) am_nil) (al_cons al_nil)))) am_nil)) (ed_one (ed_eq c (ed_var 0 (fun _ => pv 0)) (ed_var 1 (fun _ => pv 1))))))))
abbrev s_is_place : Stmt := top 17
abbrev N_is_place : List Str := ["club", "thing"]
abbrev P_is_place : List Str := ["club", "thing"]
theorem sc_is_place : FnScope N_is_place P_is_place (defScope s_is_place) := ⟨rfl, rfl, rfl, by decide +kernel, rfl, by decide +kernel, by decide +kernel⟩
def b_is_place : SF := (sRet (eCall F_is_within (aCons (eVar 1) (aCons (eC (.int 0)) (aCons (e2 subD (eCall F_size_of (aCons (eVar 0) aNil) [] []) (eC (.int 1))) aNil))) [] []))
def F_is_place : List D → Res D := runS [] 2 2 b_is_place
theorem ok_is_place (T : Txt K mg) (h_is_within_3 : FnD P w K mg base 2 "is_within" 3 [] F_is_within) (h_size_of_1 : FnD P w K mg base 1 "size_of" 1 [] F_size_of) {f : Addr} {fd : FuncData} (F : FunD K "is_place" "is_place" (defArgs s_is_place) (defBody s_is_place) (defScope s_is_place) [] [] f fd) : FnOk P w K mg base (L2.CX P w) 3 f fd P_is_place (spD ⟨K, mg⟩ P_is_place.length F_is_place) :=
  fnok_of (pr := []) F sc_is_place fun cdv A outer s H E hr => by
    have c := cf_of (P := P) (w := w) (K := K) (mg := mg) (base := base) (E := E) (H := H) (outer := outer) sc_is_place hr
    have po : ∀ i : Unit, PassesOwn (model ((fun _ : Unit => cxOf (L2.CX P w) P w K mg base N_is_place "is_place" (defScope s_is_place) f cdv A outer s H E) i).prog ((fun _ : Unit => cxOf (L2.CX P w) P w K mg base N_is_place "is_place" (defScope s_is_place) f cdv A outer s H E) i).w) ((fun _ : Unit => cxOf (L2.CX P w) P w K mg base N_is_place "is_place" (defScope s_is_place) f cdv A outer s H E) i).A ((fun _ : Unit => cxOf (L2.CX P w) P w K mg base N_is_place "is_place" (defScope s_is_place) f cdv A outer s H E) i).env ((fun _ : Unit => cxOf (L2.CX P w) P w K mg base N_is_place "is_place" (defScope s_is_place) f cdv A outer s H E) i).xe := fun _ => passes_of rfl
    exact (ss_one (sd_ret (ed_fn c (fun _ => h_is_within_3) (by decide) (fun _ => by rfl) (am_cons (ed_var 1 (fun _ => pv 1)) (am_cons ed_int (am_cons (ed_sub c (ed_fn c (fun _ => h_size_of_1) (by decide) (fun _ => by rfl) (am_cons (ed_var 0 (fun _ => pv 0)) am_nil) (al_cons al_nil)) ed_int) am_nil))) (al_cons (al_cons (al_cons al_nil))))))
abbrev s_check_places : Stmt := top 18
abbrev N_check_places : List Str := ["club", "one", "other"]
abbrev P_check_places : List Str := ["club", "one", "other"]
theorem sc_check_places : FnScope N_check_places P_check_places (defScope s_check_places) := ⟨rfl, rfl, rfl, by decide +kernel, rfl, by decide +kernel, by decide +kernel⟩
def b_check_places : SF := (sIf (mOr (mNot (eB (eCall F_is_place (aCons (eVar 0) (aCons (eVar 1) aNil)) [] []))) (mNot (eB (eCall F_is_place (aCons (eVar 0) (aCons (eVar 2) aNil)) [] [])))) (sRaise "NoRow") sNext)
def F_check_places : List D → Res D := runS [] 3 3 b_check_places
theorem ok_check_places (T : Txt K mg) (h_is_place_2 : FnD P w K mg base 3 "is_place" 2 [] F_is_place) {f : Addr} {fd : FuncData} (F : FunD K "check_places" "check_places" (defArgs s_check_places) (defBody s_check_places) (defScope s_check_places) [] [] f fd) : FnOk P w K mg base (L2.CX P w) 4 f fd P_check_places (spD ⟨K, mg⟩ P_check_places.length F_check_places) :=
  fnok_of (pr := []) F sc_check_places fun cdv A outer s H E hr => by
    have c := cf_of (P := P) (w := w) (K := K) (mg := mg) (base := base) (E := E) (H := H) (outer := outer) sc_check_places hr
    have po : ∀ i : Unit, PassesOwn (model ((fun _ : Unit => cxOf (L2.CX P w) P w K mg base N_check_places "check_places" (defScope s_check_places) f cdv A outer s H E) i).prog ((fun _ : Unit => cxOf (L2.CX P w) P w K mg base N_check_places "check_places" (defScope s_check_places) f cdv A outer s H E) i).w) ((fun _ : Unit => cxOf (L2.CX P w) P w K mg base N_check_places "check_places" (defScope s_check_places) f cdv A outer s H E) i).A ((fun _ : Unit => cxOf (L2.CX P w) P w K mg base N_check_places "check_places" (defScope s_check_places) f cdv A outer s H E) i).env ((fun _ : Unit => cxOf (L2.CX P w) P w K mg base N_check_places "check_places" (defScope s_check_places) f cdv A outer s H E) i).xe := fun _ => passes_of rfl
    exact (ss_one (sd_if (td_of (wd_or (td_not (td_val (ed_fn c (fun _ => h_is_place_2) (by decide) (fun _ => by rfl) (am_cons (ed_var 0 (fun _ => pv 0)) (am_cons (ed_var 1 (fun _ => pv 1)) am_nil)) (al_cons (al_cons al_nil))))) (wd_or1 (td_not (td_val (ed_fn c (fun _ => h_is_place_2) (by decide) (fun _ => by rfl) (am_cons (ed_var 0 (fun _ => pv 0)) (am_cons (ed_var 2 (fun _ => pv 2)) am_nil)) (al_cons (al_cons al_nil)))))))) (ss_one (sd_raise0 c T.x_NoRow (fun _ => by rfl))) ss_nil))
abbrev s_unlike_in : Stmt := top 24
abbrev N_unlike_in : List Str := ["club", "one", "other", "first", "second", "member"]
abbrev P_unlike_in : List Str := ["club", "one", "other"]
theorem sc_unlike_in : FnScope N_unlike_in P_unlike_in (defScope s_unlike_in) := ⟨rfl, rfl, rfl, by decide +kernel, rfl, by decide +kernel, by decide +kernel⟩
def b_unlike_in : SF := (sSeq (sAsg (eFrz (eCall F_slips_of (aCons (eVar 0) (aCons (eVar 1) aNil)) [] [])) (gSet 3))
  (sSeq (sAsg (eFrz (eCall F_slips_of (aCons (eVar 0) (aCons (eVar 2) aNil)) [] [])) (gSet 4))
  (sRet (eBi tupleD (aCons (eLcL 6 (iRg1 (aCons (eBi lenD (aCons (eVar 0) aNil)) aNil)) (gSet 5) (eB (e2 neD (e2 ixD (eVar 3) (eVar 5)) (e2 ixD (eVar 4) (eVar 5)))) (eFrz (eVar 5)) [5]) aNil)))))
def F_unlike_in : List D → Res D := runS [] 3 6 b_unlike_in
theorem ok_unlike_in (T : Txt K mg) (h_slips_of_2 : FnD P w K mg base 1 "slips_of" 2 [] F_slips_of) {f : Addr} {fd : FuncData} (F : FunD K "unlike_in" "unlike_in" (defArgs s_unlike_in) (defBody s_unlike_in) (defScope s_unlike_in) [] [] f fd) : FnOk P w K mg base (L2.CX P w) 2 f fd P_unlike_in (spD ⟨K, mg⟩ P_unlike_in.length F_unlike_in) :=
  fnok_of (pr := []) F sc_unlike_in fun cdv A outer s H E hr => by
    have c := cf_of (P := P) (w := w) (K := K) (mg := mg) (base := base) (E := E) (H := H) (outer := outer) sc_unlike_in hr
    have po : ∀ i : Unit, PassesOwn (model ((fun _ : Unit => cxOf (L2.CX P w) P w K mg base N_unlike_in "unlike_in" (defScope s_unlike_in) f cdv A outer s H E) i).prog ((fun _ : Unit => cxOf (L2.CX P w) P w K mg base N_unlike_in "unlike_in" (defScope s_unlike_in) f cdv A outer s H E) i).w) ((fun _ : Unit => cxOf (L2.CX P w) P w K mg base N_unlike_in "unlike_in" (defScope s_unlike_in) f cdv A outer s H E) i).A ((fun _ : Unit => cxOf (L2.CX P w) P w K mg base N_unlike_in "unlike_in" (defScope s_unlike_in) f cdv A outer s H E) i).env ((fun _ : Unit => cxOf (L2.CX P w) P w K mg base N_unlike_in "unlike_in" (defScope s_unlike_in) f cdv A outer s H E) i).xe := fun _ => passes_of rfl
    exact (ss_cons (sd_asg (fun i te tg he hg => ps_asg he hg) (ed_frz (ed_fn c (fun _ => h_slips_of_2) (by decide) (fun _ => by rfl) (am_cons (ed_var 0 (fun _ => pv 0)) (am_cons (ed_var 1 (fun _ => pv 1)) am_nil)) (al_cons (al_cons al_nil)))) (gd_name (i := 3) (fun j => pg_name (c.nd j) rfl (by first | exact Or.inl rfl | exact Or.inr rfl))))
  (ss_cons (sd_asg (fun i te tg he hg => ps_asg he hg) (ed_frz (ed_fn c (fun _ => h_slips_of_2) (by decide) (fun _ => by rfl) (am_cons (ed_var 0 (fun _ => pv 0)) (am_cons (ed_var 2 (fun _ => pv 2)) am_nil)) (al_cons (al_cons al_nil)))) (gd_name (i := 4) (fun j => pg_name (c.nd j) rfl (by first | exact Or.inl rfl | exact Or.inr rfl))))
  (ss_one (sd_ret (ed_tuple c (fun _ => by rfl) T.f_tuple (am_cons (ed_lc (own := [("member", 5)]) 6 c.calm c.nd (id_rg1 c (fun _ => by rfl) T.f_range (am_cons (ed_len c (fun _ => by rfl) T.f_len (am_cons (ed_var 0 (fun _ => pv 0)) am_nil)) am_nil)) (fun _ => blkOk_by (by kernel_rfl)) (gd_name (i := 5) (fun j => pg_name ((c.blk _).nd j) rfl (by first | exact Or.inl rfl | exact Or.inr rfl))) (ld_one (td_ne (c.blk _) (ed_ix (c.blk _) (ed_var 3 (fun _ => pv 3)) (ed_var 5 (fun _ => pv 5))) (ed_ix (c.blk _) (ed_var 4 (fun _ => pv 4)) (ed_var 5 (fun _ => pv 5))))) (ed_frz (ed_var 5 (fun _ => pv 5)))) am_nil))))))
abbrev s_unlike : Stmt := top 25
abbrev N_unlike : List Str := ["club", "one", "other"]
abbrev P_unlike : List Str := ["club", "one", "other"]
theorem sc_unlike : FnScope N_unlike P_unlike (defScope s_unlike) := ⟨rfl, rfl, rfl, by decide +kernel, rfl, by decide +kernel, by decide +kernel⟩
def b_unlike : SF := (sSeq (sDrop (eCall F_check_club (aCons (eVar 0) aNil) [] []))
  (sSeq (sDrop (eCall F_check_places (aCons (eVar 0) (aCons (eVar 1) (aCons (eVar 2) aNil))) [] []))
  (sRet (eCall F_unlike_in (aCons (eVar 0) (aCons (eVar 1) (aCons (eVar 2) aNil))) [] []))))
def F_unlike : List D → Res D := runS [] 3 3 b_unlike
theorem ok_unlike (T : Txt K mg) (h_check_club_1 : FnD P w K mg base 5 "check_club" 1 [] F_check_club) (h_check_places_3 : FnD P w K mg base 4 "check_places" 3 [] F_check_places) (h_unlike_in_3 : FnD P w K mg base 2 "unlike_in" 3 [] F_unlike_in) {f : Addr} {fd : FuncData} (F : FunD K "unlike" "unlike" (defArgs s_unlike) (defBody s_unlike) (defScope s_unlike) [] [] f fd) : FnOk P w K mg base (L2.CX P w) 6 f fd P_unlike (spD ⟨K, mg⟩ P_unlike.length F_unlike) :=
  fnok_of (pr := []) F sc_unlike fun cdv A outer s H E hr => by
    have c := cf_of (P := P) (w := w) (K := K) (mg := mg) (base := base) (E := E) (H := H) (outer := outer) sc_unlike hr
    have po : ∀ i : Unit, PassesOwn (model ((fun _ : Unit => cxOf (L2.CX P w) P w K mg base N_unlike "unlike" (defScope s_unlike) f cdv A outer s H E) i).prog ((fun _ : Unit => cxOf (L2.CX P w) P w K mg base N_unlike "unlike" (defScope s_unlike) f cdv A outer s H E) i).w) ((fun _ : Unit => cxOf (L2.CX P w) P w K mg base N_unlike "unlike" (defScope s_unlike) f cdv A outer s H E) i).A ((fun _ : Unit => cxOf (L2.CX P w) P w K mg base N_unlike "unlike" (defScope s_unlike) f cdv A outer s H E) i).env ((fun _ : Unit => cxOf (L2.CX P w) P w K mg base N_unlike "unlike" (defScope s_unlike) f cdv A outer s H E) i).xe := fun _ => passes_of rfl
    exact (ss_cons (sd_expr (ed_fn c (fun _ => h_check_club_1) (by decide) (fun _ => by rfl) (am_cons (ed_var 0 (fun _ => pv 0)) am_nil) (al_cons al_nil)))
  (ss_cons (sd_expr (ed_fn c (fun _ => h_check_places_3) (by decide) (fun _ => by rfl) (am_cons (ed_var 0 (fun _ => pv 0)) (am_cons (ed_var 1 (fun _ => pv 1)) (am_cons (ed_var 2 (fun _ => pv 2)) am_nil))) (al_cons (al_cons (al_cons al_nil)))))
  (ss_one (sd_ret (ed_fn c (fun _ => h_unlike_in_3) (by decide) (fun _ => by rfl) (am_cons (ed_var 0 (fun _ => pv 0)) (am_cons (ed_var 1 (fun _ => pv 1)) (am_cons (ed_var 2 (fun _ => pv 2)) am_nil))) (al_cons (al_cons (al_cons al_nil))))))))
abbrev s_law : Stmt := top 34
abbrev N_law : List Str := ["_law_script", "_law_source_here", "_law_club_here", "_law_due", "_law_told", "_law_begin", "_law_number", "_law_k", "_law_found", "_law_one", "_law_other", "_law_apart", "_law_member"]
abbrev P_law : List Str := ["_law_script"]
theorem sc_law : FnScope N_law P_law (defScope s_law) := ⟨rfl, rfl, rfl, by decide +kernel, rfl, by decide +kernel, by decide +kernel⟩
def b_law : SF := (sSeq (sAsg (eCall F_law_source (aCons (eVar 0) (aCons (eC (.int 0)) aNil)) [] []) (gSet 1))
  (sSeq (sAsg (eFrz (eCall F_law_club (aCons (eMove 1) aNil) [] [(0, 1)])) (gSet 2))
  (sSeq (sAsg (eFrz (eCall F_law_rows (aCons (eVar 2) aNil) [] [])) (gSet 3))
  (sSeq (sAsg (eCall F_rows (aCons (eVar 2) aNil) [] []) (gSet 4))
  (sSeq (sIf (tBor (mNot (eB (eCall F_law_is_table (aCons (eVar 4) (aCons (eVar 3) aNil)) [] [])))) (sRet (eC (.bl false))) sNext)
  (sSeq (sDrop (eApp 4 (eTup aNil)))
  (sSeq (sAsg (eC .non) (gItem 4 (eC (.int 0))))
  (sSeq (sIf (mNot (eB (eCall F_law_is_table (aCons (eFrz (eCall F_rows (aCons (eVar 2) aNil) [] [])) (aCons (eVar 3) aNil)) [] []))) (sRet (eC (.bl false))) sNext)
  (sSeq (sAsg (eFrz (eCall F_law_draw (aCons (eMove 1) (aCons (eBi lenD (aCons (eVar 3) aNil)) aNil)) [] [(0, 1)])) (gSet 5))
  (sSeq (sFor (iRg2 (aCons (eVar 5) (aCons (eBi min2D (aCons (eBi lenD (aCons (eVar 3) aNil)) (aCons (e2 addD (eVar 5) (eC (.int 40))) aNil))) aNil))) (gSet 6) (sSeq (sAsg (eFrz (eCall F_number_of (aCons (eVar 2) (aCons (e2 ixD (eVar 3) (eVar 6)) aNil)) [] [])) (gSet 8))
  (sIf (mOr (mNot (eB (eCall F_law_integer (aCons (eVar 8) aNil) [] []))) (eB (e2 neD (eVar 8) (eVar 6)))) (sRet (eC (.bl false))) sNext)))
  (sSeq (sFor (iRg2 (aCons (eC (.int 1)) (aCons (eBi max2D (aCons (eC (.int 6)) (aCons (eBi min2D (aCons (eBi lenD (aCons (eVar 0) aNil)) (aCons (eC (.int 41)) aNil))) aNil))) aNil))) (gSet 7) (sSeq (sAsg (eCall F_law_source (aCons (eVar 0) (aCons (eVar 7) aNil)) [] []) (gSet 1))
  (sSeq (sAsg (eFrz (eCall F_law_draw (aCons (eMove 1) (aCons (eBi lenD (aCons (eVar 3) aNil)) aNil)) [] [(0, 1)])) (gSet 9))
  (sSeq (sAsg (eFrz (eCall F_law_draw (aCons (eMove 1) (aCons (eBi lenD (aCons (eVar 3) aNil)) aNil)) [] [(0, 1)])) (gSet 10))
  (sSeq (sAsg (eBi tupleD (aCons (eLcL 13 (iRg1 (aCons (eBi lenD (aCons (eVar 2) aNil)) aNil)) (gSet 12) (eB (e2 neD (e2 ixD (e2 ixD (eVar 3) (eVar 9)) (eVar 12)) (e2 ixD (e2 ixD (eVar 3) (eVar 10)) (eVar 12)))) (eFrz (eVar 12)) [12]) aNil)) (gSet 11))
  (sSeq (sIf (mOr (mNot (eB (eCall F_law_is_tuple (aCons (eFrz (eCall F_unlike (aCons (eVar 2) (aCons (eVar 9) (aCons (eVar 10) aNil))) [] [])) (aCons (eVar 11) aNil)) [] []))) (mNot (eB (eCall F_law_is_tuple (aCons (eFrz (eCall F_unlike (aCons (eVar 2) (aCons (eVar 10) (aCons (eVar 9) aNil))) [] [])) (aCons (eVar 11) aNil)) [] [])))) (sRet (eC (.bl false))) sNext)
  (sSeq (sIf (mNot (eB (eCall F_law_is_tuple (aCons (eFrz (eCall F_unlike (aCons (eVar 2) (aCons (eVar 9) (aCons (eVar 9) aNil))) [] [])) (aCons (eTup aNil) aNil)) [] []))) (sRet (eC (.bl false))) sNext)
  (sIf (mOr (eB (e2 neD (eCall F_number_of (aCons (eVar 2) (aCons (e2 ixD (eVar 3) (eVar 9)) aNil)) [] []) (eVar 9))) (eB (e2 neD (eCall F_number_of (aCons (eVar 2) (aCons (e2 ixD (eVar 3) (eVar 10)) aNil)) [] []) (eVar 10)))) (sRet (eC (.bl false))) sNext))))))))
  (sRet (eC (.bl true))))))))))))))
def F_law : List D → Res D := runS [] 1 13 b_law
theorem ok_law (T : Txt K mg) (h_law_source_2 : FnD P w K mg base 1 "_law_source" 2 [] F_law_source) (h_law_club_1 : FnD P w K mg base 2 "_law_club" 1 [] F_law_club) (h_law_rows_1 : FnD P w K mg base 1 "_law_rows" 1 [] F_law_rows) (h_rows_1 : FnD P w K mg base 6 "rows" 1 [] F_rows) (h_law_is_table_2 : FnD P w K mg base 2 "_law_is_table" 2 [] F_law_is_table) (h_law_draw_2 : FnD P w K mg base 1 "_law_draw" 2 [] F_law_draw) (h_number_of_2 : FnD P w K mg base 6 "number_of" 2 [] F_number_of) (h_law_integer_1 : FnD P w K mg base 1 "_law_integer" 1 [] F_law_integer) (h_law_is_tuple_2 : FnD P w K mg base 2 "_law_is_tuple" 2 [] F_law_is_tuple) (h_unlike_3 : FnD P w K mg base 6 "unlike" 3 [] F_unlike) {f : Addr} {fd : FuncData} (F : FunD K "law" "law" (defArgs s_law) (defBody s_law) (defScope s_law) [] [] f fd) : FnOk P w K mg base (L2.CX P w) 7 f fd P_law (spD ⟨K, mg⟩ P_law.length F_law) :=
  fnok_of (pr := []) F sc_law fun cdv A outer s H E hr => by
    have c := cf_of (P := P) (w := w) (K := K) (mg := mg) (base := base) (E := E) (H := H) (outer := outer) sc_law hr
    have po : ∀ i : Unit, PassesOwn (model ((fun _ : Unit => cxOf (L2.CX P w) P w K mg base N_law "law" (defScope s_law) f cdv A outer s H E) i).prog ((fun _ : Unit => cxOf (L2.CX P w) P w K mg base N_law "law" (defScope s_law) f cdv A outer s H E) i).w) ((fun _ : Unit => cxOf (L2.CX P w) P w K mg base N_law "law" (defScope s_law) f cdv A outer s H E) i).A ((fun _ : Unit => cxOf (L2.CX P w) P w K mg base N_law "law" (defScope s_law) f cdv A outer s H E) i).env ((fun _ : Unit => cxOf (L2.CX P w) P w K mg base N_law "law" (defScope s_law) f cdv A outer s H E) i).xe := fun _ => passes_of rfl
    exact (ss_cons (sd_asg (fun i te tg he hg => ps_asg he hg) (ed_fn c (fun _ => h_law_source_2) (by decide) (fun _ => by rfl) (am_cons (ed_var 0 (fun _ => pv 0)) (am_cons ed_int am_nil)) (al_cons (al_cons al_nil))) (gd_name (i := 1) (fun j => pg_name (c.nd j) rfl (by first | exact Or.inl rfl | exact Or.inr rfl))))
  (ss_cons (sd_asg (fun i te tg he hg => ps_asg he hg) (ed_frz (ed_fn c (fun _ => h_law_club_1) (by decide) (fun _ => by rfl) (am_mv 1 (fun _ => pv 1) am_nil) (al_cons al_nil))) (gd_name (i := 2) (fun j => pg_name (c.nd j) rfl (by first | exact Or.inl rfl | exact Or.inr rfl))))
  (ss_cons (sd_asg (fun i te tg he hg => ps_asg he hg) (ed_frz (ed_fn c (fun _ => h_law_rows_1) (by decide) (fun _ => by rfl) (am_cons (ed_var 2 (fun _ => pv 2)) am_nil) (al_cons al_nil))) (gd_name (i := 3) (fun j => pg_name (c.nd j) rfl (by first | exact Or.inl rfl | exact Or.inr rfl))))
  (ss_cons (sd_asg (fun i te tg he hg => ps_asg he hg) (ed_fn c (fun _ => h_rows_1) (by decide) (fun _ => by rfl) (am_cons (ed_var 2 (fun _ => pv 2)) am_nil) (al_cons al_nil)) (gd_name (i := 4) (fun j => pg_name (c.nd j) rfl (by first | exact Or.inl rfl | exact Or.inr rfl))))
  (ss_cons (sd_if (td_bor (td_not (td_val (ed_fn c (fun _ => h_law_is_table_2) (by decide) (fun _ => by rfl) (am_cons (ed_var 4 (fun _ => pv 4)) (am_cons (ed_var 3 (fun _ => pv 3)) am_nil)) (al_cons (al_cons al_nil)))))) (ss_one (sd_ret ed_bl)) ss_nil)
  (ss_cons (sd_expr (ed_app 4 (fun _ => pv 4) (ed_tup am_nil) c))
  (ss_cons (sd_asg (fun i te tg he hg => ps_asg he hg) ed_non (gd_item 4 c (fun _ => pv 4) ed_int))
  (ss_cons (sd_if (td_not (td_val (ed_fn c (fun _ => h_law_is_table_2) (by decide) (fun _ => by rfl) (am_cons (ed_frz (ed_fn c (fun _ => h_rows_1) (by decide) (fun _ => by rfl) (am_cons (ed_var 2 (fun _ => pv 2)) am_nil) (al_cons al_nil))) (am_cons (ed_var 3 (fun _ => pv 3)) am_nil)) (al_cons (al_cons al_nil))))) (ss_one (sd_ret ed_bl)) ss_nil)
  (ss_cons (sd_asg (fun i te tg he hg => ps_asg he hg) (ed_frz (ed_fn c (fun _ => h_law_draw_2) (by decide) (fun _ => by rfl) (am_mv 1 (fun _ => pv 1) (am_cons (ed_len c (fun _ => by rfl) T.f_len (am_cons (ed_var 3 (fun _ => pv 3)) am_nil)) am_nil)) (al_cons (al_cons al_nil)))) (gd_name (i := 5) (fun j => pg_name (c.nd j) rfl (by first | exact Or.inl rfl | exact Or.inr rfl))))
  (ss_cons (sd_for po c.calm (id_rg2 c (fun _ => by rfl) T.f_range (am_cons (ed_var 5 (fun _ => pv 5)) (am_cons (ed_min2 c (fun _ => by rfl) T.f_min (am_cons (ed_len c (fun _ => by rfl) T.f_len (am_cons (ed_var 3 (fun _ => pv 3)) am_nil)) (am_cons (ed_add c (ed_var 5 (fun _ => pv 5)) ed_int) am_nil))) am_nil))) (gd_name (i := 6) (fun j => pg_name (c.nd j) rfl (by first | exact Or.inl rfl | exact Or.inr rfl))) (ss_cons (sd_asg (fun i te tg he hg => ps_asg he hg) (ed_frz (ed_fn c (fun _ => h_number_of_2) (by decide) (fun _ => by rfl) (am_cons (ed_var 2 (fun _ => pv 2)) (am_cons (ed_ix c (ed_var 3 (fun _ => pv 3)) (ed_var 6 (fun _ => pv 6))) am_nil)) (al_cons (al_cons al_nil)))) (gd_name (i := 8) (fun j => pg_name (c.nd j) rfl (by first | exact Or.inl rfl | exact Or.inr rfl))))
  (ss_one (sd_if (td_of (wd_or (td_not (td_val (ed_fn c (fun _ => h_law_integer_1) (by decide) (fun _ => by rfl) (am_cons (ed_var 8 (fun _ => pv 8)) am_nil) (al_cons al_nil)))) (wd_or1 (td_ne c (ed_var 8 (fun _ => pv 8)) (ed_var 6 (fun _ => pv 6)))))) (ss_one (sd_ret ed_bl)) ss_nil))))
  (ss_cons (sd_for po c.calm (id_rg2 c (fun _ => by rfl) T.f_range (am_cons ed_int (am_cons (ed_max2 c (fun _ => by rfl) T.f_max (am_cons ed_int (am_cons (ed_min2 c (fun _ => by rfl) T.f_min (am_cons (ed_len c (fun _ => by rfl) T.f_len (am_cons (ed_var 0 (fun _ => pv 0)) am_nil)) (am_cons ed_int am_nil))) am_nil))) am_nil))) (gd_name (i := 7) (fun j => pg_name (c.nd j) rfl (by first | exact Or.inl rfl | exact Or.inr rfl))) (ss_cons (sd_asg (fun i te tg he hg => ps_asg he hg) (ed_fn c (fun _ => h_law_source_2) (by decide) (fun _ => by rfl) (am_cons (ed_var 0 (fun _ => pv 0)) (am_cons (ed_var 7 (fun _ => pv 7)) am_nil)) (al_cons (al_cons al_nil))) (gd_name (i := 1) (fun j => pg_name (c.nd j) rfl (by first | exact Or.inl rfl | exact Or.inr rfl))))
  (ss_cons (sd_asg (fun i te tg he hg => ps_asg he hg) (ed_frz (ed_fn c (fun _ => h_law_draw_2) (by decide) (fun _ => by rfl) (am_mv 1 (fun _ => pv 1) (am_cons (ed_len c (fun _ => by rfl) T.f_len (am_cons (ed_var 3 (fun _ => pv 3)) am_nil)) am_nil)) (al_cons (al_cons al_nil)))) (gd_name (i := 9) (fun j => pg_name (c.nd j) rfl (by first | exact Or.inl rfl | exact Or.inr rfl))))
  (ss_cons (sd_asg (fun i te tg he hg => ps_asg he hg) (ed_frz (ed_fn c (fun _ => h_law_draw_2) (by decide) (fun _ => by rfl) (am_mv 1 (fun _ => pv 1) (am_cons (ed_len c (fun _ => by rfl) T.f_len (am_cons (ed_var 3 (fun _ => pv 3)) am_nil)) am_nil)) (al_cons (al_cons al_nil)))) (gd_name (i := 10) (fun j => pg_name (c.nd j) rfl (by first | exact Or.inl rfl | exact Or.inr rfl))))
  (ss_cons (sd_asg (fun i te tg he hg => ps_asg he hg) (ed_tuple c (fun _ => by rfl) T.f_tuple (am_cons (ed_lc (own := [("_law_member", 12)]) 13 c.calm c.nd (id_rg1 c (fun _ => by rfl) T.f_range (am_cons (ed_len c (fun _ => by rfl) T.f_len (am_cons (ed_var 2 (fun _ => pv 2)) am_nil)) am_nil)) (fun _ => blkOk_by (by kernel_rfl)) (gd_name (i := 12) (fun j => pg_name ((c.blk _).nd j) rfl (by first | exact Or.inl rfl | exact Or.inr rfl))) (ld_one (td_ne (c.blk _) (ed_ix (c.blk _) (ed_ix (c.blk _) (ed_var 3 (fun _ => pv 3)) (ed_var 9 (fun _ => pv 9))) (ed_var 12 (fun _ => pv 12))) (ed_ix (c.blk _) (ed_ix (c.blk _) (ed_var 3 (fun _ => pv 3)) (ed_var 10 (fun _ => pv 10))) (ed_var 12 (fun _ => pv 12))))) (ed_frz (ed_var 12 (fun _ => pv 12)))) am_nil)) (gd_name (i := 11) (fun j => pg_name (c.nd j) rfl (by first | exact Or.inl rfl | exact Or.inr rfl))))
  (ss_cons (sd_if (td_of (wd_or (td_not (td_val (ed_fn c (fun _ => h_law_is_tuple_2) (by decide) (fun _ => by rfl) (am_cons (ed_frz (ed_fn c (fun _ => h_unlike_3) (by decide) (fun _ => by rfl) (am_cons (ed_var 2 (fun _ => pv 2)) (am_cons (ed_var 9 (fun _ => pv 9)) (am_cons (ed_var 10 (fun _ => pv 10)) am_nil))) (al_cons (al_cons (al_cons al_nil))))) (am_cons (ed_var 11 (fun _ => pv 11)) am_nil)) (al_cons (al_cons al_nil))))) (wd_or1 (td_not (td_val (ed_fn c (fun _ => h_law_is_tuple_2) (by decide) (fun _ => by rfl) (am_cons (ed_frz (ed_fn c (fun _ => h_unlike_3) (by decide) (fun _ => by rfl) (am_cons (ed_var 2 (fun _ => pv 2)) (am_cons (ed_var 10 (fun _ => pv 10)) (am_cons (ed_var 9 (fun _ => pv 9)) am_nil))) (al_cons (al_cons (al_cons al_nil))))) (am_cons (ed_var 11 (fun _ => pv 11)) am_nil)) (al_cons (al_cons al_nil)))))))) (ss_one (sd_ret ed_bl)) ss_nil)
  (ss_cons (sd_if (td_not (td_val (ed_fn c (fun _ => h_law_is_tuple_2) (by decide) (fun _ => by rfl) (am_cons (ed_frz (ed_fn c (fun _ => h_unlike_3) (by decide) (fun _ => by rfl) (am_cons (ed_var 2 (fun _ => pv 2)) (am_cons (ed_var 9 (fun _ => pv 9)) (am_cons (ed_var 9 (fun _ => pv 9)) am_nil))) (al_cons (al_cons (al_cons al_nil))))) (am_cons (ed_tup am_nil) am_nil)) (al_cons (al_cons al_nil))))) (ss_one (sd_ret ed_bl)) ss_nil)
  (ss_one (sd_if (td_of (wd_or (td_ne c (ed_fn c (fun _ => h_number_of_2) (by decide) (fun _ => by rfl) (am_cons (ed_var 2 (fun _ => pv 2)) (am_cons (ed_ix c (ed_var 3 (fun _ => pv 3)) (ed_var 9 (fun _ => pv 9))) am_nil)) (al_cons (al_cons al_nil))) (ed_var 9 (fun _ => pv 9))) (wd_or1 (td_ne c (ed_fn c (fun _ => h_number_of_2) (by decide) (fun _ => by rfl) (am_cons (ed_var 2 (fun _ => pv 2)) (am_cons (ed_ix c (ed_var 3 (fun _ => pv 3)) (ed_var 10 (fun _ => pv 10))) am_nil)) (al_cons (al_cons al_nil))) (ed_var 10 (fun _ => pv 10)))))) (ss_one (sd_ret ed_bl)) ss_nil)))))))))
  (ss_one (sd_ret ed_bl)))))))))))))
def fal : List He.Fa := [.free "all", .free "bool", .free "int", .free "isinstance", .free "len", .free "list", .free "max", .free "min", .free "range", .free "reversed", .free "tuple", .free "zip", .int "MOST_MEMBERS" 8, .int "MOST_ROWS" 256, .int "MOST_SORTS" 4, .glo "_law_source", .glo "_law_draw", .glo "_law_club", .glo "_law_rows", .glo "is_integer", .glo "is_within", .glo "is_many", .glo "size_of", .glo "is_club", .glo "check_club", .glo "slips_of", .glo "all_rows", .glo "rows", .glo "_law_integer", .glo "_law_is_table", .glo "place_of", .glo "is_table", .glo "is_row", .glo "number_of", .glo "_law_is_tuple", .glo "is_place", .glo "check_places", .glo "unlike_in", .glo "unlike", .glo "law", .glo "NoClub", .exc "NoClub", .glo "NoRow", .exc "NoRow"]
def d_law_source : He.DefD := ⟨("_law_source", none), "_law_source", "_law_source", defArgs s_law_source, defBody s_law_source, defScope s_law_source, [], []⟩
def d_law_draw : He.DefD := ⟨("_law_draw", none), "_law_draw", "_law_draw", defArgs s_law_draw, defBody s_law_draw, defScope s_law_draw, [], []⟩
def d_law_club : He.DefD := ⟨("_law_club", none), "_law_club", "_law_club", defArgs s_law_club, defBody s_law_club, defScope s_law_club, [], []⟩
def d_law_rows : He.DefD := ⟨("_law_rows", none), "_law_rows", "_law_rows", defArgs s_law_rows, defBody s_law_rows, defScope s_law_rows, [], []⟩
def d_is_integer : He.DefD := ⟨("is_integer", none), "is_integer", "is_integer", defArgs s_is_integer, defBody s_is_integer, defScope s_is_integer, [], []⟩
def d_is_within : He.DefD := ⟨("is_within", none), "is_within", "is_within", defArgs s_is_within, defBody s_is_within, defScope s_is_within, [], []⟩
def d_is_many : He.DefD := ⟨("is_many", none), "is_many", "is_many", defArgs s_is_many, defBody s_is_many, defScope s_is_many, [], []⟩
def d_size_of : He.DefD := ⟨("size_of", none), "size_of", "size_of", defArgs s_size_of, defBody s_size_of, defScope s_size_of, [], []⟩
def d_is_club : He.DefD := ⟨("is_club", none), "is_club", "is_club", defArgs s_is_club, defBody s_is_club, defScope s_is_club, [], []⟩
def d_check_club : He.DefD := ⟨("check_club", none), "check_club", "check_club", defArgs s_check_club, defBody s_check_club, defScope s_check_club, [], []⟩
def d_slips_of : He.DefD := ⟨("slips_of", none), "slips_of", "slips_of", defArgs s_slips_of, defBody s_slips_of, defScope s_slips_of, [], []⟩
def d_all_rows : He.DefD := ⟨("all_rows", none), "all_rows", "all_rows", defArgs s_all_rows, defBody s_all_rows, defScope s_all_rows, [], []⟩
def d_rows : He.DefD := ⟨("rows", none), "rows", "rows", defArgs s_rows, defBody s_rows, defScope s_rows, [], []⟩
def d_law_integer : He.DefD := ⟨("_law_integer", none), "_law_integer", "_law_integer", defArgs s_law_integer, defBody s_law_integer, defScope s_law_integer, [], []⟩
def d_law_is_table : He.DefD := ⟨("_law_is_table", none), "_law_is_table", "_law_is_table", defArgs s_law_is_table, defBody s_law_is_table, defScope s_law_is_table, [], []⟩
def d_place_of : He.DefD := ⟨("place_of", none), "place_of", "place_of", defArgs s_place_of, defBody s_place_of, defScope s_place_of, [], []⟩
def d_is_table : He.DefD := ⟨("is_table", none), "is_table", "is_table", defArgs s_is_table, defBody s_is_table, defScope s_is_table, [], []⟩
def d_is_row : He.DefD := ⟨("is_row", none), "is_row", "is_row", defArgs s_is_row, defBody s_is_row, defScope s_is_row, [], []⟩
def d_number_of : He.DefD := ⟨("number_of", none), "number_of", "number_of", defArgs s_number_of, defBody s_number_of, defScope s_number_of, [], []⟩
def d_law_is_tuple : He.DefD := ⟨("_law_is_tuple", none), "_law_is_tuple", "_law_is_tuple", defArgs s_law_is_tuple, defBody s_law_is_tuple, defScope s_law_is_tuple, [], []⟩
def d_is_place : He.DefD := ⟨("is_place", none), "is_place", "is_place", defArgs s_is_place, defBody s_is_place, defScope s_is_place, [], []⟩
def d_check_places : He.DefD := ⟨("check_places", none), "check_places", "check_places", defArgs s_check_places, defBody s_check_places, defScope s_check_places, [], []⟩
def d_unlike_in : He.DefD := ⟨("unlike_in", none), "unlike_in", "unlike_in", defArgs s_unlike_in, defBody s_unlike_in, defScope s_unlike_in, [], []⟩
def d_unlike : He.DefD := ⟨("unlike", none), "unlike", "unlike", defArgs s_unlike, defBody s_unlike, defScope s_unlike, [], []⟩
def d_law : He.DefD := ⟨("law", none), "law", "law", defArgs s_law, defBody s_law, defScope s_law, [], []⟩
def fnl : List He.DefD := [d_law_source, d_law_draw, d_law_club, d_law_rows, d_is_integer, d_is_within, d_is_many, d_size_of, d_is_club, d_check_club, d_slips_of, d_all_rows, d_rows, d_law_integer, d_law_is_table, d_place_of, d_is_table, d_is_row, d_number_of, d_law_is_tuple, d_is_place, d_check_places, d_unlike_in, d_unlike, d_law]
def exl (K : PySem.W.Frag) : Bool := true
theorem txt {h : Heap} (X : K.In h) (G : h.Ns mainGlobals mg) (c : SaysE fal fnl exl K) : Txt K mg := by
  have d := c.d
  have e := c.e
  exact ⟨He.free_ok X G (d.fact 0 (f := .free "all") rfl), He.free_ok X G (d.fact 1 (f := .free "bool") rfl), He.free_ok X G (d.fact 2 (f := .free "int") rfl), He.free_ok X G (d.fact 3 (f := .free "isinstance") rfl), He.free_ok X G (d.fact 4 (f := .free "len") rfl), He.free_ok X G (d.fact 5 (f := .free "list") rfl), He.free_ok X G (d.fact 6 (f := .free "max") rfl), He.free_ok X G (d.fact 7 (f := .free "min") rfl), He.free_ok X G (d.fact 8 (f := .free "range") rfl), He.free_ok X G (d.fact 9 (f := .free "reversed") rfl), He.free_ok X G (d.fact 10 (f := .free "tuple") rfl), He.free_ok X G (d.fact 11 (f := .free "zip") rfl), He.int_ok X G (d.fact 12 (f := .int "MOST_MEMBERS" 8) rfl), He.int_ok X G (d.fact 13 (f := .int "MOST_ROWS" 256) rfl), He.int_ok X G (d.fact 14 (f := .int "MOST_SORTS" 4) rfl), exf_of X G (d.fact 40 (f := .glo "NoClub") rfl) (d.fact 41 (f := .exc "NoClub") rfl), exf_of X G (d.fact 42 (f := .glo "NoRow") rfl) (d.fact 43 (f := .exc "NoRow") rfl)⟩
theorem facts {P : Program} {w : World} {K : PySem.W.Frag} {h : Heap} {mg : Str → Option Value} {f : Addr} (X : K.In h) (G : h.Ns mainGlobals mg) (hfa : mg ("law" : Str) = some (.ref f)) (c : SaysE fal fnl exl K) :
    ∃ fd : FuncData, (∀ (s : Shared) (v : Value), BindsTo s fd ⟨[v], []⟩ [("_law_script", v)]) ∧ ∀ base : Heap, K.In base → base.Ns mainGlobals mg → FnOk P w K mg base (L2.CX P w) 7 f fd P_law (spD ⟨K, mg⟩ 1 F_law) := by
  have T := txt X G c
  have d := c.d
  obtain ⟨fd_law_source, K_law_source⟩ := d.def_ 0 (d := d_law_source) rfl
  have g_law_source := He.glo_ok X G (d.fact 15 (f := .glo "_law_source") rfl)
  obtain ⟨fd_law_draw, K_law_draw⟩ := d.def_ 1 (d := d_law_draw) rfl
  have g_law_draw := He.glo_ok X G (d.fact 16 (f := .glo "_law_draw") rfl)
  obtain ⟨fd_law_club, K_law_club⟩ := d.def_ 2 (d := d_law_club) rfl
  have g_law_club := He.glo_ok X G (d.fact 17 (f := .glo "_law_club") rfl)
  obtain ⟨fd_law_rows, K_law_rows⟩ := d.def_ 3 (d := d_law_rows) rfl
  have g_law_rows := He.glo_ok X G (d.fact 18 (f := .glo "_law_rows") rfl)
  obtain ⟨fd_is_integer, K_is_integer⟩ := d.def_ 4 (d := d_is_integer) rfl
  have g_is_integer := He.glo_ok X G (d.fact 19 (f := .glo "is_integer") rfl)
  obtain ⟨fd_is_within, K_is_within⟩ := d.def_ 5 (d := d_is_within) rfl
  have g_is_within := He.glo_ok X G (d.fact 20 (f := .glo "is_within") rfl)
  obtain ⟨fd_is_many, K_is_many⟩ := d.def_ 6 (d := d_is_many) rfl
  have g_is_many := He.glo_ok X G (d.fact 21 (f := .glo "is_many") rfl)
  obtain ⟨fd_size_of, K_size_of⟩ := d.def_ 7 (d := d_size_of) rfl
  have g_size_of := He.glo_ok X G (d.fact 22 (f := .glo "size_of") rfl)
  obtain ⟨fd_is_club, K_is_club⟩ := d.def_ 8 (d := d_is_club) rfl
  have g_is_club := He.glo_ok X G (d.fact 23 (f := .glo "is_club") rfl)
  obtain ⟨fd_check_club, K_check_club⟩ := d.def_ 9 (d := d_check_club) rfl
  have g_check_club := He.glo_ok X G (d.fact 24 (f := .glo "check_club") rfl)
  obtain ⟨fd_slips_of, K_slips_of⟩ := d.def_ 10 (d := d_slips_of) rfl
  have g_slips_of := He.glo_ok X G (d.fact 25 (f := .glo "slips_of") rfl)
  obtain ⟨fd_all_rows, K_all_rows⟩ := d.def_ 11 (d := d_all_rows) rfl
  have g_all_rows := He.glo_ok X G (d.fact 26 (f := .glo "all_rows") rfl)
  obtain ⟨fd_rows, K_rows⟩ := d.def_ 12 (d := d_rows) rfl
  have g_rows := He.glo_ok X G (d.fact 27 (f := .glo "rows") rfl)
  obtain ⟨fd_law_integer, K_law_integer⟩ := d.def_ 13 (d := d_law_integer) rfl
  have g_law_integer := He.glo_ok X G (d.fact 28 (f := .glo "_law_integer") rfl)
  obtain ⟨fd_law_is_table, K_law_is_table⟩ := d.def_ 14 (d := d_law_is_table) rfl
  have g_law_is_table := He.glo_ok X G (d.fact 29 (f := .glo "_law_is_table") rfl)
  obtain ⟨fd_place_of, K_place_of⟩ := d.def_ 15 (d := d_place_of) rfl
  have g_place_of := He.glo_ok X G (d.fact 30 (f := .glo "place_of") rfl)
  obtain ⟨fd_is_table, K_is_table⟩ := d.def_ 16 (d := d_is_table) rfl
  have g_is_table := He.glo_ok X G (d.fact 31 (f := .glo "is_table") rfl)
  obtain ⟨fd_is_row, K_is_row⟩ := d.def_ 17 (d := d_is_row) rfl
  have g_is_row := He.glo_ok X G (d.fact 32 (f := .glo "is_row") rfl)
  obtain ⟨fd_number_of, K_number_of⟩ := d.def_ 18 (d := d_number_of) rfl
  have g_number_of := He.glo_ok X G (d.fact 33 (f := .glo "number_of") rfl)
  obtain ⟨fd_law_is_tuple, K_law_is_tuple⟩ := d.def_ 19 (d := d_law_is_tuple) rfl
  have g_law_is_tuple := He.glo_ok X G (d.fact 34 (f := .glo "_law_is_tuple") rfl)
  obtain ⟨fd_is_place, K_is_place⟩ := d.def_ 20 (d := d_is_place) rfl
  have g_is_place := He.glo_ok X G (d.fact 35 (f := .glo "is_place") rfl)
  obtain ⟨fd_check_places, K_check_places⟩ := d.def_ 21 (d := d_check_places) rfl
  have g_check_places := He.glo_ok X G (d.fact 36 (f := .glo "check_places") rfl)
  obtain ⟨fd_unlike_in, K_unlike_in⟩ := d.def_ 22 (d := d_unlike_in) rfl
  have g_unlike_in := He.glo_ok X G (d.fact 37 (f := .glo "unlike_in") rfl)
  obtain ⟨fd_unlike, K_unlike⟩ := d.def_ 23 (d := d_unlike) rfl
  have g_unlike := He.glo_ok X G (d.fact 38 (f := .glo "unlike") rfl)
  obtain ⟨fd_law, K_law⟩ := d.def_ 24 (d := d_law) rfl
  have g_law := He.glo_ok X G (d.fact 39 (f := .glo "law") rfl)
  have e := hfa.symm.trans g_law
  cases e
  have b := FunD.bindsA (ps := P_law) K_law fun _ _ _ _ _ _ us hl => match us, hl with | [_], _ => rfl
  refine ⟨fd_law, fun s v => b s [v] rfl, fun base _ _ => ?_⟩
  have o_law_source := ok_law_source (P := P) (w := w) (base := base) T  K_law_source
  have h_law_source_2 : FnD P w K mg base 1 "_law_source" 2 [] F_law_source := fnd_n K_law_source g_law_source (FunD.bindsN (ps := P_law_source) K_law_source fun _ _ _ _ _ _ us hl => match us, hl with | [_, _], _ => rfl) o_law_source
  have o_law_draw := ok_law_draw (P := P) (w := w) (base := base) T  K_law_draw
  have h_law_draw_2 : FnD P w K mg base 1 "_law_draw" 2 [] F_law_draw := fnd_n K_law_draw g_law_draw (FunD.bindsN (ps := P_law_draw) K_law_draw fun _ _ _ _ _ _ us hl => match us, hl with | [_, _], _ => rfl) o_law_draw
  have o_law_club := ok_law_club (P := P) (w := w) (base := base) T h_law_draw_2 K_law_club
  have h_law_club_1 : FnD P w K mg base 2 "_law_club" 1 [] F_law_club := fnd_n K_law_club g_law_club (FunD.bindsN (ps := P_law_club) K_law_club fun _ _ _ _ _ _ us hl => match us, hl with | [_], _ => rfl) o_law_club
  have o_law_rows := ok_law_rows (P := P) (w := w) (base := base) T  K_law_rows
  have h_law_rows_1 : FnD P w K mg base 1 "_law_rows" 1 [] F_law_rows := fnd_n K_law_rows g_law_rows (FunD.bindsN (ps := P_law_rows) K_law_rows fun _ _ _ _ _ _ us hl => match us, hl with | [_], _ => rfl) o_law_rows
  have o_is_integer := ok_is_integer (P := P) (w := w) (base := base) T  K_is_integer
  have h_is_integer_1 : FnD P w K mg base 1 "is_integer" 1 [] F_is_integer := fnd_n K_is_integer g_is_integer (FunD.bindsN (ps := P_is_integer) K_is_integer fun _ _ _ _ _ _ us hl => match us, hl with | [_], _ => rfl) o_is_integer
  have o_is_within := ok_is_within (P := P) (w := w) (base := base) T h_is_integer_1 K_is_within
  have h_is_within_3 : FnD P w K mg base 2 "is_within" 3 [] F_is_within := fnd_n K_is_within g_is_within (FunD.bindsN (ps := P_is_within) K_is_within fun _ _ _ _ _ _ us hl => match us, hl with | [_, _, _], _ => rfl) o_is_within
  have o_is_many := ok_is_many (P := P) (w := w) (base := base) T h_is_within_3 K_is_many
  have h_is_many_1 : FnD P w K mg base 3 "is_many" 1 [] F_is_many := fnd_n K_is_many g_is_many (FunD.bindsN (ps := P_is_many) K_is_many fun _ _ _ _ _ _ us hl => match us, hl with | [_], _ => rfl) o_is_many
  have o_size_of := ok_size_of (P := P) (w := w) (base := base) T  K_size_of
  have h_size_of_1 : FnD P w K mg base 1 "size_of" 1 [] F_size_of := fnd_n K_size_of g_size_of (FunD.bindsN (ps := P_size_of) K_size_of fun _ _ _ _ _ _ us hl => match us, hl with | [_], _ => rfl) o_size_of
  have o_is_club := ok_is_club (P := P) (w := w) (base := base) T h_is_many_1 h_size_of_1 h_is_within_3 K_is_club
  have h_is_club_1 : FnD P w K mg base 4 "is_club" 1 [] F_is_club := fnd_n K_is_club g_is_club (FunD.bindsN (ps := P_is_club) K_is_club fun _ _ _ _ _ _ us hl => match us, hl with | [_], _ => rfl) o_is_club
  have o_check_club := ok_check_club (P := P) (w := w) (base := base) T h_is_club_1 K_check_club
  have h_check_club_1 : FnD P w K mg base 5 "check_club" 1 [] F_check_club := fnd_n K_check_club g_check_club (FunD.bindsN (ps := P_check_club) K_check_club fun _ _ _ _ _ _ us hl => match us, hl with | [_], _ => rfl) o_check_club
  have o_slips_of := ok_slips_of (P := P) (w := w) (base := base) T  K_slips_of
  have h_slips_of_2 : FnD P w K mg base 1 "slips_of" 2 [] F_slips_of := fnd_n K_slips_of g_slips_of (FunD.bindsN (ps := P_slips_of) K_slips_of fun _ _ _ _ _ _ us hl => match us, hl with | [_, _], _ => rfl) o_slips_of
  have o_all_rows := ok_all_rows (P := P) (w := w) (base := base) T h_size_of_1 h_slips_of_2 K_all_rows
  have h_all_rows_1 : FnD P w K mg base 2 "all_rows" 1 [] F_all_rows := fnd_n K_all_rows g_all_rows (FunD.bindsN (ps := P_all_rows) K_all_rows fun _ _ _ _ _ _ us hl => match us, hl with | [_], _ => rfl) o_all_rows
  have o_rows := ok_rows (P := P) (w := w) (base := base) T h_check_club_1 h_all_rows_1 K_rows
  have h_rows_1 : FnD P w K mg base 6 "rows" 1 [] F_rows := fnd_n K_rows g_rows (FunD.bindsN (ps := P_rows) K_rows fun _ _ _ _ _ _ us hl => match us, hl with | [_], _ => rfl) o_rows
  have o_law_integer := ok_law_integer (P := P) (w := w) (base := base) T  K_law_integer
  have h_law_integer_1 : FnD P w K mg base 1 "_law_integer" 1 [] F_law_integer := fnd_n K_law_integer g_law_integer (FunD.bindsN (ps := P_law_integer) K_law_integer fun _ _ _ _ _ _ us hl => match us, hl with | [_], _ => rfl) o_law_integer
  have o_law_is_table := ok_law_is_table (P := P) (w := w) (base := base) T h_law_integer_1 K_law_is_table
  have h_law_is_table_2 : FnD P w K mg base 2 "_law_is_table" 2 [] F_law_is_table := fnd_n K_law_is_table g_law_is_table (FunD.bindsN (ps := P_law_is_table) K_law_is_table fun _ _ _ _ _ _ us hl => match us, hl with | [_, _], _ => rfl) o_law_is_table
  have o_place_of := ok_place_of (P := P) (w := w) (base := base) T  K_place_of
  have h_place_of_2 : FnD P w K mg base 1 "place_of" 2 [] F_place_of := fnd_n K_place_of g_place_of (FunD.bindsN (ps := P_place_of) K_place_of fun _ _ _ _ _ _ us hl => match us, hl with | [_, _], _ => rfl) o_place_of
  have o_is_table := ok_is_table (P := P) (w := w) (base := base) T  K_is_table
  have h_is_table_2 : FnD P w K mg base 1 "is_table" 2 [] F_is_table := fnd_n K_is_table g_is_table (FunD.bindsN (ps := P_is_table) K_is_table fun _ _ _ _ _ _ us hl => match us, hl with | [_, _], _ => rfl) o_is_table
  have o_is_row := ok_is_row (P := P) (w := w) (base := base) T h_is_within_3 h_is_table_2 K_is_row
  have h_is_row_2 : FnD P w K mg base 3 "is_row" 2 [] F_is_row := fnd_n K_is_row g_is_row (FunD.bindsN (ps := P_is_row) K_is_row fun _ _ _ _ _ _ us hl => match us, hl with | [_, _], _ => rfl) o_is_row
  have o_number_of := ok_number_of (P := P) (w := w) (base := base) T h_check_club_1 h_is_row_2 h_place_of_2 K_number_of
  have h_number_of_2 : FnD P w K mg base 6 "number_of" 2 [] F_number_of := fnd_n K_number_of g_number_of (FunD.bindsN (ps := P_number_of) K_number_of fun _ _ _ _ _ _ us hl => match us, hl with | [_, _], _ => rfl) o_number_of
  have o_law_is_tuple := ok_law_is_tuple (P := P) (w := w) (base := base) T h_law_integer_1 K_law_is_tuple
  have h_law_is_tuple_2 : FnD P w K mg base 2 "_law_is_tuple" 2 [] F_law_is_tuple := fnd_n K_law_is_tuple g_law_is_tuple (FunD.bindsN (ps := P_law_is_tuple) K_law_is_tuple fun _ _ _ _ _ _ us hl => match us, hl with | [_, _], _ => rfl) o_law_is_tuple
  have o_is_place := ok_is_place (P := P) (w := w) (base := base) T h_is_within_3 h_size_of_1 K_is_place
  have h_is_place_2 : FnD P w K mg base 3 "is_place" 2 [] F_is_place := fnd_n K_is_place g_is_place (FunD.bindsN (ps := P_is_place) K_is_place fun _ _ _ _ _ _ us hl => match us, hl with | [_, _], _ => rfl) o_is_place
  have o_check_places := ok_check_places (P := P) (w := w) (base := base) T h_is_place_2 K_check_places
  have h_check_places_3 : FnD P w K mg base 4 "check_places" 3 [] F_check_places := fnd_n K_check_places g_check_places (FunD.bindsN (ps := P_check_places) K_check_places fun _ _ _ _ _ _ us hl => match us, hl with | [_, _, _], _ => rfl) o_check_places
  have o_unlike_in := ok_unlike_in (P := P) (w := w) (base := base) T h_slips_of_2 K_unlike_in
  have h_unlike_in_3 : FnD P w K mg base 2 "unlike_in" 3 [] F_unlike_in := fnd_n K_unlike_in g_unlike_in (FunD.bindsN (ps := P_unlike_in) K_unlike_in fun _ _ _ _ _ _ us hl => match us, hl with | [_, _, _], _ => rfl) o_unlike_in
  have o_unlike := ok_unlike (P := P) (w := w) (base := base) T h_check_club_1 h_check_places_3 h_unlike_in_3 K_unlike
  have h_unlike_3 : FnD P w K mg base 6 "unlike" 3 [] F_unlike := fnd_n K_unlike g_unlike (FunD.bindsN (ps := P_unlike) K_unlike fun _ _ _ _ _ _ us hl => match us, hl with | [_, _, _], _ => rfl) o_unlike
  exact ok_law T h_law_source_2 h_law_club_1 h_law_rows_1 h_rows_1 h_law_is_table_2 h_law_draw_2 h_number_of_2 h_law_integer_1 h_law_is_tuple_2 h_unlike_3 K_law
def loose0 : List Str := ["CauseError", "NoClub", "NoRow", "MOST_MEMBERS", "is_integer", "is_within", "is_table", "is_many", "MOST_SORTS", "MOST_ROWS", "size_of", "is_club", "check_club", "is_row", "is_place", "check_places", "place_of", "slips_of", "all_rows", "rows", "number_of", "unlike_in", "unlike", "_law_source", "_law_draw", "_law_integer", "_law_club", "_law_rows", "_law_is_table", "_law_is_tuple"]
def loose : List Str := loose0
abbrev R : PySem.W.OpenRow := PySem.W.OpenLaw.row PySem.Challenge.rw_owncause_k01_whole_rows_and_their_number
abbrev hk : PySem.W.Hook := hookE 4 fal fnl exl
def ob (s : PySem.W.SharedT) : AlE := obsEG 4 fal fnl exl (HandSHeadRun.getT s)
theorem ob_eq (s : PySem.W.SharedT) : ob s = hk.obs s.abs := obsEG_eq (HandSHeadRun.getT_eq s)
theorem run (w : World) : HandSHeadRun.RunEq R (PySem.W.view R.prog [34]) hk ob 4000 loose w := by
  intro os
  kernel_rfl
end Lk01
end

set_option Elab.async false
set_option linter.all false
set_option maxRecDepth 100000
set_option maxHeartbeats 1000000
namespace Lk01
open PySem PySem.Spec L2 DL
abbrev T (l : List Int) : D := .tup (l.map .int)
theorem isint_ok (i : Int) : F_is_integer [.int i] = .ok (.bl true) [none] := by kernel_rfl
theorem lint_ok (i : Int) : F_law_integer [.int i] = .ok (.bl true) [none] := by kernel_rfl
theorem within_ok (i a b : Int) : F_is_within [.int i, .int a, .int b] = .ok (.bl (decide (a ≤ i ∧ i ≤ b))) [none, none, none] := by
  have v0 : eVar 0 [some (.int i), some (.int a), some (.int b)] = .ok (.int i) [some (.int i), some (.int a), some (.int b)] := rfl
  have v1 : eVar 1 [some (.int i), some (.int a), some (.int b)] = .ok (.int a) [some (.int i), some (.int a), some (.int b)] := rfl
  have v2 : eVar 2 [some (.int i), some (.int a), some (.int b)] = .ok (.int b) [some (.int i), some (.int a), some (.int b)] := rfl
  have hc : eCall F_is_integer (aCons (eVar 0) aNil) [] [] [some (.int i), some (.int a), some (.int b)] = .ok (.bl true) [some (.int i), some (.int a), some (.int b)] := eCall_of (aCons_ok v0 rfl) rfl (isint_ok i) rfl
  refine run_ok (b := b_is_within) (ρ := [some (.int i), some (.int a), some (.int b)]) (ρ0 := [some (.int i), some (.int a), some (.int b)]) ?_ rfl (by simp) rfl
  unfold b_is_within
  exact sRet_ok (eAnd_t hc (chain_ok (l := 0) v1 v0 v2 rfl rfl))
theorem mem_T {l : List Int} {d : D} (h : d ∈ l.map D.int) : ∃ i, i ∈ l ∧ d = .int i := by
  obtain ⟨i, h1, h2⟩ := List.mem_map.mp h
  exact ⟨i, h1, h2.symm⟩
theorem prod_le : ∀ (l : List Int) (a : Int), (∀ x ∈ l, 1 ≤ x) → 0 ≤ a → a ≤ l.foldl (· * ·) a
  | [], a, _, _ => Int.le_refl a
  | x :: l, a, h, ha => by
    have hx := h x List.mem_cons_self
    have h1 : a ≤ a * x := by
      have := Int.mul_le_mul_of_nonneg_left hx ha
      omega
    exact Int.le_trans h1 (prod_le l (a * x) (fun y hy => h y (List.mem_cons_of_mem _ hy)) (Int.le_trans ha h1))
/-- size_of -/
theorem size_loop (c : D) : ∀ (l : List Int) (a : Int) (x : Option D), (∀ x ∈ l, 1 ≤ x ∧ x ≤ 4) → 1 ≤ a → l.foldl (· * ·) a ≤ 2 ^ 40 →
    ∃ y, forGo (gSet 2) (sAug 1 mulI (eVar 2)) (l.map D.int) [some c, some (.int a), x] = .nx [some c, some (.int (l.foldl (· * ·) a)), y]
  | [], a, x, _, _, _ => ⟨x, rfl⟩
  | s :: l, a, x, h, ha, hb => by
    have hs := h s List.mem_cons_self
    have h1 : a ≤ a * s := by
      have := Int.mul_le_mul_of_nonneg_left hs.1 (show (0:Int) ≤ a by omega)
      omega
    have h2 : a * s ≤ 2 ^ 40 := Int.le_trans (prod_le l (a * s) (fun y hy => (h y (List.mem_cons_of_mem _ hy)).1) (by omega)) hb
    obtain ⟨y, ih⟩ := size_loop c l (a * s) (some (.int s)) (fun y hy => h y (List.mem_cons_of_mem _ hy)) (by omega) hb
    refine ⟨y, ?_⟩
    have hm : mulI (.int a) (.int s) = some (.int (a * s)) := by
      have hx : CMulX a s := mulx_ok (a := 80) (b := 80) (by omega) (by omega) (by decide)
      simp [mulI, ii, hx]
    have hb1 : sAug 1 mulI (eVar 2) [some c, some (.int a), some (.int s)] = .nx [some c, some (.int (a * s)), some (.int s)] := by
      unfold sAug
      show sE (eVar 2) _ _ = _
      rw [sE_of (show eVar 2 [some c, some (.int a), some (.int s)] = .ok (.int s) [some c, some (.int a), some (.int s)] from rfl), hm]
      rfl
    show forGo (gSet 2) (sAug 1 mulI (eVar 2)) (.int s :: l.map D.int) _ = _
    unfold forGo
    show (match sAug 1 mulI (eVar 2) [some c, some (.int a), some (.int s)] with | .nx ρ' => forGo (gSet 2) (sAug 1 mulI (eVar 2)) (l.map D.int) ρ' | .cnt ρ' => forGo (gSet 2) (sAug 1 mulI (eVar 2)) (l.map D.int) ρ' | .brk ρ' => .nx ρ' | r => r) = _
    rw [hb1]
    exact ih
theorem size_ok {l : List Int} (h : ∀ x ∈ l, 1 ≤ x ∧ x ≤ 4) (hb : l.foldl (· * ·) 1 ≤ 2 ^ 40) : F_size_of [T l] = .ok (.int (l.foldl (· * ·) 1)) [none] := by
  obtain ⟨y, e⟩ := size_loop (T l) l 1 none h (by omega) hb
  refine run_ok (b := b_size_of) (ρ := [some (T l), some (.int (l.foldl (· * ·) 1)), y]) (ρ0 := [some (T l), none, none]) ?_ rfl (by simp) rfl
  unfold b_size_of
  refine Eq.trans (seq_nx (ρ1 := [some (T l), some (.int 1), none]) (by exact sAsg_ok rfl rfl)) ?_
  refine Eq.trans (seq_nx (ρ1 := [some (T l), some (.int (l.foldl (· * ·) 1)), y]) ?_) ?_
  · unfold sFor
    rw [sE_of (iSeq_ok (ds := l.map D.int) (show eVar 0 [some (T l), some (.int 1), none] = .ok (T l) [some (T l), some (.int 1), none] from rfl) rfl)]
    exact e
  · exact sRet_ok rfl
end Lk01

set_option Elab.async false
set_option linter.all false
set_option maxRecDepth 100000
set_option maxHeartbeats 1000000
namespace Lk01
open PySem PySem.Spec L2 DL
/-- the slips of a number, the last member's first -/
def slipsR : List Int → Int → List Int
  | [], _ => []
  | s :: r, n => n % s :: slipsR r (n / s)
theorem slipsR_len : ∀ (r : List Int) (n : Int), (slipsR r n).length = r.length
  | [], _ => rfl
  | s :: r, n => by show (slipsR r (n / s)).length + 1 = _; rw [slipsR_len r]; rfl
theorem slips_loop (c : D) : ∀ (r : List Int) (n : Int) (acc : List Int) (x : Option D), (∀ s ∈ r, 1 ≤ s ∧ s ≤ 4) → acc.length + r.length ≤ 1000 →
    ∃ n' y, forGo (gSet 3) (sSeq (sDrop (eApp 2 (e2 modD (eVar 1) (eVar 3)))) (sAsg (e2 fdivD (eVar 1) (eVar 3)) (gSet 1))) (r.map D.int) [some c, some (.int n), some (.lst true (acc.map D.int)), x] = .nx [some c, some (.int n'), some (.lst true ((acc ++ slipsR r n).map D.int)), y]
  | [], n, acc, x, _, _ => ⟨n, x, by rw [show slipsR [] n = [] from rfl, List.append_nil]; rfl⟩
  | s :: r, n, acc, x, h, hb => by
    have hs := h s List.mem_cons_self
    obtain ⟨n', y, ih⟩ := slips_loop c r (n / s) (acc ++ [n % s]) (some (.int s)) (fun y hy => h y (List.mem_cons_of_mem _ hy)) (by simp at hb ⊢; omega)
    refine ⟨n', y, ?_⟩
    have m1 : modD (.int n) (.int s) = some (.int (n % s)) := modD_ok (by omega)
    have m2 : fdivD (.int n) (.int s) = some (.int (n / s)) := fdivD_ok (by omega) (by omega)
    have hm : e2 modD (eVar 1) (eVar 3) [some c, some (.int n), some (.lst true (acc.map D.int)), some (.int s)] = .ok (.int (n % s)) [some c, some (.int n), some (.lst true (acc.map D.int)), some (.int s)] := mod_ok (i := n) (j := s) rfl rfl m1
    have ha : eApp 2 (e2 modD (eVar 1) (eVar 3)) [some c, some (.int n), some (.lst true (acc.map D.int)), some (.int s)] = .ok .non [some c, some (.int n), some (.lst true ((acc ++ [n % s]).map D.int)), some (.int s)] := by
      unfold eApp
      show mbind (e2 modD (eVar 1) (eVar 3)) _ _ = _
      rw [mbind_of hm]
      show (if (acc.map D.int).length < sizeLine then Res.ok D.non [some c, some (.int n), some (.lst true (acc.map D.int ++ [.int (n % s)])), some (.int s)] else .stuck) = _
      rw [if_pos (by rw [List.length_map, sizeLine_eq]; simp at hb; omega), List.map_append]
      rfl
    have hd : e2 fdivD (eVar 1) (eVar 3) [some c, some (.int n), some (.lst true ((acc ++ [n % s]).map D.int)), some (.int s)] = .ok (.int (n / s)) [some c, some (.int n), some (.lst true ((acc ++ [n % s]).map D.int)), some (.int s)] := fdiv_ok (i := n) (j := s) rfl rfl m2
    have hbdy : (sSeq (sDrop (eApp 2 (e2 modD (eVar 1) (eVar 3)))) (sAsg (e2 fdivD (eVar 1) (eVar 3)) (gSet 1))) [some c, some (.int n), some (.lst true (acc.map D.int)), some (.int s)] = .nx [some c, some (.int (n / s)), some (.lst true ((acc ++ [n % s]).map D.int)), some (.int s)] :=
      (seq_nx (sDrop_ok ha)).trans (sAsg_ok hd rfl)
    have e1 : acc ++ slipsR (s :: r) n = (acc ++ [n % s]) ++ slipsR r (n / s) := by
      show acc ++ (n % s :: slipsR r (n / s)) = _
      rw [List.append_assoc]
      rfl
    rw [e1]
    show forGo (gSet 3) _ (.int s :: r.map D.int) _ = _
    unfold forGo
    show (match (sSeq (sDrop (eApp 2 (e2 modD (eVar 1) (eVar 3)))) (sAsg (e2 fdivD (eVar 1) (eVar 3)) (gSet 1))) [some c, some (.int n), some (.lst true (acc.map D.int)), some (.int s)] with | .nx ρ' => forGo (gSet 3) _ (r.map D.int) ρ' | .cnt ρ' => forGo (gSet 3) _ (r.map D.int) ρ' | .brk ρ' => .nx ρ' | r => r) = _
    rw [hbdy]
    exact ih
theorem slips_ok {l : List Int} (h : ∀ x ∈ l, 1 ≤ x ∧ x ≤ 4) (hl : l.length ≤ 8) (n : Int) : F_slips_of [T l, .int n] = .ok (T (slipsR l.reverse n).reverse) [none, none] := by
  obtain ⟨n', y, e⟩ := slips_loop (T l) l.reverse n [] none (fun x hx => h x (List.mem_reverse.mp hx)) (by simp; omega)
  rw [List.nil_append] at e
  refine run_ok (b := b_slips_of) (ρ := [some (T l), some (.int n'), some (.lst false ((slipsR l.reverse n).map D.int)), y]) (ρ0 := [some (T l), some (.int n), none, none]) ?_ rfl (by simp) rfl
  unfold b_slips_of
  refine Eq.trans (seq_nx (ρ1 := [some (T l), some (.int n), some (.lst true []), none]) (by exact sAsg_ok (d := .lst true []) (eLst_ok rfl (by simp)) rfl)) ?_
  refine Eq.trans (seq_nx (ρ1 := [some (T l), some (.int n'), some (.lst true ((slipsR l.reverse n).map D.int)), y]) ?_) ?_
  · unfold sFor
    have hi : iRevD (eVar 0) [some (T l), some (.int n), some (.lst true []), none] = .ok (l.reverse.map D.int) [some (T l), some (.int n), some (.lst true []), none] := by
      unfold iRevD
      rw [mbind_of (show eVar 0 [some (T l), some (.int n), some (.lst true []), none] = .ok (T l) _ from rfl)]
      show Res.ok ((l.map D.int).reverse) _ = _
      rw [List.map_reverse]
    rw [sE_of hi]
    exact e
  · unfold sFrz
    have hf : frzAt 2 [some (T l), some (.int n'), some (.lst true ((slipsR l.reverse n).map D.int)), y] = [some (T l), some (.int n'), some (.lst false ((slipsR l.reverse n).map D.int)), y] := by
      show [some (T l), some (.int n'), some (.lst false (frzL ((slipsR l.reverse n).map D.int))), y] = _
      rw [frzL_ints]
    show sRet (eTupRev (eVar 2)) (frzAt 2 _) = _
    rw [hf]
    refine sRet_ok ?_
    unfold eTupRev
    rw [mbind_of (show eVar 2 [some (T l), some (.int n'), some (.lst false ((slipsR l.reverse n).map D.int)), y] = .ok (.lst false ((slipsR l.reverse n).map D.int)) _ from rfl)]
    show Res.ok (D.tup (frzL ((slipsR l.reverse n).map D.int)).reverse) _ = _
    rw [frzL_ints, ← List.map_reverse]
end Lk01

set_option Elab.async false
set_option linter.all false
set_option maxRecDepth 100000
set_option maxHeartbeats 1000000
namespace Lk01
open PySem PySem.Spec L2 DL
/-- the place of a row -/
def placeP : List Int → List Int → Int → Int
  | s :: r, c :: l, a => placeP r l (a * c + s)
  | _, _, a => a
def Row : List Int → List Int → Prop
  | [], [] => True
  | s :: r, c :: l => 0 ≤ s ∧ s < c ∧ c ≤ 4 ∧ Row r l
  | _, _ => False
theorem place_loop (p q : Option D) : ∀ (r l : List Int) (a b : Int) (x y : Option D), Row r l → 0 ≤ a → a < b → b * 4 ^ l.length ≤ 2 ^ 60 →
    ∃ x' y', forGo (gTupD 2 (gsCons (gSet 3) (gsCons (gSet 4) gsNil))) (sAsg (eFrz (e2 addD (e2 mulD (eVar 2) (eVar 4)) (eVar 3))) (gSet 2)) (zipD (r.map D.int) (l.map D.int)) [p, q, some (.int a), x, y] = .nx [p, q, some (.int (placeP r l a)), x', y']
  | [], [], a, b, x, y, _, _, _, _ => ⟨x, y, rfl⟩
  | [], _ :: _, _, _, _, _, h, _, _, _ => h.elim
  | _ :: _, [], _, _, _, _, h, _, _, _ => h.elim
  | s :: r, c :: l, a, b, x, y, h, ha, hab, hb => by
    obtain ⟨h1, h2, h3, h4⟩ := h
    have hp : (1 : Int) ≤ 4 ^ l.length := Int.pow_pos (by decide)
    have e4 : (4 : Int) ^ (c :: l).length = 4 * 4 ^ l.length := by rw [List.length_cons, Int.pow_succ, Int.mul_comm]
    rw [e4] at hb
    have hb2 : (b * 4) * 4 ^ l.length ≤ 2 ^ 60 := by rw [Int.mul_assoc]; exact hb
    have hb3 : b * 4 ≤ 2 ^ 60 := by
      have := Int.mul_le_mul_of_nonneg_left hp (show (0 : Int) ≤ b * 4 by omega)
      omega
    have hac : a * c ≤ a * 4 := Int.mul_le_mul_of_nonneg_left h3 ha
    have hac0 : 0 ≤ a * c := Int.mul_nonneg ha (by omega)
    obtain ⟨x', y', ih⟩ := place_loop p q r l (a * c + s) (b * 4) (some (.int s)) (some (.int c)) h4 (by omega) (by omega) hb2
    refine ⟨x', y', ?_⟩
    have m1 : mulD (.int a) (.int c) = some (.int (a * c)) := mulD_ok2 (by omega) (by omega)
    have hm : e2 mulD (eVar 2) (eVar 4) [p, q, some (.int a), some (.int s), some (.int c)] = .ok (.int (a * c)) [p, q, some (.int a), some (.int s), some (.int c)] := mul_ok (i := a) (j := c) rfl rfl m1
    have hs : e2 addD (e2 mulD (eVar 2) (eVar 4)) (eVar 3) [p, q, some (.int a), some (.int s), some (.int c)] = .ok (.int (a * c + s)) [p, q, some (.int a), some (.int s), some (.int c)] := add_ok (i := a * c) (j := s) hm rfl
    have hbdy : sAsg (eFrz (e2 addD (e2 mulD (eVar 2) (eVar 4)) (eVar 3))) (gSet 2) [p, q, some (.int a), some (.int s), some (.int c)] = .nx [p, q, some (.int (a * c + s)), some (.int s), some (.int c)] := sAsg_ok (eFrz_int hs) rfl
    show forGo _ _ (.tup [.int s, .int c] :: zipD (r.map D.int) (l.map D.int)) _ = _
    unfold forGo
    show (match sAsg (eFrz (e2 addD (e2 mulD (eVar 2) (eVar 4)) (eVar 3))) (gSet 2) [p, q, some (.int a), some (.int s), some (.int c)] with | .nx ρ' => forGo _ _ (zipD (r.map D.int) (l.map D.int)) ρ' | .cnt ρ' => forGo _ _ (zipD (r.map D.int) (l.map D.int)) ρ' | .brk ρ' => .nx ρ' | r => r) = _
    rw [hbdy]
    exact ih
end Lk01

set_option Elab.async false
set_option linter.all false
set_option maxRecDepth 100000
set_option maxHeartbeats 1000000
namespace Lk01
open PySem PySem.Spec L2 DL
/-- the number of rows -/
def NR : List Int → Nat
  | [] => 1
  | s :: m => NR m * s.toNat
theorem foldl_rev (m : List Int) : m.reverse.foldl (fun a b : Int => a * b) 1 = m.foldr (fun b a => a * b) 1 := by rw [List.foldl_reverse]
theorem NR_cast : ∀ m : List Int, (∀ x ∈ m, 1 ≤ x) → (NR m : Int) = m.foldr (fun b a => a * b) 1
  | [], _ => rfl
  | s :: m, h => by
    have hs := h s List.mem_cons_self
    show ((NR m * s.toNat : Nat) : Int) = (m.foldr (fun b a => a * b) 1) * s
    rw [Int.natCast_mul, NR_cast m (fun x hx => h x (List.mem_cons_of_mem _ hx)), Int.toNat_of_nonneg (by omega)]
def Pr (l : List Int) : Int := l.foldl (· * ·) 1
theorem NR_Pr {l : List Int} (h : ∀ x ∈ l, 1 ≤ x) : (NR l.reverse : Int) = Pr l := by
  rw [NR_cast _ (fun x hx => h x (List.mem_reverse.mp hx))]
  show _ = l.foldl (fun a b : Int => a * b) 1
  rw [← foldl_rev, List.reverse_reverse]
structure Club (l : List Int) : Prop where
  s : ∀ x ∈ l, 1 ≤ x ∧ x ≤ 4
  n1 : 1 ≤ l.length
  n8 : l.length ≤ 8
  p : Pr l ≤ 256
def N (l : List Int) : Nat := NR l.reverse
theorem Club.N {l : List Int} (c : Club l) : (Lk01.N l : Int) = Pr l := NR_Pr fun x hx => (c.s x hx).1
theorem Club.Nle {l : List Int} (c : Club l) : Lk01.N l ≤ 256 := by have := c.N; have := c.p; omega
def slips (l : List Int) (k : Int) : List Int := (slipsR l.reverse k).reverse
theorem slips_len (l : List Int) (k : Int) : (slips l k).length = l.length := by unfold slips; rw [List.length_reverse, slipsR_len, List.length_reverse]
theorem many_ok {i : Int} (h : 1 ≤ i ∧ i ≤ 8) : F_is_many [.int i] = .ok (.bl true) [none] := by
  have hw : F_is_within [.int i, .int 1, .int 8] = .ok (.bl true) [none, none, none] := (within_ok i 1 8).trans (by rw [decide_eq_true h])
  refine run_ok (b := b_is_many) (ρ := [some (.int i)]) (ρ0 := [some (.int i)]) ?_ rfl (by simp) rfl
  unfold b_is_many
  exact sRet_ok (eCall_of (aCons_ok rfl (aCons_ok rfl (aCons_ok rfl rfl))) rfl hw rfl)
theorem size_ok2 {l : List Int} (c : Club l) : F_size_of [T l] = .ok (.int (N l)) [none] := by
  rw [c.N]
  exact size_ok c.s (Int.le_trans c.p (by decide))
theorem club_ok {l : List Int} (c : Club l) : F_is_club [T l] = .ok (.bl true) [none] := by
  have hN := c.Nle
  refine run_ok (b := b_is_club) (ρ := [some (T l), none]) (ρ0 := [some (T l), none]) ?_ rfl (by simp) rfl
  unfold b_is_club
  have hm : eCall F_is_many (aCons (eBi lenD (aCons (eVar 0) aNil)) aNil) [] [] [some (T l), none] = .ok (.bl true) [some (T l), none] := eCall_of (aCons_ok (eBi_ok (aCons_ok rfl rfl) (len_TI l)) rfl) rfl (many_ok ⟨by have := c.n1; omega, by have := c.n8; omega⟩) rfl
  have ht : (mOr (mNot (eB (eInst .tuple (eVar 0)))) (mNot (eB (eCall F_is_many (aCons (eBi lenD (aCons (eVar 0) aNil)) aNil) [] [])))) [some (T l), none] = .ok false [some (T l), none] :=
    mOr_f (mNot_ok (b := true) (eB_ok (eInst_ok rfl rfl))) (mNot_ok (b := true) (eB_ok hm))
  refine Eq.trans (seq_nx (ρ1 := [some (T l), none]) (Eq.trans (sIf_f (G := sNext) ht) rfl)) ?_
  refine sRet_ok (eAnd_t (ρ1 := [some (T l), none]) ?_ ?_)
  · refine all_t (o := true) (ys := (l.map D.int).map fun _ => .bl true) (aCons_ok (lc_map1 (i := 1) (ρ1 := [some (T l), none]) (iSeq_ok rfl rfl) (by rw [List.length_map]; have := c.n8; omega) rfl rfl (by decide) ?_) rfl) ?_
    · intro d hd
      obtain ⟨i, hi, rfl⟩ := mem_T hd
      have hw : F_is_within [.int i, .int 1, .int 4] = .ok (.bl true) [none, none, none] := (within_ok i 1 4).trans (by rw [decide_eq_true (c.s i hi)])
      show eFrz _ [some (T l), some (.int i)] = .ok (.bl true) [some (T l), some (.int i)]
      exact eFrz_ok (d := .bl true) (eCall_of (ρ1 := [some (T l), some (.int i)]) (aCons_ok rfl (aCons_ok rfl (aCons_ok rfl rfl))) rfl hw rfl)
    · intro y hy
      obtain ⟨_, _, rfl⟩ := List.mem_map.mp hy
      rfl
  · exact le_ok (eCall_of (ρ1 := [some (T l), none]) (aCons_ok rfl rfl) rfl (size_ok2 c) rfl) rfl (decide_eq_true (by omega))
theorem check_ok {l : List Int} (c : Club l) : F_check_club [T l] = .ok .non [none] := by
  refine run_nx (b := b_check_club) (ρ := [some (T l)]) (ρ0 := [some (T l)]) ?_ rfl (by simp) rfl
  unfold b_check_club
  exact Eq.trans (sIf_f (G := sNext) (mNot_ok (b := true) (eB_ok (eCall_of (aCons_ok rfl rfl) rfl (club_ok c) rfl)))) rfl
theorem slips_ok2 {l : List Int} (c : Club l) (k : Int) : F_slips_of [T l, .int k] = .ok (T (slips l k)) [none, none] := slips_ok c.s c.n8 k
/-- all rows -/
def rowsL (l : List Int) : List (List Int) := (List.range (N l)).map fun k : Nat => slips l (k : Int)
theorem rowsL_len (l : List Int) : (rowsL l).length = N l := by unfold rowsL; rw [List.length_map, List.length_range]
theorem rowsL_get {l : List Int} {k : Nat} (h : k < N l) : ((rowsL l).map T)[k]? = some (T (slips l k)) := by
  unfold rowsL
  rw [List.getElem?_map, List.getElem?_map, List.getElem?_range h]
  rfl
def yrow (l : List Int) : D → D
  | .int k => T (slips l k)
  | d => d
theorem all_rows_ok {l : List Int} (c : Club l) : F_all_rows [T l] = .ok (.lst true ((rowsL l).map T)) [none] := by
  have hN := c.Nle
  have e : (rowsL l).map T = (rgD 0 (N l)).map (yrow l) := by
    rw [rgD_0]
    unfold rowsL
    rw [List.map_map, List.map_map]
    rfl
  rw [e]
  refine run_ok (b := b_all_rows) (ρ := [some (T l), none]) (ρ0 := [some (T l), none]) ?_ rfl (by simp) rfl
  unfold b_all_rows
  refine sRet_ok (lc_map1 (i := 1) (ρ1 := [some (T l), none]) (iRg1_ok (n := N l) (aCons_ok (eCall_of (ρ1 := [some (T l), none]) (aCons_ok rfl rfl) rfl (size_ok2 c) rfl) rfl) (by omega)) (by rw [rgD_len]; omega) rfl rfl (by decide) ?_)
  intro d hd
  obtain ⟨i, rfl, _, _⟩ := rgD_mem hd
  show eFrz _ [some (T l), some (.int i)] = .ok (T (slips l i)) [some (T l), some (.int i)]
  exact eFrz_ok (d := T (slips l i)) (eCall_of (ρ1 := [some (T l), some (.int i)]) (aCons_ok rfl (aCons_ok rfl rfl)) rfl (slips_ok2 c i) rfl)
theorem rows_ok {l : List Int} (c : Club l) : F_rows [T l] = .ok (.lst true ((rowsL l).map T)) [none] := by
  refine run_ok (b := b_rows) (ρ := [some (T l)]) (ρ0 := [some (T l)]) ?_ rfl (by simp) rfl
  unfold b_rows
  refine Eq.trans (seq_nx (ρ1 := [some (T l)]) (sDrop_ok (eCall_of (aCons_ok rfl rfl) rfl (check_ok c) rfl))) ?_
  exact sRet_ok (eCall_of (aCons_ok rfl rfl) rfl (all_rows_ok c) rfl)
/-! rows and their numbers -/
theorem Row_snoc : ∀ {r l : List Int} {x s : Int}, Row r l → 0 ≤ x → x < s → s ≤ 4 → Row (r ++ [x]) (l ++ [s])
  | [], [], x, s, _, h1, h2, h3 => ⟨h1, h2, h3, trivial⟩
  | [], _ :: _, _, _, h, _, _, _ => h.elim
  | _ :: _, [], _, _, h, _, _, _ => h.elim
  | a :: r, b :: l, x, s, h, h1, h2, h3 => ⟨h.1, h.2.1, h.2.2.1, Row_snoc h.2.2.2 h1 h2 h3⟩
theorem placeP_snoc : ∀ {r l : List Int} {x s a : Int}, Row r l → placeP (r ++ [x]) (l ++ [s]) a = placeP r l a * s + x
  | [], [], x, s, a, _ => rfl
  | [], _ :: _, _, _, _, h => h.elim
  | _ :: _, [], _, _, _, h => h.elim
  | p :: r, b :: l, x, s, a, h => placeP_snoc (r := r) (l := l) (a := a * b + p) h.2.2.2
theorem row_of : ∀ (m : List Int) (k : Int), (∀ x ∈ m, 1 ≤ x ∧ x ≤ 4) → 0 ≤ k → k < NR m → Row (slipsR m k).reverse m.reverse ∧ placeP (slipsR m k).reverse m.reverse 0 = k
  | [], k, _, h0, h1 => ⟨trivial, by have : NR [] = 1 := rfl; rw [this] at h1; show (0 : Int) = k; omega⟩
  | s :: m, k, h, h0, h1 => by
    have hs := h s List.mem_cons_self
    have e : NR (s :: m) = NR m * s.toNat := rfl
    rw [e, Int.natCast_mul, Int.toNat_of_nonneg (by omega)] at h1
    obtain ⟨i1, i2⟩ := row_of m (k / s) (fun x hx => h x (List.mem_cons_of_mem _ hx)) (Int.ediv_nonneg h0 (by omega)) (Int.ediv_lt_of_lt_mul (by omega) h1)
    show Row (k % s :: slipsR m (k / s)).reverse (s :: m).reverse ∧ placeP (k % s :: slipsR m (k / s)).reverse (s :: m).reverse 0 = k
    rw [List.reverse_cons, List.reverse_cons, placeP_snoc i1, i2]
    exact ⟨Row_snoc i1 (Int.emod_nonneg _ (by omega)) (Int.emod_lt_of_pos _ (by omega)) hs.2, by rw [Int.mul_comm]; exact Int.mul_ediv_add_emod k s⟩
theorem Club.row {l : List Int} (c : Club l) {k : Nat} (h : k < Lk01.N l) : Row (slips l k) l ∧ placeP (slips l k) l 0 = k := by
  have z := row_of l.reverse k (fun x hx => c.s x (List.mem_reverse.mp hx)) (by omega) (by have : Lk01.N l = NR l.reverse := rfl; omega)
  rw [List.reverse_reverse] at z
  exact z
end Lk01

set_option Elab.async false
set_option linter.all false
set_option maxRecDepth 100000
set_option maxHeartbeats 1000000
namespace Lk01
open PySem PySem.Spec L2 DL
theorem Row.len : ∀ {r l : List Int}, Row r l → r.length = l.length
  | [], [], _ => rfl
  | [], _ :: _, h => h.elim
  | _ :: _, [], h => h.elim
  | _ :: r, _ :: l, h => by rw [List.length_cons, List.length_cons, Row.len h.2.2.2]
theorem Row.zip : ∀ {r l : List Int}, Row r l → ∀ d ∈ zipD (r.map D.int) (l.map D.int), ∃ a b : Int, d = .tup [.int a, .int b] ∧ 0 ≤ a ∧ a < b
  | [], [], _, d, hd => by cases hd
  | [], _ :: _, h, _, _ => h.elim
  | _ :: _, [], h, _, _ => h.elim
  | a :: r, b :: l, h, d, hd => by
    rcases List.mem_cons.mp hd with rfl | hd
    · exact ⟨a, b, rfl, h.1, h.2.1⟩
    · exact Row.zip h.2.2.2 d hd
theorem zipD_len : ∀ (xs ys : List D), (zipD xs ys).length ≤ xs.length
  | [], _ => Nat.zero_le _
  | _ :: _, [] => Nat.zero_le _
  | _ :: xs, _ :: ys => Nat.succ_le_succ (zipD_len xs ys)
theorem zip_ok {r l : List Int} (ρ : DL.Env) {f g : M D} (h1 : f ρ = .ok (T r) ρ) (h2 : g ρ = .ok (T l) ρ) : iZipD (aCons f (aCons g aNil)) ρ = .ok (zipD (r.map D.int) (l.map D.int)) ρ := by
  unfold iZipD
  have h : aCons f (aCons g aNil) ρ = .ok [T r, T l] ρ := aCons_ok h1 (aCons_ok h2 rfl)
  rw [mbind_of h]
  rfl
def env2 (ρ : List (Option D)) : D → DL.Env
  | .tup [a, b] => ρ ++ [some a, some b]
  | _ => []
theorem is_row_ok {r l : List Int} (h : Row r l) (hl : l.length ≤ 8) : F_is_row [T l, T r] = .ok (.bl true) [none, none] := by
  have hlen := h.len
  have e0 : ∀ f : M D, f [some (T l), some (T r), none, none] = f [some (T l), some (T r), none, none] := fun _ => rfl
  refine run_ok (b := b_is_row) (ρ := [some (T l), some (T r), none, none]) (ρ0 := [some (T l), some (T r), none, none]) ?_ rfl (by simp) rfl
  have ht : F_is_table [T r, .int l.length] = .ok (.bl true) [none, none] := by
    refine run_ok (b := b_is_table) (ρ := [some (T r), some (.int l.length)]) (ρ0 := [some (T r), some (.int l.length)]) ?_ rfl (by simp) rfl
    unfold b_is_table
    exact sRet_ok (eAnd_t (ρ1 := [some (T r), some (.int l.length)]) (eInst_ok rfl rfl) (eqi_ok (i := r.length) (j := l.length) (eBi_ok (aCons_ok rfl rfl) (len_TI r)) rfl (decide_eq_true (by omega))))
  unfold b_is_row
  refine sRet_ok (eAnd_t (ρ1 := [some (T l), some (T r), none, none]) (eCall_of (aCons_ok rfl (aCons_ok (eBi_ok (aCons_ok rfl rfl) (len_TI l)) rfl)) rfl ht rfl) ?_)
  refine all_t (o := true) (ys := (zipD (r.map D.int) (l.map D.int)).map fun _ => .bl true) (aCons_ok (eLcL_ok (ρ1 := [some (T l), some (T r), none, none]) (ds := zipD (r.map D.int) (l.map D.int)) (zip_ok _ rfl rfl) (by have := zipD_len (r.map D.int) (l.map D.int); rw [List.length_map] at this; omega) rfl (lcGo_map [some (T l), some (T r), none, none] (env2 [some (T l), some (T r)]) (fun _ => .bl true) _ _ rfl ?_)) rfl) ?_
  · intro d hd
    obtain ⟨a, b, rfl, h1, h2⟩ := h.zip d hd
    refine ⟨rfl, ?_, rfl⟩
    have hw : F_is_within [.int a, .int 0, .int (b - 1)] = .ok (.bl true) [none, none, none] := (within_ok a 0 (b - 1)).trans (by rw [decide_eq_true (by omega)])
    show eFrz _ [some (T l), some (T r), some (.int a), some (.int b)] = .ok (.bl true) [some (T l), some (T r), some (.int a), some (.int b)]
    exact eFrz_ok (d := .bl true) (eCall_of (ρ1 := [some (T l), some (T r), some (.int a), some (.int b)]) (aCons_ok rfl (aCons_ok rfl (aCons_ok (sub_ok rfl rfl) rfl))) rfl hw rfl)
  · intro y hy
    obtain ⟨_, _, rfl⟩ := List.mem_map.mp hy
    rfl
theorem place_ok {r l : List Int} (h : Row r l) (hl : l.length ≤ 8) : F_place_of [T l, T r] = .ok (.int (placeP r l 0)) [none, none] := by
  have hp : (1 : Int) * 4 ^ l.length ≤ 2 ^ 60 := by
    have h0 : 4 ^ l.length ≤ 4 ^ 8 := Nat.pow_le_pow_right (by decide) hl
    have h1 : ((4 ^ l.length : Nat) : Int) ≤ ((4 ^ 8 : Nat) : Int) := Int.ofNat_le.mpr h0
    rw [Int.natCast_pow] at h1
    have e4 : ((4 : Nat) : Int) = 4 := rfl
    rw [e4] at h1
    have e8 : ((4 ^ 8 : Nat) : Int) = 65536 := by decide
    rw [e8] at h1
    omega
  obtain ⟨x, y, e⟩ := place_loop (some (T l)) (some (T r)) r l 0 1 none none h (by omega) (by omega) hp
  refine run_ok (b := b_place_of) (ρ := [some (T l), some (T r), some (.int (placeP r l 0)), x, y]) (ρ0 := [some (T l), some (T r), none, none, none]) ?_ rfl (by simp) rfl
  unfold b_place_of
  refine Eq.trans (seq_nx (ρ1 := [some (T l), some (T r), some (.int 0), none, none]) (by exact sAsg_ok rfl rfl)) ?_
  refine Eq.trans (seq_nx (ρ1 := [some (T l), some (T r), some (.int (placeP r l 0)), x, y]) ((sFor_of (zip_ok _ rfl rfl)).trans e)) ?_
  exact sRet_ok rfl
theorem number_ok {l : List Int} (c : Club l) {k : Nat} (h : k < N l) : F_number_of [T l, T (slips l k)] = .ok (.int k) [none, none] := by
  obtain ⟨h1, h2⟩ := c.row h
  refine run_ok (b := b_number_of) (ρ := [some (T l), some (T (slips l k))]) (ρ0 := [some (T l), some (T (slips l k))]) ?_ rfl (by simp) rfl
  have hp := place_ok h1 c.n8
  rw [h2] at hp
  unfold b_number_of
  refine Eq.trans (seq_nx (ρ1 := [some (T l), some (T (slips l k))]) (sDrop_ok (eCall_of (aCons_ok rfl rfl) rfl (check_ok c) rfl))) ?_
  refine Eq.trans (seq_nx (ρ1 := [some (T l), some (T (slips l k))]) (Eq.trans (sIf_f (G := sNext) (mNot_ok (b := true) (eB_ok (eCall_of (aCons_ok rfl (aCons_ok rfl rfl)) rfl (is_row_ok h1 c.n8) rfl)))) rfl)) ?_
  exact sRet_ok (eCall_of (aCons_ok rfl (aCons_ok rfl rfl)) rfl hp rfl)
theorem is_place_ok {l : List Int} (c : Club l) {k : Nat} (h : k < N l) : F_is_place [T l, .int k] = .ok (.bl true) [none, none] := by
  refine run_ok (b := b_is_place) (ρ := [some (T l), some (.int k)]) (ρ0 := [some (T l), some (.int k)]) ?_ rfl (by simp) rfl
  have hw : F_is_within [.int k, .int 0, .int (N l - 1)] = .ok (.bl true) [none, none, none] := (within_ok k 0 (N l - 1)).trans (by rw [decide_eq_true (by omega)])
  unfold b_is_place
  exact sRet_ok (eCall_of (ρ1 := [some (T l), some (.int k)]) (aCons_ok rfl (aCons_ok rfl (aCons_ok (sub_ok (eCall_of (ρ1 := [some (T l), some (.int k)]) (aCons_ok rfl rfl) rfl (size_ok2 c) rfl) rfl) rfl))) rfl hw rfl)
theorem check_places_ok {l : List Int} (c : Club l) {j k : Nat} (hj : j < N l) (hk : k < N l) : F_check_places [T l, .int j, .int k] = .ok .non [none, none, none] := by
  refine run_nx (b := b_check_places) (ρ := [some (T l), some (.int j), some (.int k)]) (ρ0 := [some (T l), some (.int j), some (.int k)]) ?_ rfl (by simp) rfl
  unfold b_check_places
  exact Eq.trans (sIf_f (G := sNext) (mOr_f (ρ1 := [some (T l), some (.int j), some (.int k)]) (mNot_ok (b := true) (eB_ok (eCall_of (aCons_ok rfl (aCons_ok rfl rfl)) rfl (is_place_ok c hj) rfl))) (mNot_ok (b := true) (eB_ok (eCall_of (ρ1 := [some (T l), some (.int j), some (.int k)]) (aCons_ok rfl (aCons_ok rfl rfl)) rfl (is_place_ok c hk) rfl))))) rfl
/-- the places at which two lists are unlike -/
def apart (n : Nat) (a b : List Int) : List Int := ((List.range n).filter fun k => !decide (a.getD k 0 = b.getD k 0)).map fun k : Nat => (k : Int)
def pap (a b : List Int) : D → Bool
  | .int k => !decide (a.getD k.toNat 0 = b.getD k.toNat 0)
  | _ => false
theorem apart_eq (n : Nat) (a b : List Int) : ((rgD 0 (n : Int)).filter (pap a b)).map (fun d => d) = (apart n a b).map D.int := by
  rw [rgD_0, List.map_id', List.filter_map]
  unfold apart
  rw [List.map_map]
  rfl
theorem apart_self (n : Nat) (a : List Int) : apart n a a = [] := by
  unfold apart
  rw [List.filter_eq_nil_iff.mpr (by simp)]
  rfl
theorem apart_comm (n : Nat) (a b : List Int) : apart n a b = apart n b a := by
  unfold apart
  congr 2
  funext k
  rw [decide_eq_decide.mpr ⟨Eq.symm, Eq.symm⟩]
theorem apart_len (n : Nat) (a b : List Int) : (apart n a b).length ≤ n := by
  unfold apart
  rw [List.length_map]
  exact Nat.le_trans (List.length_filter_le _ _) (Nat.le_of_eq List.length_range)
theorem tup_ints {o : Bool} {g : M (List D)} {ρ ρ1 : DL.Env} {l : List Int} (h : g ρ = .ok [.lst o (l.map D.int)] ρ1) : eBi tupleD g ρ = .ok (T l) ρ1 := eBi_ok h (by
  show some (D.tup (frzL (l.map D.int))) = _
  rw [frzL_ints])
theorem unlike_in_ok {l : List Int} (c : Club l) (j k : Int) : F_unlike_in [T l, .int j, .int k] = .ok (T (apart l.length (slips l j) (slips l k))) [none, none, none] := by
  refine run_ok (b := b_unlike_in) (ρ := [some (T l), some (.int j), some (.int k), some (T (slips l j)), some (T (slips l k)), none]) (ρ0 := [some (T l), some (.int j), some (.int k), none, none, none]) ?_ rfl (by simp) rfl
  unfold b_unlike_in
  refine Eq.trans (seq_nx (ρ1 := [some (T l), some (.int j), some (.int k), some (T (slips l j)), none, none]) (sAsg_ok (eFrz_ok (eCall_of (ρ1 := [some (T l), some (.int j), some (.int k), none, none, none]) (aCons_ok rfl (aCons_ok rfl rfl)) rfl (slips_ok2 c j) rfl)) rfl)) ?_
  refine Eq.trans (seq_nx (ρ1 := [some (T l), some (.int j), some (.int k), some (T (slips l j)), some (T (slips l k)), none]) (sAsg_ok (eFrz_ok (eCall_of (ρ1 := [some (T l), some (.int j), some (.int k), some (T (slips l j)), none, none]) (aCons_ok rfl (aCons_ok rfl rfl)) rfl (slips_ok2 c k) rfl)) rfl)) ?_
  refine sRet_ok (tup_ints (o := true) (aCons_ok ?_ rfl))
  rw [← apart_eq]
  refine lc_filter1 (i := 5) (ρ1 := [some (T l), some (.int j), some (.int k), some (T (slips l j)), some (T (slips l k)), none]) (iRg1_ok (n := l.length) (aCons_ok (eBi_ok (aCons_ok rfl rfl) (len_TI l)) rfl) (by have := c.n8; omega)) (by rw [rgD_len]; have := c.n8; omega) rfl rfl (by decide) ?_ ?_
  · intro d hd
    obtain ⟨i, rfl, h1, h2⟩ := rgD_mem hd
    obtain ⟨n, rfl⟩ : ∃ n : Nat, i = n := ⟨i.toNat, by omega⟩
    refine eB_ok (ne_ok (x := .int ((slips l j).getD n 0)) (y := .int ((slips l k).getD n 0)) (e2_ok (x := T (slips l j)) (y := .int n) rfl rfl (ix_TI (by rw [slips_len]; omega))) (e2_ok (x := T (slips l k)) (y := .int n) rfl rfl (ix_TI (by rw [slips_len]; omega))) (eqB_int _ _))
  · intro d hd _
    obtain ⟨i, rfl, h1, h2⟩ := rgD_mem hd
    exact eFrz_ok rfl
theorem unlike_ok {l : List Int} (c : Club l) {j k : Nat} (hj : j < N l) (hk : k < N l) : F_unlike [T l, .int j, .int k] = .ok (T (apart l.length (slips l j) (slips l k))) [none, none, none] := by
  refine run_ok (b := b_unlike) (ρ := [some (T l), some (.int j), some (.int k)]) (ρ0 := [some (T l), some (.int j), some (.int k)]) ?_ rfl (by simp) rfl
  unfold b_unlike
  refine Eq.trans (seq_nx (ρ1 := [some (T l), some (.int j), some (.int k)]) (sDrop_ok (eCall_of (aCons_ok rfl rfl) rfl (check_ok c) rfl))) ?_
  refine Eq.trans (seq_nx (ρ1 := [some (T l), some (.int j), some (.int k)]) (sDrop_ok (eCall_of (aCons_ok rfl (aCons_ok rfl (aCons_ok rfl rfl))) rfl (check_places_ok c hj hk) rfl))) ?_
  exact sRet_ok (eCall_of (aCons_ok rfl (aCons_ok rfl (aCons_ok rfl rfl))) rfl (unlike_in_ok c j k) rfl)
end Lk01

set_option Elab.async false
set_option linter.all false
set_option maxRecDepth 100000
set_option maxHeartbeats 1000000
namespace Lk01
open PySem PySem.Spec L2 DL
/-! the law's own rows -/
abbrev LL (ls : List (List Int)) : List D := ls.map T
def slipB : SF := sDrop (eApp 3 (e2 addD (eVar 4) (eTup (aCons (eVar 5) aNil))))
theorem slip_loop (c f s : Option D) (r : List Int) (hr : r.length ≤ 100) : ∀ (is : List Int) (acc : List (List Int)) (x5 : Option D), acc.length + is.length ≤ 1000 →
    ∃ y5, forGo (gSet 5) slipB (is.map D.int) [c, f, s, some (.lst true (LL acc)), some (T r), x5] = .nx [c, f, s, some (.lst true (LL (acc ++ is.map fun i => r ++ [i]))), some (T r), y5]
  | [], acc, x5, _ => ⟨x5, by rw [List.map_nil, List.map_nil, List.append_nil]; rfl⟩
  | i :: is, acc, x5, hb => by
    obtain ⟨y5, ih⟩ := slip_loop c f s r hr is (acc ++ [r ++ [i]]) (some (.int i)) (by simp at hb ⊢; omega)
    refine ⟨y5, ?_⟩
    have ha : e2 addD (eVar 4) (eTup (aCons (eVar 5) aNil)) [c, f, s, some (.lst true (LL acc)), some (T r), some (.int i)] = .ok (T (r ++ [i])) [c, f, s, some (.lst true (LL acc)), some (T r), some (.int i)] := by
      refine e2_ok (x := T r) (y := .tup [.int i]) rfl (eTup_ok (ds := [.int i]) (aCons_ok rfl rfl) (by simp)) ?_
      show (if (r.map D.int).length + 1 ≤ sizeLine then some (D.tup (r.map D.int ++ [.int i])) else none) = _
      rw [if_pos (by rw [List.length_map, sizeLine_eq]; omega)]
      show _ = some (D.tup ((r ++ [i]).map D.int))
      rw [List.map_append]
      rfl
    have hb2 : slipB [c, f, s, some (.lst true (LL acc)), some (T r), some (.int i)] = .nx [c, f, s, some (.lst true (LL (acc ++ [r ++ [i]]))), some (T r), some (.int i)] := by
      refine (sDrop_ok (app_ok (ds := LL acc) ⟨_, rfl⟩ ha rfl (by rw [List.length_map]; simp at hb; omega))).trans ?_
      show RS.nx [c, f, s, some (.lst true (LL acc ++ [T (r ++ [i])])), some (T r), some (.int i)] = _
      unfold LL
      rw [List.map_append]
      rfl
    rw [List.map_cons, forGo_cons rfl hb2, ih]
    rw [List.append_assoc]
    rfl
def step (rs : List (List Int)) (s : Int) : List (List Int) := rs.flatMap fun r => (List.range s.toNat).map fun i : Nat => r ++ [(i : Int)]
theorem step_cons (r : List Int) (rs : List (List Int)) (s : Int) : step (r :: rs) s = ((List.range s.toNat).map fun i : Nat => r ++ [(i : Int)]) ++ step rs s := rfl
theorem step_len : ∀ (rs : List (List Int)) (s : Int), (step rs s).length = rs.length * s.toNat
  | [], s => by simp [step]
  | r :: rs, s => by rw [step_cons, List.length_append, step_len rs s, List.length_map, List.length_range, List.length_cons, Nat.succ_mul, Nat.add_comm]
def rowB : SF := sFor (iRg1 (aCons (eVar 2) aNil)) (gSet 5) slipB
theorem row_loop (c f : Option D) (s : Int) (hs : 1 ≤ s ∧ s ≤ 4) : ∀ (rs acc : List (List Int)) (x4 x5 : Option D), (∀ r ∈ rs, r.length ≤ 100) → acc.length + rs.length * s.toNat ≤ 1000 →
    ∃ y4 y5, forGo (gSet 4) rowB (LL rs) [c, f, some (.int s), some (.lst true (LL acc)), x4, x5] = .nx [c, f, some (.int s), some (.lst true (LL (acc ++ step rs s))), y4, y5]
  | [], acc, x4, x5, _, _ => ⟨x4, x5, by rw [show step [] s = [] from rfl, List.append_nil]; rfl⟩
  | r :: rs, acc, x4, x5, hr, hb => by
    have hb' : acc.length + (rs.length * s.toNat + s.toNat) ≤ 1000 := by rw [List.length_cons, Nat.succ_mul] at hb; exact hb
    obtain ⟨z5, e1⟩ := slip_loop c f (some (.int s)) r (hr r List.mem_cons_self) ((List.range s.toNat).map fun i : Nat => (i : Int)) acc x5 (by rw [List.length_map, List.length_range]; omega)
    obtain ⟨y4, y5, ih⟩ := row_loop c f s hs rs (acc ++ ((List.range s.toNat).map fun i : Nat => r ++ [(i : Int)])) (some (T r)) z5 (fun r hx => hr r (List.mem_cons_of_mem _ hx)) (by rw [List.length_append, List.length_map, List.length_range]; omega)
    refine ⟨y4, y5, ?_⟩
    have hi : iRg1 (aCons (eVar 2) aNil) [c, f, some (.int s), some (.lst true (LL acc)), some (T r), x5] = .ok (((List.range s.toNat).map fun i : Nat => (i : Int)).map D.int) [c, f, some (.int s), some (.lst true (LL acc)), some (T r), x5] := by
      refine (iRg1_ok (n := s) (aCons_ok rfl rfl) (by omega)).trans ?_
      have e : s = ((s.toNat : Nat) : Int) := by omega
      rw [e, rgD_0, List.map_map, Int.toNat_natCast]
      rfl
    have hb2 : rowB [c, f, some (.int s), some (.lst true (LL acc)), some (T r), x5] = .nx [c, f, some (.int s), some (.lst true (LL (acc ++ ((List.range s.toNat).map fun i : Nat => r ++ [(i : Int)])))), some (T r), z5] := by
      refine (sFor_of hi).trans (e1.trans ?_)
      rw [List.map_map]
      rfl
    show forGo (gSet 4) rowB (T r :: LL rs) _ = _
    rw [forGo_cons rfl hb2, ih, step_cons, List.append_assoc]
def sortB : SF := sSeq (sAsg (eLst aNil) (gSet 3)) (sSeq (sFor (iSeq (eVar 1)) (gSet 4) rowB) (sAsg (eFrz (eMove 3)) (gSet 1)))
theorem step_rlen {rs : List (List Int)} {s : Int} {n : Nat} (h : ∀ r ∈ rs, r.length ≤ n) : ∀ r ∈ step rs s, r.length ≤ n + 1 := by
  intro r hr
  obtain ⟨q, hq, hr⟩ := List.mem_flatMap.mp hr
  obtain ⟨i, _, rfl⟩ := List.mem_map.mp hr
  have := h q hq
  rw [List.length_append]
  exact Nat.succ_le_succ this
theorem sort_loop (c : Option D) : ∀ (m : List Int) (rs : List (List Int)) (n : Nat) (x2 x4 x5 : Option D), (∀ x ∈ m, 1 ≤ x ∧ x ≤ 4) → (∀ r ∈ rs, r.length ≤ n) → n + m.length ≤ 50 → m.foldl (· * ·) (rs.length : Int) ≤ 256 →
    ∃ y2 y4 y5, forGo (gSet 2) sortB (m.map D.int) [c, some (.lst false (LL rs)), x2, none, x4, x5] = .nx [c, some (.lst false (LL (m.foldl step rs))), y2, none, y4, y5]
  | [], rs, n, x2, x4, x5, _, _, _, _ => ⟨x2, x4, x5, rfl⟩
  | s :: m, rs, n, x2, x4, x5, h, hr, hn, hb => by
    have hs := h s List.mem_cons_self
    have hm := fun x hx => h x (List.mem_cons_of_mem s hx)
    have hn' : n + m.length + 1 ≤ 50 := hn
    have el : ((step rs s).length : Int) = rs.length * s := by rw [step_len, Int.natCast_mul, Int.toNat_of_nonneg (by omega)]
    have hb2 : m.foldl (· * ·) ((step rs s).length : Int) ≤ 256 := by rw [el]; exact hb
    have hb3 : ((step rs s).length : Int) ≤ 256 := Int.le_trans (prod_le m _ (fun x hx => (hm x hx).1) (by omega)) hb2
    obtain ⟨z4, z5, e1⟩ := row_loop c (some (.lst false (LL rs))) s hs rs [] x4 x5 (fun r hx => by have := hr r hx; omega) (by rw [← step_len]; simp; omega)
    obtain ⟨y2, y4, y5, ih⟩ := sort_loop c m (step rs s) (n + 1) (some (.int s)) z4 z5 hm (step_rlen hr) (by omega) hb2
    refine ⟨y2, y4, y5, ?_⟩
    have hbd : sortB [c, some (.lst false (LL rs)), some (.int s), none, x4, x5] = .nx [c, some (.lst false (LL (step rs s))), some (.int s), none, z4, z5] := by
      unfold sortB
      refine Eq.trans (seq_nx (ρ1 := [c, some (.lst false (LL rs)), some (.int s), some (.lst true []), x4, x5]) (sAsg_ok (d := .lst true []) (eLst_ok rfl (by simp)) rfl)) ?_
      refine Eq.trans (seq_nx (ρ1 := [c, some (.lst false (LL rs)), some (.int s), some (.lst true (LL (step rs s))), z4, z5]) ((sFor_of (iSeq_ok (d := .lst false (LL rs)) (ds := LL rs) rfl (by show some (frzL (LL rs)) = _; rw [frzL_TI]))).trans (by rw [List.nil_append] at e1; exact e1))) ?_
      refine sAsg_ok (d := .lst false (LL (step rs s))) (ρ1 := [c, some (.lst false (LL rs)), some (.int s), none, z4, z5]) ?_ rfl
      refine (eFrz_ok (d := .lst true (LL (step rs s))) (ρ1 := [c, some (.lst false (LL rs)), some (.int s), none, z4, z5]) rfl).trans ?_
      show Res.ok (D.lst false (frzL (LL (step rs s)))) _ = _
      rw [frzL_TI]
    rw [List.map_cons, forGo_cons rfl hbd]
    exact ih
theorem range_mul (a b : Nat) : List.range (a * b) = (List.range a).flatMap fun q => (List.range b).map fun i => q * b + i := by
  induction a with
  | zero => simp
  | succ a ih => rw [Nat.succ_mul, List.range_add, ih, List.range_succ, List.flatMap_append]; simp
theorem step_slips (m : List Int) (s : Int) (hs : 1 ≤ s) : step ((List.range (NR m)).map fun k : Nat => (slipsR m (k : Int)).reverse) s = (List.range (NR (s :: m))).map fun k : Nat => (slipsR (s :: m) (k : Int)).reverse := by
  have e : NR (s :: m) = NR m * s.toNat := rfl
  rw [e, range_mul, List.map_flatMap]
  unfold step
  rw [List.flatMap_map]
  congr 1
  funext q
  rw [List.map_map]
  refine List.map_congr_left fun i hi => ?_
  have hi := List.mem_range.mp hi
  obtain ⟨t, rfl⟩ : ∃ t : Nat, s = t := ⟨s.toNat, by omega⟩
  rw [Int.toNat_natCast] at hi ⊢
  show _ = (slipsR ((t : Int) :: m) ((q * t + i : Nat) : Int)).reverse
  show _ = (((q * t + i : Nat) : Int) % (t : Int) :: slipsR m (((q * t + i : Nat) : Int) / (t : Int))).reverse
  rw [List.reverse_cons, ← Int.natCast_emod, ← Int.natCast_ediv, Nat.mul_comm q t, Nat.mul_add_mod, Nat.mod_eq_of_lt hi, Nat.mul_add_div (by omega), Nat.div_eq_of_lt hi, Nat.add_zero]
theorem lex_eq : ∀ m : List Int, (∀ x ∈ m, 1 ≤ x) → m.foldr (fun s rs => step rs s) [[]] = (List.range (NR m)).map fun k : Nat => (slipsR m (k : Int)).reverse
  | [], _ => rfl
  | s :: m, h => by
    show step (m.foldr (fun s rs => step rs s) [[]]) s = _
    rw [lex_eq m (fun x hx => h x (List.mem_cons_of_mem _ hx)), step_slips m s (h s List.mem_cons_self)]
theorem law_rows_ok {l : List Int} (c : Club l) : F_law_rows [T l] = .ok (.lst false (LL (rowsL l))) [none] := by
  obtain ⟨y2, y4, y5, e⟩ := sort_loop (some (T l)) l [[]] 0 none none none c.s (by simp) (by have := c.n8; omega) c.p
  have el : l.foldl step [[]] = rowsL l := by
    have z := lex_eq l.reverse (fun x hx => (c.s x (List.mem_reverse.mp hx)).1)
    rw [List.foldr_reverse] at z
    exact z
  rw [el] at e
  refine run_ok (b := b_law_rows) (ρ := [some (T l), some (.lst false (LL (rowsL l))), y2, none, y4, y5]) (ρ0 := [some (T l), none, none, none, none, none]) ?_ rfl (by simp) rfl
  unfold b_law_rows
  refine Eq.trans (seq_nx (ρ1 := [some (T l), some (.lst false (LL [[]])), none, none, none, none]) (by exact sAsg_ok (d := .lst false [.tup []]) (eFrz_ok (d := .lst true [.tup []]) (eLst_ok (ds := [.tup []]) (aCons_ok (eTup_ok (ds := []) rfl (by simp)) rfl) (by simp))) rfl)) ?_
  refine Eq.trans (seq_nx (ρ1 := [some (T l), some (.lst false (LL (rowsL l))), y2, none, y4, y5]) (by refine (sFor_of (ds := l.map .int) ?_).trans e; exact iSeq_ok (d := T l) rfl rfl)) ?_
  exact sRet_ok rfl
/-! the law's looks -/
theorem table_ok {l : List Int} (c : Club l) : F_law_is_table [.lst false (LL (rowsL l)), .lst false (LL (rowsL l))] = .ok (.bl true) [none, none] := by
  have hN := c.Nle
  obtain ⟨X, hX⟩ : ∃ X, X = LL (rowsL l) := ⟨_, rfl⟩
  have hq : eqB (.lst false X) (.lst false X) = some true := by rw [hX]; exact eqB_lstTI _ _ _
  have hf : frzL X = X := by rw [hX]; exact frzL_TI _
  have hl : X.length ≤ 1000 := by rw [hX, List.length_map, rowsL_len]; omega
  have hm : ∀ d ∈ X, ∃ r : List Int, d = T r ∧ r.length ≤ 8 := by
    intro d hd
    rw [hX] at hd
    obtain ⟨r, hr, rfl⟩ := List.mem_map.mp hd
    obtain ⟨k, _, rfl⟩ := List.mem_map.mp hr
    exact ⟨_, rfl, by rw [slips_len]; exact c.n8⟩
  rw [← hX]
  clear hX
  refine run_ok (b := b_law_is_table) (ρ := [some (.lst false X), some (.lst false X), none, none]) (ρ0 := [some (.lst false X), some (.lst false X), none, none]) ?_ rfl (by simp) rfl
  unfold b_law_is_table
  have ht : (mOr (mNot (eB (eInst .list (eVar 0)))) (eB (e2 neD (eVar 0) (eVar 1)))) [some (.lst false X), some (.lst false X), none, none] = .ok false [some (.lst false X), some (.lst false X), none, none] :=
    mOr_f (mNot_ok (b := true) (eB_ok (eInst_ok rfl rfl))) (eB_ok (b := !true) (ne_ok (b := true) rfl rfl hq))
  refine Eq.trans (seq_nx (ρ1 := [some (.lst false X), some (.lst false X), none, none]) (Eq.trans (sIf_f (G := sNext) ht) rfl)) ?_
  refine sRet_ok (all_t (o := true) (ys := X.map fun _ => .bl true) (aCons_ok (lc_map1 (i := 2) (ρ1 := [some (.lst false X), some (.lst false X), none, none]) (iSeq_ok (d := .lst false X) rfl (by show some (frzL X) = _; rw [hf])) (by omega) rfl rfl (by decide) ?_) rfl) ?_)
  · intro d hd
    obtain ⟨r, rfl, hr⟩ := hm d hd
    show _ = Res.ok _ [some (.lst false X), some (.lst false X), some (T r), none]
    refine eFrz_ok (d := .bl true) (eAnd_t (ρ1 := [some (.lst false X), some (.lst false X), some (T r), none]) (eInst_ok rfl rfl) ?_)
    refine all_t (o := true) (ys := (r.map D.int).map fun _ => .bl true) (aCons_ok (lc_map1 (i := 3) (ρ1 := [some (.lst false X), some (.lst false X), some (T r), none]) (iSeq_ok rfl rfl) (by rw [List.length_map]; omega) rfl rfl (by decide) ?_) rfl) ?_
    · intro d hd
      obtain ⟨i, hi, rfl⟩ := mem_T hd
      show eFrz _ [some (.lst false X), some (.lst false X), some (T r), some (.int i)] = .ok (.bl true) [some (.lst false X), some (.lst false X), some (T r), some (.int i)]
      exact eFrz_ok (d := .bl true) (eCall_of (ρ1 := [some (.lst false X), some (.lst false X), some (T r), some (.int i)]) (aCons_ok rfl rfl) rfl (lint_ok i) rfl)
    · intro y hy
      obtain ⟨_, _, rfl⟩ := List.mem_map.mp hy
      rfl
  · intro y hy
    obtain ⟨_, _, rfl⟩ := List.mem_map.mp hy
    rfl
theorem tuple_ok (l : List Int) (hl : l.length ≤ 1000) : F_law_is_tuple [T l, T l] = .ok (.bl true) [none, none] := by
  refine run_ok (b := b_law_is_tuple) (ρ := [some (T l), some (T l), none]) (ρ0 := [some (T l), some (T l), none]) ?_ rfl (by simp) rfl
  unfold b_law_is_tuple
  refine sRet_ok (eAnd_t (ρ1 := [some (T l), some (T l), none]) (eInst_ok rfl rfl) (eAnd_t (ρ1 := [some (T l), some (T l), none]) ?_ ?_))
  · refine all_t (o := true) (ys := (l.map D.int).map fun _ => .bl true) (aCons_ok (lc_map1 (i := 2) (ρ1 := [some (T l), some (T l), none]) (iSeq_ok rfl rfl) (by rw [List.length_map]; omega) rfl rfl (by decide) ?_) rfl) ?_
    · intro d hd
      obtain ⟨i, hi, rfl⟩ := mem_T hd
      show eFrz _ [some (T l), some (T l), some (.int i)] = .ok (.bl true) [some (T l), some (T l), some (.int i)]
      exact eFrz_ok (d := .bl true) (eCall_of (ρ1 := [some (T l), some (T l), some (.int i)]) (aCons_ok rfl rfl) rfl (lint_ok i) rfl)
    · intro y hy
      obtain ⟨_, _, rfl⟩ := List.mem_map.mp hy
      rfl
  · exact (eq_ok rfl rfl (eqB_TI l l)).trans (by rw [decide_eq_true rfl])
end Lk01

set_option Elab.async false
set_option linter.all false
set_option maxRecDepth 100000
set_option maxHeartbeats 1000000
set_option exponentiation.threshold 9000
namespace Lk01
open PySem PySem.Spec L2 DL
def Src (B : Int) (d : D) : Prop := ∃ a f n m : Int, d = .lst true [.int a, .int f, .int n, .int m] ∧ 0 ≤ n ∧ n ≤ B ∧ 0 ≤ m ∧ m < 2 ^ 62
theorem draw_1 (a f n m k : Int) (hk : 0 < k) (hk2 : k < 2 ^ 62) (h : f = 1 ∧ 0 < a) : b_law_draw [some (.lst true [.int a, .int f, .int n, .int m]), some (.int k), none, none] = .ret (.int (a % k)) (some (.lst true [.int (a / k), .int f, .int n, .int m]) :: [some (.int k), some (.int a), none]) := by
  have g := fdivD_ok (i := a) hk hk2
  have q3 : modD (.int a) (.int k) = some (.int (a % k)) := modD_ok hk
  unfold b_law_draw
  rw [seq_nx (ρ1 := [some (.lst true [.int a, .int f, .int n, .int m]), some (.int k), some (.int a), none]) (by repeat' (first | with_reducible assumption | apply add_ok | apply sub_ok | apply mul_ok | apply mod_ok | apply fdiv_ok | (refine ix_int ?_ ?_ ?_ <;> exact rfl) | apply int_ok | apply eBi_ok | apply aCons_ok | apply eFrz_int | apply eFrz_ok | apply eBor_int | apply eBor_bl | apply tBor_ok | apply eAnd_t | apply eNot_ok | apply mNot_ok | apply eB_ok | apply eTup_ok | apply eLst_ok | apply eInst_ok | apply e2_ok | apply e1_ok | apply sAsg_ok | apply sRet_ok | apply sDrop_ok | exact rfl | decide | (show List.length _ ≤ 1000; simp)))]
  refine seq_ret ?_
  refine Eq.trans (sIf_t (tBor_ok (mAnd_t (eB_ok (eqi_ok rfl rfl (decide_eq_true h.1))) (eB_ok (gt_ok rfl rfl (decide_eq_true h.2)))))) ?_
  rw [seq_nx (ρ1 := [some (.lst true [.int (a / k), .int f, .int n, .int m]), some (.int k), some (.int a), none]) (by repeat' (first | with_reducible assumption | apply add_ok | apply sub_ok | apply mul_ok | apply mod_ok | apply fdiv_ok | (refine ix_int ?_ ?_ ?_ <;> exact rfl) | apply int_ok | apply eBi_ok | apply aCons_ok | apply eFrz_int | apply eFrz_ok | apply eBor_int | apply eBor_bl | apply tBor_ok | apply eAnd_t | apply eNot_ok | apply mNot_ok | apply eB_ok | apply eTup_ok | apply eLst_ok | apply eInst_ok | apply e2_ok | apply e1_ok | apply sAsg_ok | apply sRet_ok | apply sDrop_ok | exact rfl | decide | (show List.length _ ≤ 1000; simp)))]
  repeat' (first | with_reducible assumption | apply add_ok | apply sub_ok | apply mul_ok | apply mod_ok | apply fdiv_ok | (refine ix_int ?_ ?_ ?_ <;> exact rfl) | apply int_ok | apply eBi_ok | apply aCons_ok | apply eFrz_int | apply eFrz_ok | apply eBor_int | apply eBor_bl | apply tBor_ok | apply eAnd_t | apply eNot_ok | apply mNot_ok | apply eB_ok | apply eTup_ok | apply eLst_ok | apply eInst_ok | apply e2_ok | apply e1_ok | apply sAsg_ok | apply sRet_ok | apply sDrop_ok | exact rfl | decide | (show List.length _ ≤ 1000; simp))
theorem draw_2 (a f n m k : Int) (hk : 0 < k) (hn : 0 ≤ n ∧ n < 2 ^ 62) (hm : 0 ≤ m ∧ m < 2 ^ 62) (h : ¬ (f = 1 ∧ 0 < a)) : ∃ r ρ, b_law_draw [some (.lst true [.int a, .int f, .int n, .int m]), some (.int k), none, none] = .ret (.int (r % k)) (some (.lst true [.int a, .int f, .int (n + 1), .int m]) :: ρ) ∧ ρ.length = 3 := by
  have h1 : mulD (.int 7919) (.int (n + 1)) = some (.int (7919 * (n + 1))) := mulD_ok2 (by omega) (by omega)
  have h2 : mulD (.int (m + 7919 * (n + 1) + 1)) (.int 48271) = some (.int ((m + 7919 * (n + 1) + 1) * 48271)) := mulD_ok2 (by omega) (by omega)
  have q1 : ∀ z : Int, modD (.int z) (.int 2147483647) = some (.int (z % 2147483647)) := fun z => modD_ok (by omega)
  have q2 : ∀ z : Int, modD (.int z) (.int 2147483399) = some (.int (z % 2147483399)) := fun z => modD_ok (by omega)
  unfold b_law_draw
  rw [seq_nx (ρ1 := [some (.lst true [.int a, .int f, .int n, .int m]), some (.int k), some (.int a), none]) (by repeat' (first | with_reducible assumption | apply add_ok | apply sub_ok | apply mul_ok | apply mod_ok | apply fdiv_ok | (refine ix_int ?_ ?_ ?_ <;> exact rfl) | apply int_ok | apply eBi_ok | apply aCons_ok | apply eFrz_int | apply eFrz_ok | apply eBor_int | apply eBor_bl | apply tBor_ok | apply eAnd_t | apply eNot_ok | apply mNot_ok | apply eB_ok | apply eTup_ok | apply eLst_ok | apply eInst_ok | apply e2_ok | apply e1_ok | apply sAsg_ok | apply sRet_ok | apply sDrop_ok | exact rfl | decide | (show List.length _ ≤ 1000; simp)))]
  have ht : tBor (mAnd (eB (e2 eqD (e2 ixD (eVar 0) (eC (.int 1))) (eC (.int 1)))) (eB (e2 gtD (eVar 2) (eC (.int 0))))) [some (.lst true [.int a, .int f, .int n, .int m]), some (.int k), some (.int a), none] = .ok false [some (.lst true [.int a, .int f, .int n, .int m]), some (.int k), some (.int a), none] := by
    by_cases hf : f = 1
    · have ha : ¬ 0 < a := fun z => h ⟨hf, z⟩
      exact tBor_ok (mAnd_t (eB_ok (eqi_ok rfl rfl (decide_eq_true hf))) (eB_ok (gt_ok rfl rfl (decide_eq_false ha))))
    · exact tBor_ok (mAnd_f (eB_ok (eqi_ok rfl rfl (decide_eq_false hf))))
  rw [seq_nx (ρ1 := [some (.lst true [.int a, .int f, .int n, .int m]), some (.int k), some (.int a), none]) (sIf_f (G := sNext) ht)]
  rw [seq_nx (ρ1 := [some (.lst true [.int a, .int f, .int (n + 1), .int m]), some (.int k), some (.int a), none]) (by repeat' (first | with_reducible assumption | apply add_ok | apply sub_ok | apply mul_ok | apply mod_ok | apply fdiv_ok | (refine ix_int ?_ ?_ ?_ <;> exact rfl) | apply int_ok | apply eBi_ok | apply aCons_ok | apply eFrz_int | apply eFrz_ok | apply eBor_int | apply eBor_bl | apply tBor_ok | apply eAnd_t | apply eNot_ok | apply mNot_ok | apply eB_ok | apply eTup_ok | apply eLst_ok | apply eInst_ok | apply e2_ok | apply e1_ok | apply sAsg_ok | apply sRet_ok | apply sDrop_ok | exact rfl | decide | (show List.length _ ≤ 1000; simp)))]
  obtain ⟨x, hx⟩ : ∃ x, x = (m + 7919 * (n + 1) + 1) * 48271 % 2147483647 := ⟨_, rfl⟩
  have q1x : modD (.int ((m + 7919 * (n + 1) + 1) * 48271)) (.int 2147483647) = some (.int x) := by rw [hx]; exact q1 _
  rw [seq_nx (ρ1 := [some (.lst true [.int a, .int f, .int (n + 1), .int m]), some (.int k), some (.int a), some (.int x)]) (by repeat' (first | with_reducible assumption | apply add_ok | apply sub_ok | apply mul_ok | apply mod_ok | apply fdiv_ok | (refine ix_int ?_ ?_ ?_ <;> exact rfl) | apply int_ok | apply eBi_ok | apply aCons_ok | apply eFrz_int | apply eFrz_ok | apply eBor_int | apply eBor_bl | apply tBor_ok | apply eAnd_t | apply eNot_ok | apply mNot_ok | apply eB_ok | apply eTup_ok | apply eLst_ok | apply eInst_ok | apply e2_ok | apply e1_ok | apply sAsg_ok | apply sRet_ok | apply sDrop_ok | exact rfl | decide | (show List.length _ ≤ 1000; simp)))]
  have hx2 : 0 ≤ x ∧ x < 2147483647 := by subst hx; exact ⟨Int.emod_nonneg _ (by omega), Int.emod_lt_of_pos _ (by omega)⟩
  have h3 : mulD (.int x) (.int (x / 1009 + 69621)) = some (.int (x * (x / 1009 + 69621))) := mulD_ok2 (by omega) (by omega)
  have g1 := fdivD_ok (i := x) (j := 1009) (by omega) (by omega)
  obtain ⟨y, hy⟩ : ∃ y, y = x * (x / 1009 + 69621) % 2147483647 := ⟨_, rfl⟩
  have q1y : modD (.int (x * (x / 1009 + 69621))) (.int 2147483647) = some (.int y) := by rw [hy]; exact q1 _
  rw [seq_nx (ρ1 := [some (.lst true [.int a, .int f, .int (n + 1), .int m]), some (.int k), some (.int a), some (.int y)]) (by repeat' (first | with_reducible assumption | apply add_ok | apply sub_ok | apply mul_ok | apply mod_ok | apply fdiv_ok | (refine ix_int ?_ ?_ ?_ <;> exact rfl) | apply int_ok | apply eBi_ok | apply aCons_ok | apply eFrz_int | apply eFrz_ok | apply eBor_int | apply eBor_bl | apply tBor_ok | apply eAnd_t | apply eNot_ok | apply mNot_ok | apply eB_ok | apply eTup_ok | apply eLst_ok | apply eInst_ok | apply e2_ok | apply e1_ok | apply sAsg_ok | apply sRet_ok | apply sDrop_ok | exact rfl | decide | (show List.length _ ≤ 1000; simp)))]
  have hy2 : 0 ≤ y ∧ y < 2147483647 := by subst hy; exact ⟨Int.emod_nonneg _ (by omega), Int.emod_lt_of_pos _ (by omega)⟩
  have h4 : mulD (.int y) (.int (y / 2003 + 40692)) = some (.int (y * (y / 2003 + 40692))) := mulD_ok2 (by omega) (by omega)
  have g2 := fdivD_ok (i := y) (j := 2003) (by omega) (by omega)
  obtain ⟨z, hz⟩ : ∃ z, z = y * (y / 2003 + 40692) % 2147483399 := ⟨_, rfl⟩
  have q2z : modD (.int (y * (y / 2003 + 40692))) (.int 2147483399) = some (.int z) := by rw [hz]; exact q2 _
  rw [seq_nx (ρ1 := [some (.lst true [.int a, .int f, .int (n + 1), .int m]), some (.int k), some (.int a), some (.int z)]) (by repeat' (first | with_reducible assumption | apply add_ok | apply sub_ok | apply mul_ok | apply mod_ok | apply fdiv_ok | (refine ix_int ?_ ?_ ?_ <;> exact rfl) | apply int_ok | apply eBi_ok | apply aCons_ok | apply eFrz_int | apply eFrz_ok | apply eBor_int | apply eBor_bl | apply tBor_ok | apply eAnd_t | apply eNot_ok | apply mNot_ok | apply eB_ok | apply eTup_ok | apply eLst_ok | apply eInst_ok | apply e2_ok | apply e1_ok | apply sAsg_ok | apply sRet_ok | apply sDrop_ok | exact rfl | decide | (show List.length _ ≤ 1000; simp)))]
  have q3 : modD (.int z) (.int k) = some (.int (z % k)) := modD_ok hk
  exact ⟨z, [some (.int k), some (.int a), some (.int z)], by repeat' (first | with_reducible assumption | apply add_ok | apply sub_ok | apply mul_ok | apply mod_ok | apply fdiv_ok | (refine ix_int ?_ ?_ ?_ <;> exact rfl) | apply int_ok | apply eBi_ok | apply aCons_ok | apply eFrz_int | apply eFrz_ok | apply eBor_int | apply eBor_bl | apply tBor_ok | apply eAnd_t | apply eNot_ok | apply mNot_ok | apply eB_ok | apply eTup_ok | apply eLst_ok | apply eInst_ok | apply e2_ok | apply e1_ok | apply sAsg_ok | apply sRet_ok | apply sDrop_ok | exact rfl | decide | (show List.length _ ≤ 1000; simp)), rfl⟩

theorem draw_ok {B m : Int} {s : D} (hs : Src B s) (hB : B < 2 ^ 60) (hm : 0 < m) (hm2 : m < 2 ^ 60) : ∃ r s', F_law_draw [s, .int m] = .ok (.int r) [some s', none] ∧ 0 ≤ r ∧ r < m ∧ Src (B + 1) s' := by
  obtain ⟨a, f, n, q, rfl, h1, h2, h3, h4⟩ := hs
  by_cases h : f = 1 ∧ 0 < a
  · refine ⟨a % m, .lst true [.int (a / m), .int f, .int n, .int q], run_ok (draw_1 a f n q m hm (by omega) h) rfl (by simp) rfl, Int.emod_nonneg _ (by omega), Int.emod_lt_of_pos _ hm, ?_⟩
    exact ⟨_, _, _, _, rfl, h1, by omega, h3, h4⟩
  · obtain ⟨r, ρ, e, hl⟩ := draw_2 a f n q m hm ⟨h1, by omega⟩ ⟨h3, h4⟩ h
    match ρ, hl with
    | [x, y, z], _ =>
      refine ⟨r % m, .lst true [.int a, .int f, .int (n + 1), .int q], run_ok e rfl (by simp) rfl, Int.emod_nonneg _ (by omega), Int.emod_lt_of_pos _ hm, ?_⟩
      exact ⟨_, _, _, _, rfl, by omega, by omega, h3, h4⟩
theorem source_ok {ns : List Int} {k : Int} (h0 : 0 ≤ k) (hk : k < 100) (hl : ns.length ≤ 63) : ∃ s, F_law_source [.scr ns, .int k] = .ok s [none, none] ∧ Src 0 s := by
  have hlen : ∀ x, eBi lenD (aCons (eVar 0) aNil) [some (.scr ns), some (.int k), x] = .ok (.int ns.length) [some (.scr ns), some (.int k), x] := fun x => by
    have := len_scr ns
    repeat' (first | with_reducible assumption | apply add_ok | apply sub_ok | apply mul_ok | apply mod_ok | apply fdiv_ok | (refine ix_int ?_ ?_ ?_ <;> exact rfl) | apply int_ok | apply eBi_ok | apply aCons_ok | apply eFrz_int | apply eFrz_ok | apply eBor_int | apply eBor_bl | apply tBor_ok | apply eAnd_t | apply eNot_ok | apply mNot_ok | apply eB_ok | apply eTup_ok | apply eLst_ok | apply eInst_ok | apply e2_ok | apply e1_ok | apply sAsg_ok | apply sRet_ok | apply sDrop_ok | exact rfl | decide | (show List.length _ ≤ 1000; simp))
  by_cases h : k < ns.length
  · obtain ⟨x, hx⟩ := ix_scr h0 h
    have hm : modD (.int x) (.int 2147483629) = some (.int (x % 2147483629)) := modD_ok (by omega)
    have hp : powD (.int 10) (.int 18) = some (.int 1000000000000000000) := by kernel_rfl
    have hi : e2 ixD (eVar 0) (eVar 1) [some (.scr ns), some (.int k), none] = .ok (.int x) [some (.scr ns), some (.int k), none] := by repeat' (first | with_reducible assumption | apply add_ok | apply sub_ok | apply mul_ok | apply mod_ok | apply fdiv_ok | (refine ix_int ?_ ?_ ?_ <;> exact rfl) | apply int_ok | apply eBi_ok | apply aCons_ok | apply eFrz_int | apply eFrz_ok | apply eBor_int | apply eBor_bl | apply tBor_ok | apply eAnd_t | apply eNot_ok | apply mNot_ok | apply eB_ok | apply eTup_ok | apply eLst_ok | apply eInst_ok | apply e2_ok | apply e1_ok | apply sAsg_ok | apply sRet_ok | apply sDrop_ok | exact rfl | decide | (show List.length _ ≤ 1000; simp))
    have hb : eBi intD (aCons (e2 geD (e2 ixD (eVar 0) (eVar 1)) (e2 powD (eC (.int 10)) (eC (.int 18)))) aNil) [some (.scr ns), some (.int k), none] = .ok (.int (if decide (1000000000000000000 ≤ x) then 1 else 0)) [some (.scr ns), some (.int k), none] := by
      refine eBi_ok (aCons_ok (ge_ok hi ?_ rfl) rfl) rfl
      repeat' (first | with_reducible assumption | apply add_ok | apply sub_ok | apply mul_ok | apply mod_ok | apply fdiv_ok | (refine ix_int ?_ ?_ ?_ <;> exact rfl) | apply int_ok | apply eBi_ok | apply aCons_ok | apply eFrz_int | apply eFrz_ok | apply eBor_int | apply eBor_bl | apply tBor_ok | apply eAnd_t | apply eNot_ok | apply mNot_ok | apply eB_ok | apply eTup_ok | apply eLst_ok | apply eInst_ok | apply e2_ok | apply e1_ok | apply sAsg_ok | apply sRet_ok | apply sDrop_ok | exact rfl | decide | (show List.length _ ≤ 1000; simp))
    refine ⟨_, run_ok (b := b_law_source) (d := .lst true [.int x, .int (if decide (1000000000000000000 ≤ x) then 1 else 0), .int 0, .int (x % 2147483629)]) (ρ := [some (.scr ns), some (.int k), none]) ?_ rfl (by simp) rfl, _, _, _, _, rfl, by omega, by omega, Int.emod_nonneg _ (by omega), by have := Int.emod_lt_of_pos x (show (0:Int) < 2147483629 by omega); omega⟩
    unfold b_law_source
    refine seq_ret (Eq.trans (sIf_t (eB_ok (lt_ok rfl (hlen _) (decide_eq_true h)))) ?_)
    repeat' (first | with_reducible assumption | apply add_ok | apply sub_ok | apply mul_ok | apply mod_ok | apply fdiv_ok | (refine ix_int ?_ ?_ ?_ <;> exact rfl) | apply int_ok | apply eBi_ok | apply aCons_ok | apply eFrz_int | apply eFrz_ok | apply eBor_int | apply eBor_bl | apply tBor_ok | apply eAnd_t | apply eNot_ok | apply mNot_ok | apply eB_ok | apply eTup_ok | apply eLst_ok | apply eInst_ok | apply e2_ok | apply e1_ok | apply sAsg_ok | apply sRet_ok | apply sDrop_ok | exact rfl | decide | (show List.length _ ≤ 1000; simp))
  · have hy : ∃ y : Int, 0 ≤ y ∧ y < 2147483629 ∧ (sIf (eB (e2 gtD (eBi lenD (aCons (eVar 0) aNil)) (eC (.int 0)))) (sAsg (e2 modD (eBi intD (aCons (e2 ixD (eVar 0) (eC (.int 0))) aNil)) (eC (.int 2147483629))) (gSet 2)) sNext) [some (.scr ns), some (.int k), some (.int 0)] = .nx [some (.scr ns), some (.int k), some (.int y)] := by
      by_cases h2 : (0 : Int) < ns.length
      · obtain ⟨x, hx⟩ := ix_scr (Int.le_refl 0) h2
        have hm : modD (.int x) (.int 2147483629) = some (.int (x % 2147483629)) := modD_ok (by omega)
        have hi : e2 ixD (eVar 0) (eC (.int 0)) [some (.scr ns), some (.int k), some (.int 0)] = .ok (.int x) [some (.scr ns), some (.int k), some (.int 0)] := by repeat' (first | with_reducible assumption | apply add_ok | apply sub_ok | apply mul_ok | apply mod_ok | apply fdiv_ok | (refine ix_int ?_ ?_ ?_ <;> exact rfl) | apply int_ok | apply eBi_ok | apply aCons_ok | apply eFrz_int | apply eFrz_ok | apply eBor_int | apply eBor_bl | apply tBor_ok | apply eAnd_t | apply eNot_ok | apply mNot_ok | apply eB_ok | apply eTup_ok | apply eLst_ok | apply eInst_ok | apply e2_ok | apply e1_ok | apply sAsg_ok | apply sRet_ok | apply sDrop_ok | exact rfl | decide | (show List.length _ ≤ 1000; simp))
        refine ⟨x % 2147483629, Int.emod_nonneg _ (by omega), Int.emod_lt_of_pos _ (by omega), Eq.trans (sIf_t (eB_ok (gt_ok (hlen _) rfl (decide_eq_true h2)))) ?_⟩
        repeat' (first | with_reducible assumption | apply add_ok | apply sub_ok | apply mul_ok | apply mod_ok | apply fdiv_ok | (refine ix_int ?_ ?_ ?_ <;> exact rfl) | apply int_ok | apply eBi_ok | apply aCons_ok | apply eFrz_int | apply eFrz_ok | apply eBor_int | apply eBor_bl | apply tBor_ok | apply eAnd_t | apply eNot_ok | apply mNot_ok | apply eB_ok | apply eTup_ok | apply eLst_ok | apply eInst_ok | apply e2_ok | apply e1_ok | apply sAsg_ok | apply sRet_ok | apply sDrop_ok | exact rfl | decide | (show List.length _ ≤ 1000; simp))
      · exact ⟨0, by omega, by omega, Eq.trans (sIf_f (G := sNext) (eB_ok (gt_ok (hlen _) rfl (decide_eq_false h2)))) rfl⟩
    obtain ⟨y, y1, y2, hy⟩ := hy
    have hm : mulD (.int 104729) (.int k) = some (.int (104729 * k)) := mulD_ok2 (by omega) (by omega)
    have hlen2 := hlen (some (.int y))
    refine ⟨_, run_ok (b := b_law_source) (d := .lst true [.int 0, .int 0, .int 0, .int (y + 104729 * k + ns.length)]) (ρ := [some (.scr ns), some (.int k), some (.int y)]) ?_ rfl (by simp) rfl, _, _, _, _, rfl, by omega, by omega, by omega, by omega⟩
    unfold b_law_source
    refine Eq.trans (seq_nx (ρ1 := [some (.scr ns), some (.int k), none]) (Eq.trans (sIf_f (G := sNext) (eB_ok (lt_ok rfl (hlen _) (decide_eq_false h)))) rfl)) ?_
    refine Eq.trans (seq_nx (ρ1 := [some (.scr ns), some (.int k), some (.int 0)]) (by repeat' (first | with_reducible assumption | apply add_ok | apply sub_ok | apply mul_ok | apply mod_ok | apply fdiv_ok | (refine ix_int ?_ ?_ ?_ <;> exact rfl) | apply int_ok | apply eBi_ok | apply aCons_ok | apply eFrz_int | apply eFrz_ok | apply eBor_int | apply eBor_bl | apply tBor_ok | apply eAnd_t | apply eNot_ok | apply mNot_ok | apply eB_ok | apply eTup_ok | apply eLst_ok | apply eInst_ok | apply e2_ok | apply e1_ok | apply sAsg_ok | apply sRet_ok | apply sDrop_ok | exact rfl | decide | (show List.length _ ≤ 1000; simp)))) ?_
    refine Eq.trans (seq_nx hy) ?_
    repeat' (first | with_reducible assumption | apply add_ok | apply sub_ok | apply mul_ok | apply mod_ok | apply fdiv_ok | (refine ix_int ?_ ?_ ?_ <;> exact rfl) | apply int_ok | apply eBi_ok | apply aCons_ok | apply eFrz_int | apply eFrz_ok | apply eBor_int | apply eBor_bl | apply tBor_ok | apply eAnd_t | apply eNot_ok | apply mNot_ok | apply eB_ok | apply eTup_ok | apply eLst_ok | apply eInst_ok | apply e2_ok | apply e1_ok | apply sAsg_ok | apply sRet_ok | apply sDrop_ok | exact rfl | decide | (show List.length _ ≤ 1000; simp))
theorem drw {B m : Int} {s : D} {i : Nat} {ρ : DL.Env} {f : M D} (hs : Src B s) (hi : ρ[i]? = some (some s)) (hf : f (ρ.set i none) = .ok (.int m) (ρ.set i none)) (hB : B < 2 ^ 60) (hm : 0 < m) (hm2 : m < 2 ^ 60) : ∃ r s', eCall F_law_draw (aCons (eMove i) (aCons f aNil)) [] [(0, i)] ρ = .ok (.int r) (ρ.set i (some s')) ∧ 0 ≤ r ∧ r < m ∧ Src (B + 1) s' := by
  obtain ⟨r, s', e, h⟩ := draw_ok hs hB hm hm2
  have hmv : eMove i ρ = .ok s (ρ.set i none) := by unfold eMove; rw [hi]
  exact ⟨r, s', eCall_of (aCons_ok hmv (aCons_ok hf rfl)) rfl e (by show (ρ.set i none).set i (some s') = _; rw [List.set_set]), h⟩
end Lk01

set_option Elab.async false
set_option linter.all false
set_option maxRecDepth 100000
set_option maxHeartbeats 1000000
namespace Lk01
open PySem PySem.Spec L2 DL
/-! the law's club -/
def clubB : SF := (sSeq (sAsg (eFrz (e2 addD (eC (.int 1)) (eCall F_law_draw (aCons (eMove 0) (aCons (eC (.int 4)) aNil)) [] [(0, 0)]))) (gSet 4))
  (sSeq (sIf (eB (e2 gtD (e2 mulD (eVar 2) (eVar 4)) (eC (.int 256)))) (sAsg (eC (.int 1)) (gSet 4)) sNext)
  (sSeq (sDrop (eApp 1 (eVar 4)))
  (sAsg (eFrz (e2 mulD (eVar 2) (eVar 4))) (gSet 2)))))
theorem Pr_snoc (l : List Int) (x : Int) : Pr (l ++ [x]) = Pr l * x := by unfold Pr; rw [List.foldl_append]; rfl
theorem club_loop : ∀ (ds : List D) (B : Int) (s : D) (f : List Int) (x3 x4 : Option D), (∀ d ∈ ds, ∃ i : Int, d = .int i) → Src B s → B + ds.length < 2 ^ 50 → f.length + ds.length ≤ 8 → (∀ x ∈ f, 1 ≤ x ∧ x ≤ 4) → 1 ≤ Pr f → Pr f ≤ 256 →
    ∃ s' f' y3 y4, forGo (gSet 3) clubB ds [some s, some (.lst true (f.map .int)), some (.int (Pr f)), x3, x4] = .nx [some s', some (.lst true (f'.map .int)), some (.int (Pr f')), y3, y4] ∧ Src (B + ds.length) s' ∧ f'.length = f.length + ds.length ∧ (∀ x ∈ f', 1 ≤ x ∧ x ≤ 4) ∧ Pr f' ≤ 256
  | [], B, s, f, x3, x4, _, hs, _, _, h1, h2, h3 => ⟨s, f, x3, x4, rfl, by simpa using hs, rfl, h1, h3⟩
  | d :: ds, B, s, f, x3, x4, hd, hs, hB, hl, h1, h2, h3 => by
    obtain ⟨i, rfl⟩ := hd d List.mem_cons_self
    rw [List.length_cons] at hB hl
    obtain ⟨r, s1, e1, r0, r1, hs1⟩ := drw (ρ := [some s, some (.lst true (f.map .int)), some (.int (Pr f)), some (.int i), x4]) (i := 0) (f := eC (.int 4)) (m := 4) hs rfl rfl (by omega) (by omega) (by omega)
    have hm : mulD (.int (Pr f)) (.int (1 + r)) = some (.int (Pr f * (1 + r))) := mulD_ok2 (by omega) (by omega)
    obtain ⟨q, hq⟩ : ∃ q : Int, q = if Pr f * (1 + r) > 256 then 1 else 1 + r := ⟨_, rfl⟩
    have hq1 : 1 ≤ q ∧ q ≤ 4 := by subst hq; split <;> omega
    have hq2 : Pr f * q ≤ 256 := by subst hq; split <;> omega
    have hq3 : 1 ≤ Pr f * q := by
      have := Int.mul_le_mul_of_nonneg_left hq1.1 (show 0 ≤ Pr f by omega)
      omega
    have hm2 : mulD (.int (Pr f)) (.int q) = some (.int (Pr f * q)) := mulD_ok2 (by omega) (by omega)
    have hb : clubB [some s, some (.lst true (f.map .int)), some (.int (Pr f)), some (.int i), x4] = .nx [some s1, some (.lst true ((f ++ [q]).map .int)), some (.int (Pr (f ++ [q]))), some (.int i), some (.int q)] := by
      unfold clubB
      refine Eq.trans (seq_nx (ρ1 := [some s1, some (.lst true (f.map .int)), some (.int (Pr f)), some (.int i), some (.int (1 + r))]) (sAsg_ok (eFrz_int (add_ok rfl e1)) rfl)) ?_
      have hg : ∀ b, decide (256 < Pr f * (1 + r)) = b → eB (e2 gtD (e2 mulD (eVar 2) (eVar 4)) (eC (.int 256))) [some s1, some (.lst true (f.map .int)), some (.int (Pr f)), some (.int i), some (.int (1 + r))] = .ok b [some s1, some (.lst true (f.map .int)), some (.int (Pr f)), some (.int i), some (.int (1 + r))] := fun b hb => eB_ok (gt_ok (mul_ok (i := Pr f) (j := 1 + r) rfl rfl hm) rfl hb)
      have hif : sIf (eB (e2 gtD (e2 mulD (eVar 2) (eVar 4)) (eC (.int 256)))) (sAsg (eC (.int 1)) (gSet 4)) sNext [some s1, some (.lst true (f.map .int)), some (.int (Pr f)), some (.int i), some (.int (1 + r))] = .nx [some s1, some (.lst true (f.map .int)), some (.int (Pr f)), some (.int i), some (.int q)] := by
        by_cases h : Pr f * (1 + r) > 256
        · rw [if_pos h] at hq
          rw [hq]
          exact (sIf_t (hg true (decide_eq_true h))).trans (sAsg_ok rfl rfl)
        · rw [if_neg h] at hq
          rw [hq]
          exact (sIf_f (G := sNext) (hg false (decide_eq_false h))).trans rfl
      refine Eq.trans (seq_nx hif) ?_
      refine Eq.trans (seq_nx (ρ1 := [some s1, some (.lst true ((f ++ [q]).map .int)), some (.int (Pr f)), some (.int i), some (.int q)]) ?_) ?_
      · refine (sDrop_ok (app_ok (i := 1) (ρ1 := [some s1, some (.lst true (f.map .int)), some (.int (Pr f)), some (.int i), some (.int q)]) (d := .int q) (ds := f.map .int) ⟨_, rfl⟩ rfl rfl (by rw [List.length_map]; omega))).trans ?_
        rw [List.map_append]
        rfl
      · rw [Pr_snoc]
        exact sAsg_ok (eFrz_int (mul_ok (i := Pr f) (j := q) rfl rfl hm2)) rfl
    obtain ⟨s', f', y3, y4, e, hs', hf', h1', h3'⟩ := club_loop ds (B + 1) s1 (f ++ [q]) (some (.int i)) (some (.int q)) (fun d hx => hd d (List.mem_cons_of_mem _ hx)) hs1 (by omega) (by rw [List.length_append]; simp; omega) (fun x hx => by
      rcases List.mem_append.mp hx with hx | hx
      · exact h1 x hx
      · rw [List.mem_singleton.mp hx]; exact hq1) (by rw [Pr_snoc]; exact hq3) (by rw [Pr_snoc]; exact hq2)
    refine ⟨s', f', y3, y4, (forGo_cons rfl hb).trans e, ?_, ?_, h1', h3'⟩
    · rw [List.length_cons, show B + ((ds.length + 1 : Nat) : Int) = B + 1 + ds.length by omega]
      exact hs'
    · rw [hf', List.length_append, List.length_cons]
      simp
      omega
theorem law_club_ok {B : Int} {s : D} (hs : Src B s) (hB : B < 2 ^ 40) : ∃ s' l, F_law_club [s] = .ok (T l) [some s'] ∧ Src (B + 9) s' ∧ Club l := by
  obtain ⟨r, s1, e1, r0, r1, hs1⟩ := drw (ρ := [some s, some (.lst true []), some (.int 1), none, none]) (i := 0) (f := eC (.int 8)) (m := 8) hs rfl rfl (by omega) (by omega) (by omega)
  have hl : (rgD 0 (1 + r)).length = (1 + r).toNat := by rw [rgD_len, Int.sub_zero]
  obtain ⟨s', f, y3, y4, e, hs', hf, h1, h3⟩ := club_loop (rgD 0 (1 + r)) (B + 1) s1 [] none none (fun d hd => by obtain ⟨i, rfl, _⟩ := rgD_mem hd; exact ⟨i, rfl⟩) hs1 (by rw [hl]; omega) (by rw [hl]; simp; omega) (by simp) (by decide) (by decide)
  rw [hl] at hf
  have hf' : f.length = (1 + r).toNat := by simpa using hf
  obtain ⟨a, g, n, m, ha, h⟩ := hs'
  rw [hl] at h
  refine ⟨s', f, ?_, ⟨a, g, n, m, ha, h.1, by omega, h.2.2⟩, h1, by omega, by omega, h3⟩
  refine run_ok (b := b_law_club) (ρ := [some s', some (.lst false (f.map .int)), some (.int (Pr f)), y3, y4]) (ρ0 := [some s, none, none, none, none]) ?_ rfl (by simp) rfl
  unfold b_law_club
  refine Eq.trans (seq_nx (ρ1 := [some s, some (.lst true []), none, none, none]) (by exact sAsg_ok (d := .lst true []) (eLst_ok rfl (by simp)) rfl)) ?_
  refine Eq.trans (seq_nx (ρ1 := [some s, some (.lst true []), some (.int 1), none, none]) (by exact sAsg_ok rfl rfl)) ?_
  refine Eq.trans (seq_nx (ρ1 := [some s', some (.lst true (f.map .int)), some (.int (Pr f)), y3, y4]) ?_) ?_
  · exact (sFor_of (iRg1_ok (n := 1 + r) (aCons_ok (add_ok rfl e1) rfl) (by omega))).trans e
  · unfold sFrz
    have hz : frzAt 1 [some s', some (.lst true (f.map .int)), some (.int (Pr f)), y3, y4] = [some s', some (.lst false (f.map .int)), some (.int (Pr f)), y3, y4] := by
      show [some s', some (.lst false (frzL (f.map .int))), some (.int (Pr f)), y3, y4] = _
      rw [frzL_ints]
    show sRet _ (frzAt 1 _) = _
    rw [hz]
    exact sRet_ok (tup_ints (o := false) (aCons_ok rfl rfl))
end Lk01

set_option Elab.async false
set_option linter.all false
set_option maxRecDepth 100000
set_option maxHeartbeats 2000000
namespace Lk01
open PySem PySem.Spec L2 DL
abbrev St (ns : List Int) (l : List Int) (x1 x4 x5 x6 x7 x8 x9 x10 x11 : Option D) : DL.Env := [some (.scr ns), x1, some (T l), some (.lst false (LL (rowsL l))), x4, x5, x6, x7, x8, x9, x10, x11, none]
theorem lenD_rows (l : List Int) : lenD [.lst false (LL (rowsL l))] = some (.int (N l)) := by rw [len_lst, List.length_map, rowsL_len]
theorem ix_rows {l : List Int} {k : Nat} (h : k < N l) : ixD (.lst false (LL (rowsL l))) (.int k) = some (T (slips l k)) := ix_l (rowsL_get h)
/-- the first loop's body -/
def bodyA : SF := (sSeq (sAsg (eFrz (eCall F_number_of (aCons (eVar 2) (aCons (e2 ixD (eVar 3) (eVar 6)) aNil)) [] [])) (gSet 8))
  (sIf (mOr (mNot (eB (eCall F_law_integer (aCons (eVar 8) aNil) [] []))) (eB (e2 neD (eVar 8) (eVar 6)))) (sRet (eC (.bl false))) sNext))
theorem bodyA_ok {ns l : List Int} (c : Club l) {k : Nat} (h : k < N l) (x1 x4 x5 x7 x8 x9 x10 x11 : Option D) : bodyA (St ns l x1 x4 x5 (some (.int k)) x7 x8 x9 x10 x11) = .nx (St ns l x1 x4 x5 (some (.int k)) x7 (some (.int k)) x9 x10 x11) := by
  unfold bodyA
  refine Eq.trans (seq_nx (ρ1 := St ns l x1 x4 x5 (some (.int k)) x7 (some (.int k)) x9 x10 x11) (sAsg_ok (eFrz_int (eCall_of (ρ1 := St ns l x1 x4 x5 (some (.int k)) x7 x8 x9 x10 x11) (aCons_ok rfl (aCons_ok (e2_ok rfl rfl (ix_rows h)) rfl)) rfl (number_ok c h) rfl)) rfl)) ?_
  have h1 : eCall F_law_integer (aCons (eVar 8) aNil) [] [] (St ns l x1 x4 x5 (some (.int k)) x7 (some (.int k)) x9 x10 x11) = .ok (.bl true) (St ns l x1 x4 x5 (some (.int k)) x7 (some (.int k)) x9 x10 x11) := eCall_of (aCons_ok rfl rfl) rfl (lint_ok k) rfl
  have h2 : e2 neD (eVar 8) (eVar 6) (St ns l x1 x4 x5 (some (.int k)) x7 (some (.int k)) x9 x10 x11) = .ok (.bl false) (St ns l x1 x4 x5 (some (.int k)) x7 (some (.int k)) x9 x10 x11) := nei_ok (i := k) (j := k) rfl rfl (by simp)
  exact (sIf_f (G := sNext) (mOr_f (mNot_ok (b := true) (eB_ok h1)) (eB_ok h2))).trans rfl
def lookT (a b : Nat) : M D := (eCall F_law_is_tuple (aCons (eFrz (eCall F_unlike (aCons (eVar 2) (aCons (eVar a) (aCons (eVar b) aNil))) [] [])) (aCons (eVar 11) aNil)) [] [])
def bodyB : SF := (sSeq (sAsg (eCall F_law_source (aCons (eVar 0) (aCons (eVar 7) aNil)) [] []) (gSet 1))
  (sSeq (sAsg (eFrz (eCall F_law_draw (aCons (eMove 1) (aCons (eBi lenD (aCons (eVar 3) aNil)) aNil)) [] [(0, 1)])) (gSet 9))
  (sSeq (sAsg (eFrz (eCall F_law_draw (aCons (eMove 1) (aCons (eBi lenD (aCons (eVar 3) aNil)) aNil)) [] [(0, 1)])) (gSet 10))
  (sSeq (sAsg (eBi tupleD (aCons (eLcL 13 (iRg1 (aCons (eBi lenD (aCons (eVar 2) aNil)) aNil)) (gSet 12) (eB (e2 neD (e2 ixD (e2 ixD (eVar 3) (eVar 9)) (eVar 12)) (e2 ixD (e2 ixD (eVar 3) (eVar 10)) (eVar 12)))) (eFrz (eVar 12)) [12]) aNil)) (gSet 11))
  (sSeq (sIf (mOr (mNot (eB (lookT 9 10))) (mNot (eB (lookT 10 9)))) (sRet (eC (.bl false))) sNext)
  (sSeq (sIf (mNot (eB (eCall F_law_is_tuple (aCons (eFrz (eCall F_unlike (aCons (eVar 2) (aCons (eVar 9) (aCons (eVar 9) aNil))) [] [])) (aCons (eTup aNil) aNil)) [] []))) (sRet (eC (.bl false))) sNext)
  (sIf (mOr (eB (e2 neD (eCall F_number_of (aCons (eVar 2) (aCons (e2 ixD (eVar 3) (eVar 9)) aNil)) [] []) (eVar 9))) (eB (e2 neD (eCall F_number_of (aCons (eVar 2) (aCons (e2 ixD (eVar 3) (eVar 10)) aNil)) [] []) (eVar 10)))) (sRet (eC (.bl false))) sNext)))))))
theorem bodyB_ok {ns l : List Int} (c : Club l) {k : Int} (hn : ns.length ≤ 63) (h0 : 0 ≤ k) (h1 : k < 100) (x1 x4 x5 x6 x8 x9 x10 x11 : Option D) : ∃ y1 y9 y10 y11, bodyB (St ns l x1 x4 x5 x6 (some (.int k)) x8 x9 x10 x11) = .nx (St ns l y1 x4 x5 x6 (some (.int k)) x8 y9 y10 y11) := by
  have hN := c.Nle
  obtain ⟨s, ev0, hs⟩ := source_ok (ns := ns) (k := k) h0 h1 hn
  have hpos : 0 < N l := by
    have := c.N
    have h1 : (1 : Int) ≤ Pr l := prod_le l 1 (fun x hx => (c.s x hx).1) (by decide)
    omega
  have hlen : ∀ x1 x9 x10, eBi lenD (aCons (eVar 3) aNil) (St ns l x1 x4 x5 x6 (some (.int k)) x8 x9 x10 x11) = .ok (.int (N l)) (St ns l x1 x4 x5 x6 (some (.int k)) x8 x9 x10 x11) := fun x1 x9 x10 => eBi_ok (aCons_ok rfl rfl) (lenD_rows l)
  obtain ⟨i, s1, ev1, i0, i1, hs1⟩ := drw (ρ := St ns l (some s) x4 x5 x6 (some (.int k)) x8 x9 x10 x11) (i := 1) (f := eBi lenD (aCons (eVar 3) aNil)) (m := N l) hs rfl (hlen none x9 x10) (by omega) (by omega) (by omega)
  obtain ⟨a, rfl⟩ : ∃ a : Nat, i = a := ⟨i.toNat, by omega⟩
  obtain ⟨j, s2, ev2, j0, j1, hs2⟩ := drw (ρ := St ns l (some s1) x4 x5 x6 (some (.int k)) x8 (some (.int a)) x10 x11) (i := 1) (f := eBi lenD (aCons (eVar 3) aNil)) (m := N l) hs1 rfl (hlen none (some (.int a)) x10) (by omega) (by omega) (by omega)
  obtain ⟨b, rfl⟩ : ∃ b : Nat, j = b := ⟨j.toNat, by omega⟩
  have ha : a < N l := by omega
  have hb : b < N l := by omega
  obtain ⟨p, hp⟩ : ∃ p, p = apart l.length (slips l a) (slips l b) := ⟨_, rfl⟩
  have hpl : p.length ≤ 1000 := by have := apart_len l.length (slips l a) (slips l b); have := c.n8; rw [hp]; omega
  let ρ3 : DL.Env := St ns l (some s2) x4 x5 x6 (some (.int k)) x8 (some (.int a)) (some (.int b)) x11
  let ρ4 : DL.Env := St ns l (some s2) x4 x5 x6 (some (.int k)) x8 (some (.int a)) (some (.int b)) (some (T p))
  refine ⟨some s2, some (.int a), some (.int b), some (T p), ?_⟩
  have hu1 : F_unlike [T l, .int a, .int b] = .ok (T p) [none, none, none] := by rw [hp]; exact unlike_ok c ha hb
  have hu2 : F_unlike [T l, .int b, .int a] = .ok (T p) [none, none, none] := by rw [hp, apart_comm]; exact unlike_ok c hb ha
  have hu3 : F_unlike [T l, .int a, .int a] = .ok (T []) [none, none, none] := by have := unlike_ok c ha ha; rw [apart_self] at this; exact this
  have q1 : lookT 9 10 ρ4 = .ok (.bl true) ρ4 := eCall_of (ρ1 := ρ4) (aCons_ok (eFrz_ok (eCall_of (ρ1 := ρ4) (aCons_ok rfl (aCons_ok rfl (aCons_ok rfl rfl))) rfl hu1 rfl)) (aCons_ok rfl rfl)) rfl (tuple_ok p hpl) rfl
  have q2 : lookT 10 9 ρ4 = .ok (.bl true) ρ4 := eCall_of (ρ1 := ρ4) (aCons_ok (eFrz_ok (eCall_of (ρ1 := ρ4) (aCons_ok rfl (aCons_ok rfl (aCons_ok rfl rfl))) rfl hu2 rfl)) (aCons_ok rfl rfl)) rfl (tuple_ok p hpl) rfl
  have q3 : (eCall F_law_is_tuple (aCons (eFrz (eCall F_unlike (aCons (eVar 2) (aCons (eVar 9) (aCons (eVar 9) aNil))) [] [])) (aCons (eTup aNil) aNil)) [] []) ρ4 = .ok (.bl true) ρ4 := eCall_of (ρ1 := ρ4) (aCons_ok (eFrz_ok (eCall_of (ρ1 := ρ4) (aCons_ok rfl (aCons_ok rfl (aCons_ok rfl rfl))) rfl hu3 rfl)) (aCons_ok (eTup_ok (ds := []) rfl (by simp)) rfl)) rfl (tuple_ok [] (by simp)) rfl
  have v9 : eVar 9 ρ4 = .ok (.int a) ρ4 := rfl
  have v10 : eVar 10 ρ4 = .ok (.int b) ρ4 := rfl
  have mn1 : (eCall F_number_of (aCons (eVar 2) (aCons (e2 ixD (eVar 3) (eVar 9)) aNil)) [] []) ρ4 = .ok (.int a) ρ4 := eCall_of (ρ1 := ρ4) (aCons_ok rfl (aCons_ok (e2_ok rfl rfl (ix_rows ha)) rfl)) rfl (number_ok c ha) rfl
  have n1 : (e2 neD (eCall F_number_of (aCons (eVar 2) (aCons (e2 ixD (eVar 3) (eVar 9)) aNil)) [] []) (eVar 9)) ρ4 = .ok (.bl false) ρ4 := nei_ok (i := a) (j := a) mn1 v9 (by simp)
  have mn2 : (eCall F_number_of (aCons (eVar 2) (aCons (e2 ixD (eVar 3) (eVar 10)) aNil)) [] []) ρ4 = .ok (.int b) ρ4 := eCall_of (ρ1 := ρ4) (aCons_ok rfl (aCons_ok (e2_ok rfl rfl (ix_rows hb)) rfl)) rfl (number_ok c hb) rfl
  have n2 : (e2 neD (eCall F_number_of (aCons (eVar 2) (aCons (e2 ixD (eVar 3) (eVar 10)) aNil)) [] []) (eVar 10)) ρ4 = .ok (.bl false) ρ4 := nei_ok (i := b) (j := b) mn2 v10 (by simp)
  have hc : (eBi tupleD (aCons (eLcL 13 (iRg1 (aCons (eBi lenD (aCons (eVar 2) aNil)) aNil)) (gSet 12) (eB (e2 neD (e2 ixD (e2 ixD (eVar 3) (eVar 9)) (eVar 12)) (e2 ixD (e2 ixD (eVar 3) (eVar 10)) (eVar 12)))) (eFrz (eVar 12)) [12]) aNil)) ρ3 = .ok (T p) ρ3 := by
    refine tup_ints (o := true) (aCons_ok ?_ rfl)
    rw [hp, ← apart_eq]
    refine lc_filter1 (i := 12) (ρ1 := ρ3) (iRg1_ok (n := l.length) (aCons_ok (eBi_ok (aCons_ok rfl rfl) (len_TI l)) rfl) (by have := c.n8; omega)) (by rw [rgD_len]; have := c.n8; omega) rfl rfl (by decide) ?_ ?_
    · intro d hd
      obtain ⟨i, rfl, h1, h2⟩ := rgD_mem hd
      obtain ⟨n, rfl⟩ : ∃ n : Nat, i = n := ⟨i.toNat, by omega⟩
      exact eB_ok (ne_ok (x := .int ((slips l a).getD n 0)) (y := .int ((slips l b).getD n 0)) (e2_ok (x := T (slips l a)) (y := .int n) (e2_ok rfl rfl (ix_rows ha)) rfl (ix_TI (by rw [slips_len]; omega))) (e2_ok (x := T (slips l b)) (y := .int n) (e2_ok rfl rfl (ix_rows hb)) rfl (ix_TI (by rw [slips_len]; omega))) (eqB_int _ _))
    · intro d hd _
      obtain ⟨i, rfl, h1, h2⟩ := rgD_mem hd
      exact eFrz_ok rfl
  unfold bodyB
  refine Eq.trans (seq_nx (ρ1 := St ns l (some s) x4 x5 x6 (some (.int k)) x8 x9 x10 x11) (sAsg_ok (eCall_of (ρ1 := St ns l x1 x4 x5 x6 (some (.int k)) x8 x9 x10 x11) (aCons_ok rfl (aCons_ok rfl rfl)) rfl ev0 rfl) rfl)) ?_
  refine Eq.trans (seq_nx (ρ1 := St ns l (some s1) x4 x5 x6 (some (.int k)) x8 (some (.int a)) x10 x11) (sAsg_ok (eFrz_int ev1) rfl)) ?_
  refine Eq.trans (seq_nx (ρ1 := ρ3) (sAsg_ok (eFrz_int ev2) rfl)) ?_
  refine Eq.trans (seq_nx (ρ1 := ρ4) (sAsg_ok hc rfl)) ?_
  refine Eq.trans (seq_nx (ρ1 := ρ4) (Eq.trans (sIf_f (G := sNext) (mOr_f (mNot_ok (b := true) (eB_ok q1)) (mNot_ok (b := true) (eB_ok q2)))) rfl)) ?_
  refine Eq.trans (seq_nx (ρ1 := ρ4) (Eq.trans (sIf_f (G := sNext) (mNot_ok (b := true) (eB_ok q3))) rfl)) ?_
  exact Eq.trans (sIf_f (G := sNext) (mOr_f (eB_ok n1) (eB_ok n2))) rfl
theorem law_true (ns : List Int) (hl : ns.length ≤ 63) : ∃ os, F_law [.scr ns] = .ok (.bl true) os := by
  obtain ⟨s, ev0, hs⟩ := source_ok (ns := ns) (k := 0) (by omega) (by omega) hl
  obtain ⟨s1, l, ev1, hs1, c⟩ := law_club_ok hs (by omega)
  have hN := c.Nle
  have hpos : 0 < N l := by
    have := c.N
    have h1 : (1 : Int) ≤ Pr l := prod_le l 1 (fun x hx => (c.s x hx).1) (by decide)
    omega
  let n0 : Option D := none
  let ρ0 : DL.Env := [some (.scr ns), none, none, none, none, none, none, none, none, none, none, none, none]
  let ρ2 : DL.Env := [some (.scr ns), some s1, some (T l), none, none, none, none, none, none, none, none, none, none]
  let X := LL (rowsL l)
  obtain ⟨X', hX'⟩ : ∃ X', X' = (X ++ [D.tup []]).set 0 .non := ⟨_, rfl⟩
  let ρ4 : DL.Env := St ns l (some s1) (some (.lst true X)) none none none none none none none
  let ρ5 : DL.Env := St ns l (some s1) (some (.lst true X')) none none none none none none none
  obtain ⟨r, s2, ev2, r0, r1, hs2⟩ := drw (ρ := ρ5) (i := 1) (f := eBi lenD (aCons (eVar 3) aNil)) (m := N l) hs1 rfl (eBi_ok (aCons_ok rfl rfl) (lenD_rows l)) (by omega) (by omega) (by omega)
  obtain ⟨a, rfl⟩ : ∃ a : Nat, r = a := ⟨r.toNat, by omega⟩
  obtain ⟨I, hI⟩ : ∃ I : DL.Env → Prop, I = fun ρ => ∃ x1 x6 x7 x8 x9 x10 x11, ρ = St ns l x1 (some (.lst true X')) (some (.int a)) x6 x7 x8 x9 x10 x11 := ⟨_, rfl⟩
  have main : ∃ ρ', b_law ρ0 = .ret (.bl true) ρ' ∧ I ρ' := by
    have hXl : X.length = N l := by show (LL (rowsL l)).length = _; rw [List.length_map, rowsL_len]
    have ht := table_ok c
    have hfr : frzL X = X := frzL_TI _
    unfold b_law
    have g1 : ∀ R : SF, sSeq (sAsg (eCall F_law_source (aCons (eVar 0) (aCons (eC (.int 0)) aNil)) [] []) (gSet 1)) R ρ0 = R [some (.scr ns), some s, none, none, none, none, none, none, none, none, none, none, none] := fun R => seq_nx (sAsg_ok (eCall_of (ρ1 := ρ0) (aCons_ok rfl (aCons_ok rfl rfl)) rfl ev0 rfl) rfl)
    rw [g1]
    have g2 : ∀ R : SF, sSeq (sAsg (eFrz (eCall F_law_club (aCons (eMove 1) aNil) [] [(0, 1)])) (gSet 2)) R [some (.scr ns), some s, none, none, none, none, none, none, none, none, none, none, none] = R ρ2 := fun R => seq_nx (sAsg_ok (eFrz_ok (eCall_of (ρ1 := ρ0) (aCons_ok rfl rfl) rfl ev1 rfl)) rfl)
    rw [g2]
    have g3 : ∀ R : SF, sSeq (sAsg (eFrz (eCall F_law_rows (aCons (eVar 2) aNil) [] [])) (gSet 3)) R ρ2 = R (St ns l (some s1) none none none none none none none none) := fun R => seq_nx (sAsg_ok (d := .lst false X) (ρ1 := ρ2) ((eFrz_ok (eCall_of (ρ1 := ρ2) (aCons_ok rfl rfl) rfl (law_rows_ok c) rfl)).trans (by show Res.ok (D.lst false (frzL X)) _ = _; rw [hfr] <;> rfl)) rfl)
    rw [g3]
    have g4 : ∀ R : SF, sSeq (sAsg (eCall F_rows (aCons (eVar 2) aNil) [] []) (gSet 4)) R (St ns l (some s1) none none none none none none none none) = R ρ4 := fun R => seq_nx (sAsg_ok (d := .lst true X) (ρ1 := St ns l (some s1) none none none none none none none none) (eCall_of (aCons_ok rfl rfl) rfl (rows_ok c) rfl) rfl)
    rw [g4]
    have h5 : (tBor (mNot (eB (eCall F_law_is_table (aCons (eVar 4) (aCons (eVar 3) aNil)) [] [])))) ρ4 = .ok false ρ4 := by
      have hz : ρ4.map (Option.map frz) = St ns l (some (frz s1)) (some (.lst false X)) none none none none none none none := by
        show [some (.scr ns), some (frz s1), some (T l), some (.lst false (frzL X)), some (.lst false (frzL X)), none, none, none, none, none, none, none, none] = _
        rw [hfr]
      refine tBor_ok (b := false) (ρ1 := St ns l (some (frz s1)) (some (.lst false X)) none none none none none none none) ?_
      rw [hz]
      exact mNot_ok (b := true) (eB_ok (eCall_of (aCons_ok rfl (aCons_ok rfl rfl)) rfl ht rfl))
    have g5 : ∀ R : SF, sSeq (sIf (tBor (mNot (eB (eCall F_law_is_table (aCons (eVar 4) (aCons (eVar 3) aNil)) [] [])))) (sRet (eC (.bl false))) sNext) R ρ4 = R ρ4 := fun R => seq_nx ((sIf_f (G := sNext) h5).trans rfl)
    rw [g5]
    have g6 : ∀ R : SF, sSeq (sDrop (eApp 4 (eTup aNil))) R ρ4 = R (St ns l (some s1) (some (.lst true (X ++ [.tup []]))) none none none none none none none) := fun R => seq_nx (sDrop_ok (app_ok (i := 4) (ds := X) ⟨_, rfl⟩ (eTup_ok (ds := []) rfl (by simp)) rfl (by omega)))
    rw [g6]
    have h70 : ixN (X ++ [D.tup []]).length 0 = some 0 := by
      have h : (0 : Int) < (X ++ [D.tup []]).length := by rw [List.length_append]; simp <;> omega
      unfold ixN
      simp [h]
    have h71 : gItem 4 (eC (.int 0)) .non (St ns l (some s1) (some (.lst true (X ++ [.tup []]))) none none none none none none none) = some ρ5 := by
      refine (put_ok (i := 4) (j := 0) (n := 0) (ds := X ++ [.tup []]) (ρ1 := St ns l (some s1) (some (.lst true (X ++ [.tup []]))) none none none none none none none) rfl rfl rfl rfl h70).trans ?_
      exact congrArg (fun z => some (St ns l (some s1) (some (.lst true z)) none none none none none none none)) hX'.symm
    have g7 : ∀ R : SF, sSeq (sAsg (eC .non) (gItem 4 (eC (.int 0)))) R (St ns l (some s1) (some (.lst true (X ++ [.tup []]))) none none none none none none none) = R ρ5 := fun R => seq_nx (sAsg_ok (d := .non) (ρ1 := St ns l (some s1) (some (.lst true (X ++ [.tup []]))) none none none none none none none) rfl h71)
    rw [g7]
    have h8 : (mNot (eB (eCall F_law_is_table (aCons (eFrz (eCall F_rows (aCons (eVar 2) aNil) [] [])) (aCons (eVar 3) aNil)) [] []))) ρ5 = .ok false ρ5 := mNot_ok (b := true) (eB_ok (eCall_of (ρ1 := ρ5) (aCons_ok (d := .lst false X) ((eFrz_ok (eCall_of (ρ1 := ρ5) (aCons_ok rfl rfl) rfl (rows_ok c) rfl)).trans (by show Res.ok (D.lst false (frzL X)) _ = _; rw [hfr] <;> rfl)) (aCons_ok rfl rfl)) rfl ht rfl))
    have g8 : ∀ R : SF, sSeq (sIf (mNot (eB (eCall F_law_is_table (aCons (eFrz (eCall F_rows (aCons (eVar 2) aNil) [] [])) (aCons (eVar 3) aNil)) [] []))) (sRet (eC (.bl false))) sNext) R ρ5 = R ρ5 := fun R => seq_nx ((sIf_f (G := sNext) h8).trans rfl)
    rw [g8]
    have g9 : ∀ R : SF, sSeq (sAsg (eFrz (eCall F_law_draw (aCons (eMove 1) (aCons (eBi lenD (aCons (eVar 3) aNil)) aNil)) [] [(0, 1)])) (gSet 5)) R ρ5 = R (St ns l (some s2) (some (.lst true X')) (some (.int a)) none none none none none none) := fun R => seq_nx (sAsg_ok (eFrz_int ev2) rfl)
    rw [g9]
    obtain ⟨m, hm⟩ : ∃ m : Int, m = if ((a : Int) + 40) < (N l : Int) then (a : Int) + 40 else (N l : Int) := ⟨_, rfl⟩
    have hm2 : m ≤ N l := by subst hm; split <;> omega
    let ρ9 : DL.Env := St ns l (some s2) (some (.lst true X')) (some (.int a)) none none none none none none
    have i1 : (iRg2 (aCons (eVar 5) (aCons (eBi min2D (aCons (eBi lenD (aCons (eVar 3) aNil)) (aCons (e2 addD (eVar 5) (eC (.int 40))) aNil))) aNil))) ρ9 = .ok (rgD a m) ρ9 := by
      refine iRg2_ok (m := a) (n := m) (aCons_ok rfl (aCons_ok (eBi_ok (aCons_ok (eBi_ok (aCons_ok rfl rfl) (lenD_rows l)) (aCons_ok (add_ok rfl rfl) rfl)) ?_) rfl)) ?_
      · rw [hm]; rfl
      · subst hm; split <;> omega
    refine for_then I i1 (by rw [hI]; exact ⟨_, _, _, _, _, _, _, rfl⟩) ?_ ?_
    · intro d hd ρ hρ
      rw [hI] at hρ
      obtain ⟨x1, x6, x7, x8, x9, x10, x11, rfl⟩ := hρ
      obtain ⟨i, rfl, q1, q2⟩ := rgD_mem hd
      obtain ⟨k, rfl⟩ : ∃ k : Nat, i = k := ⟨i.toNat, by omega⟩
      refine ⟨St ns l x1 (some (.lst true X')) (some (.int a)) (some (.int k)) x7 x8 x9 x10 x11, _, rfl, bodyA_ok c (by omega) _ _ _ _ _ _ _ _, ?_⟩
      rw [hI]
      exact ⟨_, _, _, _, _, _, _, rfl⟩
    intro ρ hρ
    rw [hI] at hρ
    obtain ⟨x1, x6, x7, x8, x9, x10, x11, rfl⟩ := hρ
    let ρA : DL.Env := St ns l x1 (some (.lst true X')) (some (.int a)) x6 x7 x8 x9 x10 x11
    obtain ⟨m1, hm1⟩ : ∃ m1 : Int, m1 = if (41 : Int) < (ns.length : Int) then 41 else (ns.length : Int) := ⟨_, rfl⟩
    obtain ⟨m2, hm2⟩ : ∃ m2 : Int, m2 = if m1 > 6 then m1 else 6 := ⟨_, rfl⟩
    have b1 : m1 ≤ 41 := by subst hm1; split <;> omega
    have b2 : 6 ≤ m2 ∧ m2 ≤ 41 := by subst hm2; split <;> omega
    have i2 : (iRg2 (aCons (eC (.int 1)) (aCons (eBi max2D (aCons (eC (.int 6)) (aCons (eBi min2D (aCons (eBi lenD (aCons (eVar 0) aNil)) (aCons (eC (.int 41)) aNil))) aNil))) aNil))) ρA = .ok (rgD 1 m2) ρA := by
      refine iRg2_ok (m := 1) (n := m2) (aCons_ok rfl (aCons_ok (eBi_ok (ds := [.int 6, .int m1]) (aCons_ok rfl (aCons_ok (eBi_ok (aCons_ok (eBi_ok (aCons_ok rfl rfl) (len_scr ns)) (aCons_ok rfl rfl)) ?_) rfl)) ?_) rfl)) (by omega)
      · rw [hm1]; rfl
      · rw [hm2]; rfl
    refine for_then I i2 (by rw [hI]; exact ⟨_, _, _, _, _, _, _, rfl⟩) ?_ ?_
    · intro d hd ρ hρ
      rw [hI] at hρ
      obtain ⟨x1, x6, x7, x8, x9, x10, x11, rfl⟩ := hρ
      obtain ⟨i, rfl, q1, q2⟩ := rgD_mem hd
      obtain ⟨y1, y9, y10, y11, e⟩ := bodyB_ok (ns := ns) c (k := i) hl (by omega) (by omega) x1 (some (.lst true X')) (some (.int a)) x6 x8 x9 x10 x11
      refine ⟨St ns l x1 (some (.lst true X')) (some (.int a)) x6 (some (.int i)) x8 x9 x10 x11, _, rfl, e, ?_⟩
      rw [hI]
      exact ⟨_, _, _, _, _, _, _, rfl⟩
    intro ρ hρ
    exact ⟨ρ, rfl, hρ⟩
  obtain ⟨ρ', e, hρ⟩ := main
  rw [hI] at hρ
  obtain ⟨x1, x6, x7, x8, x9, x10, x11, rfl⟩ := hρ
  exact ⟨_, run_ok e rfl (by simp) rfl⟩
end Lk01

open PySem PySem.W PySem.Calls PyProof.Rows
theorem PySem.Challenge.cw_owncause_k01_whole_rows_and_their_number_holds : PySem.Challenge.rw_owncause_k01_whole_rows_and_their_number.Holds := by
  w_on; o_law
  refine HandSHeadRun.head_any (r := OpenLaw.row PySem.Challenge.rw_owncause_k01_whole_rows_and_their_number) (q := view (OpenLaw.row PySem.Challenge.rw_owncause_k01_whole_rows_and_their_number).prog [34]) (H := Lk01.hk) (ob := Lk01.ob) (M := 4000) (loose := Lk01.loose) (d := HandSHeadRun.topDef (OpenLaw.row PySem.Challenge.rw_owncause_k01_whole_rows_and_their_number).prog 34) (kwd := []) Lk01.ob_eq
    (by kernel_rfl) (fun s => by kernel_rfl) Lk01.run (by kernel_rfl) (by kernel_rfl) (by kernel_rfl) (by rfl) (by first | assumption | decide +kernel) (by decide +kernel) ⟨rfl, rfl, rfl, rfl, rfl, by decide +kernel⟩ ?hw ?hc
  case hw => w_witness2
  case hc =>
    refine DL.walk_ofEW (l := PySem.Challenge.rw_owncause_k01_whole_rows_and_their_number) (n := 63) (k := 7) (x := "_law_script") (CX := fun w => L2.CX (PySem.Challenge.rw_owncause_k01_whole_rows_and_their_number).prog w) rfl (by decide) (by kernel_rfl) ⟨rfl, by decide, by decide⟩ ?F DL.cx_no
    intro w mg fa h Y G hmg0
    obtain ⟨K, KX, c⟩ := Y
    have hmg : mg ("law" : PySem.Str) = some (.ref fa) := by
      have e : (HandSHeadRun.topDef (OpenLaw.row PySem.Challenge.rw_owncause_k01_whole_rows_and_their_number).prog 34).name = ("law" : PySem.Str) := by kernel_rfl
      rw [← e]
      exact hmg0
    obtain ⟨fd, hb, hF⟩ := Lk01.facts (P := (PySem.Challenge.rw_owncause_k01_whole_rows_and_their_number).prog) (w := w) KX G hmg c
    exact ⟨K, fd, _, KX, hb, fun H a ns hl _ hS => DL.spLaw_of Lk01.law_true H a ns hl hS, hF⟩
