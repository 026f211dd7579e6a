import PyProof.Rows.All
import Wide.All
import OpenK.AllK
import Wide.FinOn
import HandS.ForMost
import HandS.ForExc
import HandS.CallSlots
import HandS.Wide
import HandS.WideBits
import HandS.TupAny
import HandS.TupMul
import HandS.Defaults
import HandS.Small
import HandS.TryOnly
import HandS.TryMany
import HandS.IsInst
import HandS.Conv
import HandS.Zip
import HandS.Rev
import HandS.Deep
import HandS.ExcOwn
import HandS.ExcIs
import HandS.HeadHook2
import HandS.Head0
import HandS.Head1
import HandS.Head2
import HandS.HeadEnd
import HandS.HeadHook1
import HandS.HeadWalk
import HandS.SetFor
import KE.GoesMore
import PySem.Challenge.RW_owncause_k63_whole_sums_of_boxes
set_option Elab.async false
set_option linter.all false
set_option maxRecDepth 100000
set_option maxHeartbeats 4000000
namespace DL
open PySem PySem.Spec L2
/-! pure data and what stands for it -/
inductive D where
  | non
  | bl (b : Bool)
  | int (i : Int)
  | str (x : Str)
  | adr (a : Addr)
  | scr (ns : List Int)
  | tup (ds : List D)
  | lst (o : Bool) (ds : List D)
  | dk (o : Bool) (ks : List Key) (ds : List D)
  | dt (o : Bool) (ks : List (List Key)) (ds : List D)
  | obj (o : Bool) (c : Str) (ns : List Str) (ds : List D)
structure RC where
  K : PySem.W.Frag
  mg : Str → Option Value
mutual
def Rep (K : RC) (F H : Hp) : D → V → List Addr → Prop
  | .non, v, A => v = .non ∧ A = []
  | .bl b, v, A => v = .bl b ∧ A = []
  | .int i, v, A => v = .int i ∧ A = []
  | .str x, v, A => v = .str x ∧ A = []
  | .adr a, v, A => v = .ref a ∧ A = []
  | .scr ns, v, A => A = [] ∧ ∃ a, v = .ref a ∧ SqL K.K F a (ns.map V.int)
  | .tup ds, v, A => A = [] ∧ ∃ a xs, v = .ref a ∧ F a = some (.tup xs) ∧ RepL K F H ds xs []
  | .lst false ds, v, A => A = [] ∧ ∃ a xs, v = .ref a ∧ F a = some (.lst xs) ∧ RepL K F H ds xs []
  | .lst true ds, v, A => ∃ a xs B, v = .ref a ∧ A = a :: B ∧ H a = some (.lst xs) ∧ RepL K F H ds xs B
  | .dk false ks ds, v, A => A = [] ∧ ∃ a kvs, v = .ref a ∧ F a = some (.dK kvs) ∧ kvs.map Prod.fst = ks ∧ RepL K F H ds (kvs.map Prod.snd) []
  | .dk true ks ds, v, A => ∃ a kvs B, v = .ref a ∧ A = a :: B ∧ H a = some (.dK kvs) ∧ kvs.map Prod.fst = ks ∧ RepL K F H ds (kvs.map Prod.snd) B
  | .dt false ks ds, v, A => A = [] ∧ ∃ a kvs, v = .ref a ∧ F a = some (.dT kvs) ∧ kvs.map Prod.fst = ks ∧ RepL K F H ds (kvs.map Prod.snd) []
  | .dt true ks ds, v, A => ∃ a kvs B, v = .ref a ∧ A = a :: B ∧ H a = some (.dT kvs) ∧ kvs.map Prod.fst = ks ∧ RepL K F H ds (kvs.map Prod.snd) B
  | .obj false c ns ds, v, A => A = [] ∧ ∃ a C dx fs, v = .ref a ∧ K.mg c = some (.ref C) ∧ F a = some (.ins C dx fs) ∧ fs.map Prod.fst = ns ∧ RepL K F H ds (fs.map Prod.snd) []
  | .obj true c ns ds, v, A => ∃ a C dx fs B, v = .ref a ∧ A = a :: B ∧ K.mg c = some (.ref C) ∧ H a = some (.ins C dx fs) ∧ fs.map Prod.fst = ns ∧ RepL K F H ds (fs.map Prod.snd) B
def RepL (K : RC) (F H : Hp) : List D → List V → List Addr → Prop
  | [], vs, A => vs = [] ∧ A = []
  | d :: ds, vs, A => ∃ v ws B C, vs = v :: ws ∧ A = B ++ C ∧ Rep K F H d v B ∧ RepL K F H ds ws C
end
mutual
def frz : D → D
  | .lst _ ds => .lst false (frzL ds)
  | .dk _ ks ds => .dk false ks (frzL ds)
  | .dt _ ks ds => .dt false ks (frzL ds)
  | .obj _ c ns ds => .obj false c ns (frzL ds)
  | .tup ds => .tup ds
  | .non => .non
  | .bl b => .bl b
  | .int i => .int i
  | .str x => .str x
  | .adr a => .adr a
  | .scr ns => .scr ns
def frzL : List D → List D
  | [] => []
  | d :: ds => frz d :: frzL ds
end
variable {K : RC}
theorem Rd.mono {F F' : Hp} {a : Addr} {u : HO} (h : ∀ a o, F a = some o → F' a = some o) (r : Rd F a u) : Rd F' a u := by
  rcases r with r | ⟨o, r⟩
  · exact .inl (h _ _ r)
  · exact .inr ⟨o, h _ _ r⟩
theorem SqL.mono {K : PySem.W.Frag} {F F' : Hp} {a : Addr} {xs : List V} (h : ∀ a o, F a = some o → F' a = some o) (r : SqL K F a xs) : SqL K F' a xs := by
  rcases r with r | r
  · exact .inl (Rd.mono h r)
  · exact .inr r
theorem SqT.mono {K : PySem.W.Frag} {F F' : Hp} {a : Addr} {xs : List V} (h : ∀ a o, F a = some o → F' a = some o) (r : SqT K F a xs) : SqT K F' a xs := by
  rcases r with r | r
  · exact .inl (Rd.mono h r)
  · exact .inr r
mutual
theorem Rep.mono {F F' H H' : Hp} (h : ∀ a o, F a = some o → F' a = some o) : ∀ (d : D) (v : V) (A : List Addr), (∀ a ∈ A, ∀ o, H a = some o → H' a = some o) → Rep K F H d v A → Rep K F' H' d v A
  | .non, v, A, _, r => r
  | .bl b, v, A, _, r => r
  | .int i, v, A, _, r => r
  | .str x, v, A, _, r => r
  | .adr a, v, A, _, r => r
  | .scr ns, v, A, _, r => by
    obtain ⟨rfl, a, rfl, s⟩ := r
    exact ⟨rfl, a, rfl, SqL.mono h s⟩
  | .tup ds, v, A, k, r => by
    obtain ⟨rfl, a, xs, rfl, s, r⟩ := r
    exact ⟨rfl, a, xs, rfl, h _ _ s, RepL.mono h ds xs [] (fun _ z => nomatch z) r⟩
  | .lst false ds, v, A, k, r => by
    obtain ⟨rfl, a, xs, rfl, s, r⟩ := r
    exact ⟨rfl, a, xs, rfl, h _ _ s, RepL.mono h ds xs [] (fun _ z => nomatch z) r⟩
  | .lst true ds, v, A, k, r => by
    obtain ⟨a, xs, B, rfl, rfl, s, r⟩ := r
    exact ⟨a, xs, B, rfl, rfl, k a List.mem_cons_self _ s, RepL.mono h ds xs B (fun b z => k b (List.mem_cons_of_mem _ z)) r⟩
  | .dk false ks ds, v, A, k, r => by
    obtain ⟨rfl, a, kvs, rfl, s, e, r⟩ := r
    exact ⟨rfl, a, kvs, rfl, h _ _ s, e, RepL.mono h ds _ [] (fun _ z => nomatch z) r⟩
  | .dk true ks ds, v, A, k, r => by
    obtain ⟨a, kvs, B, rfl, rfl, s, e, r⟩ := r
    exact ⟨a, kvs, B, rfl, rfl, k a List.mem_cons_self _ s, e, RepL.mono h ds _ B (fun b z => k b (List.mem_cons_of_mem _ z)) r⟩
  | .dt false ks ds, v, A, k, r => by
    obtain ⟨rfl, a, kvs, rfl, s, e, r⟩ := r
    exact ⟨rfl, a, kvs, rfl, h _ _ s, e, RepL.mono h ds _ [] (fun _ z => nomatch z) r⟩
  | .dt true ks ds, v, A, k, r => by
    obtain ⟨a, kvs, B, rfl, rfl, s, e, r⟩ := r
    exact ⟨a, kvs, B, rfl, rfl, k a List.mem_cons_self _ s, e, RepL.mono h ds _ B (fun b z => k b (List.mem_cons_of_mem _ z)) r⟩
  | .obj false c ns ds, v, A, k, r => by
    obtain ⟨rfl, a, C, dx, fs, rfl, g, s, e, r⟩ := r
    exact ⟨rfl, a, C, dx, fs, rfl, g, h _ _ s, e, RepL.mono h ds _ [] (fun _ z => nomatch z) r⟩
  | .obj true c ns ds, v, A, k, r => by
    obtain ⟨a, C, dx, fs, B, rfl, rfl, g, s, e, r⟩ := r
    exact ⟨a, C, dx, fs, B, rfl, rfl, g, k a List.mem_cons_self _ s, e, RepL.mono h ds _ B (fun b z => k b (List.mem_cons_of_mem _ z)) r⟩
theorem RepL.mono {F F' H H' : Hp} (h : ∀ a o, F a = some o → F' a = some o) : ∀ (ds : List D) (vs : List V) (A : List Addr), (∀ a ∈ A, ∀ o, H a = some o → H' a = some o) → RepL K F H ds vs A → RepL K F' H' ds vs A
  | [], _, _, _, r => r
  | d :: ds, vs, A, k, r => by
    obtain ⟨v, ws, B, C, rfl, rfl, r1, r2⟩ := r
    exact ⟨v, ws, B, C, rfl, rfl, Rep.mono h d v B (fun a z => k a (List.mem_append_left _ z)) r1, RepL.mono h ds ws C (fun a z => k a (List.mem_append_right _ z)) r2⟩
end
end DL

set_option Elab.async false
set_option linter.all false
set_option maxRecDepth 100000
set_option maxHeartbeats 4000000
namespace DL
open PySem PySem.Spec L2
variable {K : RC}
abbrev Env := List (Option D)
/-- one slot -/
def Sx (K : RC) (F H : Hp) : Option D → Option V → List Addr → Prop
  | none, _, B => B = []
  | some d, s, B => ∃ v, s = some v ∧ Rep K F H d v B
def Sl (K : RC) (F H : Hp) : Env → St → List Addr → Prop
  | [], σ, A => σ = [] ∧ A = []
  | x :: ρ, σ, A => ∃ s τ B C, σ = s :: τ ∧ A = B ++ C ∧ Sx K F H x s B ∧ Sl K F H ρ τ C
def hid (A : List Addr) (H : Hp) : Hp := fun a => if a ∈ A then none else H a
theorem hid_some {A : List Addr} {H : Hp} {a : Addr} {o : HO} : hid A H a = some o ↔ a ∉ A ∧ H a = some o := by
  unfold hid
  by_cases h : a ∈ A
  · rw [if_pos h]; exact ⟨(fun z => by cases z), fun z => absurd h z.1⟩
  · rw [if_neg h]; exact ⟨fun z => ⟨h, z⟩, fun z => z.2⟩
structure Fr where
  G : Hp
  N : List Addr
structure SimA (K : RC) (fr : Fr) (ρ : Env) (σ : St) (H : Hp) (A : List Addr) : Prop where
  sl : Sl K (hid (A ++ fr.N) H) H ρ σ A
  nd : A.Nodup
  off : ∀ a ∈ A, a ∉ fr.N ∧ fr.G a = none
  keep : ∀ a o, fr.G a = some o → H a = some o
  tr : ∀ a ∈ fr.N, ∃ o, fr.G a = some o
def Sim (K : RC) (fr : Fr) (ρ : Env) (σ : St) (H : Hp) : Prop := ∃ A, SimA K fr ρ σ H A

theorem Sx.mono {F F' H H' : Hp} {x : Option D} {s : Option V} {B : List Addr} (h : ∀ a o, F a = some o → F' a = some o) (k : ∀ a ∈ B, ∀ o, H a = some o → H' a = some o) (r : Sx K F H x s B) : Sx K F' H' x s B := by
  cases x with
  | none => exact r
  | some d =>
    obtain ⟨v, e, r⟩ := r
    exact ⟨v, e, Rep.mono h d v B k r⟩
theorem Sl.mono {F F' H H' : Hp} (h : ∀ a o, F a = some o → F' a = some o) : ∀ {ρ : Env} {σ : St} {A : List Addr}, (∀ a ∈ A, ∀ o, H a = some o → H' a = some o) → Sl K F H ρ σ A → Sl K F' H' ρ σ A
  | [], _, _, _, r => r
  | x :: ρ, σ, A, k, r => by
    obtain ⟨s, τ, B, C, rfl, rfl, r1, r2⟩ := r
    exact ⟨s, τ, B, C, rfl, rfl, r1.mono h (fun a z => k a (List.mem_append_left _ z)), Sl.mono h (fun a z => k a (List.mem_append_right _ z)) r2⟩
theorem Sl.len {F H : Hp} : ∀ {ρ : Env} {σ : St} {A : List Addr}, Sl K F H ρ σ A → σ.length = ρ.length
  | [], _, _, r => by rw [r.1]; rfl
  | x :: ρ, σ, A, r => by
    obtain ⟨s, τ, B, C, rfl, rfl, r1, r2⟩ := r
    rw [List.length_cons, List.length_cons, Sl.len r2]
theorem Sl.app {F H : Hp} : ∀ {ρ1 ρ2 : Env} {σ1 σ2 : St} {A1 A2 : List Addr}, Sl K F H ρ1 σ1 A1 → Sl K F H ρ2 σ2 A2 → Sl K F H (ρ1 ++ ρ2) (σ1 ++ σ2) (A1 ++ A2)
  | [], _, _, _, _, _, r, q => by
    obtain ⟨rfl, rfl⟩ := r
    exact q
  | x :: ρ, ρ2, σ, σ2, A, A2, r, q => by
    obtain ⟨s, τ, B, C, rfl, rfl, r1, r2⟩ := r
    exact ⟨s, τ ++ σ2, B, C ++ A2, rfl, by rw [List.append_assoc], r1, Sl.app r2 q⟩
theorem Sl.cut {F H : Hp} : ∀ {ρ1 ρ2 : Env} {σ1 σ2 : St} {A : List Addr}, σ1.length = ρ1.length → Sl K F H (ρ1 ++ ρ2) (σ1 ++ σ2) A → ∃ A1 A2, A = A1 ++ A2 ∧ Sl K F H ρ1 σ1 A1 ∧ Sl K F H ρ2 σ2 A2
  | [], ρ2, σ1, σ2, A, e, r => by
    have : σ1 = [] := List.length_eq_zero_iff.mp e
    subst this
    exact ⟨[], A, rfl, ⟨rfl, rfl⟩, r⟩
  | x :: ρ, ρ2, σ1, σ2, A, e, r => by
    cases σ1 with
    | nil => cases e
    | cons s1 τ1 =>
      obtain ⟨s, τ, B, C, e1, rfl, r1, r2⟩ := r
      injection e1 with e1 e2
      subst e1 e2
      obtain ⟨A1, A2, rfl, q1, q2⟩ := Sl.cut (by simpa using e) r2
      exact ⟨B ++ A1, A2, by rw [List.append_assoc], ⟨s1, τ1, B, A1, rfl, rfl, r1, q1⟩, q2⟩
/-- a slot, and another thing put there -/
theorem Sl.at {F H : Hp} : ∀ {ρ : Env} {σ : St} {A : List Addr} {i : Nat} {x : Option D}, Sl K F H ρ σ A → ρ[i]? = some x →
    ∃ s A1 B A2, σ[i]? = some s ∧ A = A1 ++ (B ++ A2) ∧ Sx K F H x s B ∧
      ∀ {F' H' : Hp} {x' : Option D} {s' : Option V} {B' : List Addr}, (∀ a o, F a = some o → F' a = some o) → (∀ a ∈ A1 ++ A2, ∀ o, H a = some o → H' a = some o) → Sx K F' H' x' s' B' → Sl K F' H' (ρ.set i x') (σ.set i s') (A1 ++ (B' ++ A2))
  | [], _, _, _, _, _, e => by simp at e
  | y :: ρ, σ, A, 0, x, r, e => by
    obtain ⟨s, τ, B, C, rfl, rfl, r1, r2⟩ := r
    have : y = x := by simpa using e
    subst this
    exact ⟨s, [], B, C, rfl, rfl, r1, fun {F' H' x' s' B'} h k q => ⟨s', τ, B', C, rfl, rfl, q, r2.mono h (fun a z => k a (by simpa using z))⟩⟩
  | y :: ρ, σ, A, i + 1, x, r, e => by
    obtain ⟨s, τ, B, C, rfl, rfl, r1, r2⟩ := r
    obtain ⟨s0, A1, B0, A2, e0, rfl, r3, f⟩ := Sl.at (i := i) r2 (by simpa using e)
    refine ⟨s0, B ++ A1, B0, A2, by simpa using e0, by rw [List.append_assoc], r3, fun {F' H' x' s' B'} h k q => ?_⟩
    refine ⟨s, τ.set i s', B, A1 ++ (B' ++ A2), rfl, by rw [List.append_assoc], r1.mono h (fun a z => k a (by simp [z])), f h (fun a z => k a ?_) q⟩
    rcases List.mem_append.mp z with z | z
    · simp [z]
    · simp [z]

section
variable {fr : Fr} {ρ ρ' : Env} {σ σ' : St} {H H' : Hp} {A A' : List Addr}
theorem SimA.fro (S : SimA K fr ρ σ H A) (sub : ∀ a ∈ A', a ∈ A ∨ H a = none) (kp : ∀ a o, a ∉ A → H a = some o → H' a = some o) : ∀ a o, hid (A ++ fr.N) H a = some o → hid (A' ++ fr.N) H' a = some o := fun a o e => by
  rw [hid_some] at e ⊢
  obtain ⟨n, e⟩ := e
  have nA : a ∉ A := fun z => n (List.mem_append_left _ z)
  refine ⟨fun z => ?_, kp a o nA e⟩
  rcases List.mem_append.mp z with z | z
  · rcases sub a z with z | z
    · exact nA z
    · rw [e] at z; cases z
  · exact n (List.mem_append_right _ z)
theorem SimA.next (S : SimA K fr ρ σ H A) (sub : ∀ a ∈ A', a ∈ A ∨ H a = none) (nd : A'.Nodup) (kp : ∀ a o, a ∉ A → H a = some o → H' a = some o) (sl : Sl K (hid (A' ++ fr.N) H') H' ρ' σ' A') : SimA K fr ρ' σ' H' A' := by
  refine ⟨sl, nd, fun a z => ?_, fun a o e => ?_, S.tr⟩
  · rcases sub a z with q | q
    · exact S.off a q
    · refine ⟨fun w => ?_, ?_⟩
      · obtain ⟨o, e⟩ := S.tr a w
        rw [S.keep a o e] at q; cases q
      · cases e : fr.G a with
        | none => rfl
        | some o => rw [S.keep a o e] at q; cases q
  · have nA : a ∉ A := fun z => by rw [(S.off a z).2] at e; cases e
    exact kp a o nA (S.keep a o e)
theorem Sim.len (S : Sim K fr ρ σ H) : σ.length = ρ.length := let ⟨_, S⟩ := S; S.sl.len
/-- the heap grew -/
theorem SimA.grow (S : SimA K fr ρ σ H A) (k : ∀ a o, H a = some o → H' a = some o) : SimA K fr ρ σ H' A :=
  S.next (fun a z => .inl z) S.nd (fun a o _ e => k a o e) (S.sl.mono (S.fro (fun a z => .inl z) fun a o _ e => k a o e) fun a _ o e => k a o e)
theorem Sim.grow (S : Sim K fr ρ σ H) (k : ∀ a o, H a = some o → H' a = some o) : Sim K fr ρ σ H' := let ⟨A, S⟩ := S; ⟨A, S.grow k⟩
theorem Sim.drop {x : Option D} {s : Option V} (S : Sim K fr (x :: ρ) (s :: σ) H) : Sim K fr ρ σ H := by
  obtain ⟨A, S⟩ := S
  obtain ⟨s', τ, B, C, e, rfl, r1, r2⟩ := S.sl
  injection e with e1 e2
  subst e1 e2
  have sub : ∀ a ∈ C, a ∈ B ++ C ∨ H a = none := fun a z => .inl (List.mem_append_right _ z)
  exact ⟨C, S.next sub (List.nodup_append.mp S.nd).2.1 (fun a o _ e => e) (r2.mono (S.fro sub fun a o _ e => e) fun a _ o e => e)⟩
theorem Sim.dropN {ρ1 : Env} {σ1 : St} (e : σ1.length = ρ1.length) (S : Sim K fr (ρ1 ++ ρ) (σ1 ++ σ) H) : Sim K fr ρ σ H := by
  induction ρ1 generalizing σ1 with
  | nil =>
    have : σ1 = [] := List.length_eq_zero_iff.mp e
    subst this
    exact S
  | cons x ρ1 ih =>
    cases σ1 with
    | nil => cases e
    | cons s σ1 => exact ih (by simpa using e) S.drop
theorem nodup_swap {A B : List Addr} (h : (A ++ B).Nodup) : (B ++ A).Nodup := by
  rw [List.nodup_append] at h ⊢
  exact ⟨h.2.1, h.1, fun a ha b hb e => h.2.2 b hb a ha e.symm⟩
/-- exchange -/
theorem Sim.swap {ρ1 ρ2 : Env} {σ1 σ2 : St} (e : σ1.length = ρ1.length) (S : Sim K fr (ρ1 ++ ρ2) (σ1 ++ σ2) H) : Sim K fr (ρ2 ++ ρ1) (σ2 ++ σ1) H := by
  obtain ⟨A, S⟩ := S
  obtain ⟨A1, A2, rfl, q1, q2⟩ := Sl.cut e S.sl
  have sub : ∀ a ∈ A2 ++ A1, a ∈ A1 ++ A2 ∨ H a = none := fun a z => .inl (List.mem_append.mpr (List.mem_append.mp z).symm)
  have f := S.fro sub (H' := H) fun a o _ e => e
  exact ⟨A2 ++ A1, S.next sub (nodup_swap S.nd) (fun a o _ e => e) (Sl.app (q2.mono f fun a _ o e => e) (q1.mono f fun a _ o e => e))⟩
/-- what the owned addresses are: tracked -/
theorem own_tr : True := trivial
end
mutual
theorem Rep.tr {F H : Hp} : ∀ (d : D) (v : V) (A : List Addr), Rep K F H d v A → ∀ a ∈ A, ∃ o, H a = some o
  | .non, v, A, r, a, z => by rw [r.2] at z; cases z
  | .bl b, v, A, r, a, z => by rw [r.2] at z; cases z
  | .int i, v, A, r, a, z => by rw [r.2] at z; cases z
  | .str x, v, A, r, a, z => by rw [r.2] at z; cases z
  | .adr _, v, A, r, a, z => by rw [r.2] at z; cases z
  | .scr ns, v, A, r, a, z => by rw [r.1] at z; cases z
  | .tup ds, v, A, r, a, z => by rw [r.1] at z; cases z
  | .obj false c ns ds, v, A, r, a, z => by rw [r.1] at z; cases z
  | .obj true c ns ds, v, A, r, a, z => by
    obtain ⟨p, C, dx, fs, B, rfl, rfl, g, s, e, r⟩ := r
    rcases List.mem_cons.mp z with z | z
    · subst z; exact ⟨_, s⟩
    · exact RepL.tr ds _ B r a z
  | .lst false ds, v, A, r, a, z => by rw [r.1] at z; cases z
  | .dk false ks ds, v, A, r, a, z => by rw [r.1] at z; cases z
  | .dt false ks ds, v, A, r, a, z => by rw [r.1] at z; cases z
  | .lst true ds, v, A, r, a, z => by
    obtain ⟨p, xs, B, rfl, rfl, s, r⟩ := r
    rcases List.mem_cons.mp z with z | z
    · subst z; exact ⟨_, s⟩
    · exact RepL.tr ds xs B r a z
  | .dk true ks ds, v, A, r, a, z => by
    obtain ⟨p, kvs, B, rfl, rfl, s, e, r⟩ := r
    rcases List.mem_cons.mp z with z | z
    · subst z; exact ⟨_, s⟩
    · exact RepL.tr ds _ B r a z
  | .dt true ks ds, v, A, r, a, z => by
    obtain ⟨p, kvs, B, rfl, rfl, s, e, r⟩ := r
    rcases List.mem_cons.mp z with z | z
    · subst z; exact ⟨_, s⟩
    · exact RepL.tr ds _ B r a z
theorem RepL.tr {F H : Hp} : ∀ (ds : List D) (vs : List V) (A : List Addr), RepL K F H ds vs A → ∀ a ∈ A, ∃ o, H a = some o
  | [], vs, A, r, a, z => by rw [r.2] at z; cases z
  | d :: ds, vs, A, r, a, z => by
    obtain ⟨v, ws, B, C, rfl, rfl, r1, r2⟩ := r
    rcases List.mem_append.mp z with z | z
    · exact Rep.tr d v B r1 a z
    · exact RepL.tr ds ws C r2 a z
end
theorem Sl.tr {F H : Hp} : ∀ {ρ : Env} {σ : St} {A : List Addr}, Sl K F H ρ σ A → ∀ a ∈ A, ∃ o, H a = some o
  | [], σ, A, r, a, z => by rw [r.2] at z; cases z
  | x :: ρ, σ, A, r, a, z => by
    obtain ⟨s, τ, B, C, rfl, rfl, r1, r2⟩ := r
    rcases List.mem_append.mp z with z | z
    · cases x with
      | none => rw [show B = [] from r1] at z; cases z
      | some d =>
        obtain ⟨v, _, r1⟩ := r1
        exact Rep.tr d v B r1 a z
    · exact r2.tr a z
mutual
theorem Rep.frz {F F' H : Hp} (h : ∀ a o, F a = some o → F' a = some o) : ∀ (d : D) (v : V) (A : List Addr), (∀ a ∈ A, ∀ o, H a = some o → F' a = some o) → Rep K F H d v A → Rep K F' H (frz d) v []
  | .non, v, A, _, r => ⟨r.1, rfl⟩
  | .bl b, v, A, _, r => ⟨r.1, rfl⟩
  | .int i, v, A, _, r => ⟨r.1, rfl⟩
  | .str x, v, A, _, r => ⟨r.1, rfl⟩
  | .adr a, v, A, _, r => ⟨r.1, rfl⟩
  | .tup ds, v, A, k, r => by
    obtain ⟨rfl, a, xs, rfl, s, r⟩ := r
    exact ⟨rfl, a, xs, rfl, h _ _ s, RepL.mono h ds xs [] (fun _ z => nomatch z) r⟩
  | .lst false ds, v, A, k, r => by
    obtain ⟨rfl, a, xs, rfl, s, r⟩ := r
    exact ⟨rfl, a, xs, rfl, h _ _ s, RepL.frz h ds xs [] (fun _ z => nomatch z) r⟩
  | .lst true ds, v, A, k, r => by
    obtain ⟨a, xs, B, rfl, rfl, s, r⟩ := r
    exact ⟨rfl, a, xs, rfl, k a List.mem_cons_self _ s, RepL.frz h ds xs B (fun b z => k b (List.mem_cons_of_mem _ z)) r⟩
  | .dk false ks ds, v, A, k, r => by
    obtain ⟨rfl, a, kvs, rfl, s, e, r⟩ := r
    exact ⟨rfl, a, kvs, rfl, h _ _ s, e, RepL.frz h ds _ [] (fun _ z => nomatch z) r⟩
  | .dk true ks ds, v, A, k, r => by
    obtain ⟨a, kvs, B, rfl, rfl, s, e, r⟩ := r
    exact ⟨rfl, a, kvs, rfl, k a List.mem_cons_self _ s, e, RepL.frz h ds _ B (fun b z => k b (List.mem_cons_of_mem _ z)) r⟩
  | .dt false ks ds, v, A, k, r => by
    obtain ⟨rfl, a, kvs, rfl, s, e, r⟩ := r
    exact ⟨rfl, a, kvs, rfl, h _ _ s, e, RepL.frz h ds _ [] (fun _ z => nomatch z) r⟩
  | .dt true ks ds, v, A, k, r => by
    obtain ⟨a, kvs, B, rfl, rfl, s, e, r⟩ := r
    exact ⟨rfl, a, kvs, rfl, k a List.mem_cons_self _ s, e, RepL.frz h ds _ B (fun b z => k b (List.mem_cons_of_mem _ z)) r⟩
  | .scr ns, v, A, k, r => by
    obtain ⟨rfl, a, rfl, s⟩ := r
    exact ⟨rfl, a, rfl, SqL.mono h s⟩
  | .obj false c ns ds, v, A, k, r => by
    obtain ⟨rfl, a, C, dx, fs, rfl, g, s, e, r⟩ := r
    exact ⟨rfl, a, C, dx, fs, rfl, g, h _ _ s, e, RepL.frz h ds _ [] (fun _ z => nomatch z) r⟩
  | .obj true c ns ds, v, A, k, r => by
    obtain ⟨a, C, dx, fs, B, rfl, rfl, g, s, e, r⟩ := r
    exact ⟨rfl, a, C, dx, fs, rfl, g, k a List.mem_cons_self _ s, e, RepL.frz h ds _ B (fun b z => k b (List.mem_cons_of_mem _ z)) r⟩
theorem RepL.frz {F F' H : Hp} (h : ∀ a o, F a = some o → F' a = some o) : ∀ (ds : List D) (vs : List V) (A : List Addr), (∀ a ∈ A, ∀ o, H a = some o → F' a = some o) → RepL K F H ds vs A → RepL K F' H (frzL ds) vs []
  | [], vs, A, k, r => ⟨r.1, rfl⟩
  | d :: ds, vs, A, k, r => by
    obtain ⟨v, ws, B, C, rfl, rfl, r1, r2⟩ := r
    exact ⟨v, ws, [], [], rfl, rfl, Rep.frz h d v B (fun a z => k a (List.mem_append_left _ z)) r1, RepL.frz h ds ws C (fun a z => k a (List.mem_append_right _ z)) r2⟩
end
section
variable {fr : Fr} {ρ ρ' : Env} {σ σ' : St} {H H' : Hp} {A A' : List Addr} {d : D} {v : V}
/-- the frame: what stands behind is out of sight and comes back -/
theorem Sim.frame {ρ1 ρ2 : Env} {σ1 σ2 : St} (e : σ1.length = ρ1.length) (S : Sim K fr (ρ1 ++ ρ2) (σ1 ++ σ2) H) : ∃ fr', Sim K fr' ρ1 σ1 H ∧ ∀ ρ1' σ1' H', Sim K fr' ρ1' σ1' H' → Sim K fr (ρ1' ++ ρ2) (σ1' ++ σ2) H' := by
  obtain ⟨A, S⟩ := S
  obtain ⟨A1, A2, rfl, q1, q2⟩ := Sl.cut e S.sl
  have nd := List.nodup_append.mp S.nd
  refine ⟨⟨hid A1 H, A2 ++ fr.N⟩, ⟨A1, ?_, nd.1, fun a z => ⟨fun w => ?_, ?_⟩, fun a o e => (hid_some.mp e).2, fun a z => ?_⟩, ?_⟩
  · refine q1.mono (fun a o e => ?_) fun a _ o e => e
    rw [hid_some] at e ⊢
    exact ⟨fun z => e.1 (by simpa [or_assoc] using z), e.2⟩
  · rcases List.mem_append.mp w with w | w
    · exact nd.2.2 a z a w rfl
    · exact (S.off a (List.mem_append_left _ z)).1 w
  · show hid A1 H a = none
    unfold hid
    rw [if_pos z]
  · rcases List.mem_append.mp z with z | z
    · obtain ⟨o, e⟩ := q2.tr a z
      exact ⟨o, hid_some.mpr ⟨fun w => nd.2.2 a w a z rfl, e⟩⟩
    · obtain ⟨o, e⟩ := S.tr a z
      exact ⟨o, hid_some.mpr ⟨fun w => (S.off a (List.mem_append_left _ w)).1 z, S.keep a o e⟩⟩
  · rintro ρ1' σ1' H' ⟨A1', T⟩
    have k : ∀ a o, a ∉ A1 → H a = some o → H' a = some o := fun a o n e => T.keep a o (hid_some.mpr ⟨n, e⟩)
    have d12 : ∀ a ∈ A1', a ∉ A2 := fun a z w => (T.off a z).1 (List.mem_append_left _ w)
    refine ⟨A1' ++ A2, Sl.app (T.sl.mono (fun a o e => ?_) fun a _ o e => e) (q2.mono (fun a o e => ?_) fun a z o e => k a o (fun w => nd.2.2 a w a z rfl) e), List.nodup_append.mpr ⟨T.nd, nd.2.1, fun a z b w q => d12 a z (q ▸ w)⟩, fun a z => ?_, fun a o e => ?_, S.tr⟩
    · rw [hid_some] at e ⊢
      exact ⟨fun z => e.1 (by simpa [or_assoc] using z), e.2⟩
    · rw [hid_some] at e ⊢
      have n1 : a ∉ A1 := fun z => e.1 (by simp [z])
      refine ⟨fun z => ?_, k a o n1 e.2⟩
      rcases List.mem_append.mp z with z | z
      · rcases List.mem_append.mp z with z | z
        · have g : hid A1 H a = none := (T.off a z).2
          rw [show hid A1 H a = some o from hid_some.mpr ⟨n1, e.2⟩] at g
          cases g
        · exact e.1 (by simp [z])
      · exact e.1 (by simp [z])
    · rcases List.mem_append.mp z with z | z
      · refine ⟨fun w => (T.off a z).1 (List.mem_append_right _ w), ?_⟩
        cases g : fr.G a with
        | none => rfl
        | some o =>
          have n1 : a ∉ A1 := fun w => by rw [(S.off a (List.mem_append_left _ w)).2] at g; cases g
          have q : hid A1 H a = none := (T.off a z).2
          rw [show hid A1 H a = some o from hid_some.mpr ⟨n1, S.keep a o g⟩] at q
          cases q
      · exact S.off a (List.mem_append_right _ z)
    · have n1 : a ∉ A1 := fun w => by rw [(S.off a (List.mem_append_left _ w)).2] at e; cases e
      exact k a o n1 (S.keep a o e)
/-- a temp stands ahead: the rest goes on without it -/
theorem Sim.hold {x : Option D} {s : Option V} (S : Sim K fr (x :: ρ) (s :: σ) H) : ∃ fr', Sim K fr' ρ σ H ∧ ∀ ρ' σ' H', Sim K fr' ρ' σ' H' → Sim K fr (x :: ρ') (s :: σ') H' := by
  have T := Sim.swap (ρ1 := [x]) (σ1 := [s]) rfl S
  obtain ⟨fr', a, b⟩ := Sim.frame S.drop.len T
  refine ⟨fr', a, fun ρ' σ' H' h => ?_⟩
  have z := b ρ' σ' H' h
  exact Sim.swap (ρ1 := ρ') (ρ2 := [x]) h.len z
theorem Sim.holdN {ρ1 : Env} {σ1 : St} (e : σ1.length = ρ1.length) (S : Sim K fr (ρ1 ++ ρ) (σ1 ++ σ) H) : ∃ fr', Sim K fr' ρ σ H ∧ ∀ ρ' σ' H', Sim K fr' ρ' σ' H' → Sim K fr (ρ1 ++ ρ') (σ1 ++ σ') H' := by
  have T := Sim.swap e S
  obtain ⟨fr', a, b⟩ := Sim.frame (S.dropN e).len T
  exact ⟨fr', a, fun ρ' σ' H' h => Sim.swap h.len (b ρ' σ' H' h)⟩
/-- the first one frozen -/
theorem Sim.frz (S : Sim K fr (some d :: ρ) (some v :: σ) H) : Sim K fr (some (frz d) :: ρ) (some v :: σ) H := by
  obtain ⟨A, S⟩ := S
  obtain ⟨s', τ, B, C, e, rfl, ⟨v', e1, r1⟩, r2⟩ := S.sl
  injection e with e2 e3
  subst e2 e3
  cases e1
  have nd := List.nodup_append.mp S.nd
  have sub : ∀ a ∈ C, a ∈ B ++ C ∨ H a = none := fun a z => .inl (List.mem_append_right _ z)
  have f := S.fro sub (H' := H) fun a o _ e => e
  refine ⟨C, S.next sub nd.2.1 (fun a o _ e => e) ⟨some v, σ, [], C, rfl, rfl, ⟨v, rfl, Rep.frz f d v B (fun a z o e => hid_some.mpr ⟨fun w => ?_, e⟩) r1⟩, r2.mono f fun a _ o e => e⟩⟩
  rcases List.mem_append.mp w with w | w
  · exact nd.2.2 a z a w rfl
  · exact (S.off a (List.mem_append_left _ z)).1 w
/-- flat data -/
def flat : D → Option V
  | .non => some .non
  | .bl b => some (.bl b)
  | .int i => some (.int i)
  | .str x => some (.str x)
  | .adr a => some (.ref a)
  | _ => none
theorem flat_rep {F H : Hp} (h : flat d = some v) : Rep K F H d v [] := by
  cases d <;> simp [flat] at h <;> subst h <;> exact ⟨rfl, rfl⟩
theorem rep_flat {F H : Hp} {w : V} {B : List Addr} (h : flat d = some v) (r : Rep K F H d w B) : w = v ∧ B = [] := by
  cases d <;> simp [flat] at h <;> subst h <;> exact r
theorem Sim.pushF (S : Sim K fr ρ σ H) (h : flat d = some v) : Sim K fr (some d :: ρ) (some v :: σ) H := by
  obtain ⟨A, S⟩ := S
  exact ⟨A, S.next (fun a z => .inl z) S.nd (fun a o _ e => e) ⟨some v, σ, [], A, rfl, rfl, ⟨v, rfl, flat_rep h⟩, S.sl⟩⟩
theorem Sim.topF (S : Sim K fr (some d :: ρ) (some v :: σ) H) {w : V} (h : flat d = some w) : v = w := by
  obtain ⟨A, S⟩ := S
  obtain ⟨s', τ, B, C, e, rfl, ⟨v', e1, r1⟩, r2⟩ := S.sl
  injection e with e2 e3
  subst e2
  cases e1
  exact (rep_flat h r1).1
/-- frozen data -/
def fro : D → Bool
  | .lst o _ => !o
  | .dk o _ _ => !o
  | .dt o _ _ => !o
  | .obj o _ _ _ => !o
  | _ => true
theorem fro_rep {F H : Hp} {B : List Addr} (h : fro d = true) (r : Rep K F H d v B) : B = [] := by
  cases d with
  | lst o ds => cases o with
    | false => exact r.1
    | true => cases h
  | dk o ks ds => cases o with
    | false => exact r.1
    | true => cases h
  | dt o ks ds => cases o with
    | false => exact r.1
    | true => cases h
  | obj o c ns ds => cases o with
    | false => exact r.1
    | true => cases h
  | tup ds => exact r.1
  | scr ns => exact r.1
  | _ => exact r.2
theorem fro_frz : ∀ d : D, fro (DL.frz d) = true
  | .lst _ _ => rfl
  | .dk _ _ _ => rfl
  | .dt _ _ _ => rfl
  | .tup _ => rfl
  | .scr _ => rfl
  | .obj _ _ _ _ => rfl
  | .non => rfl
  | .bl _ => rfl
  | .int _ => rfl
  | .str _ => rfl
  | .adr _ => rfl
theorem Sim.dup {i : Nat} (S : Sim K fr ρ σ H) (e : ρ[i]? = some (some d)) (h : fro d = true) : ∃ v, σ[i]? = some (some v) ∧ Sim K fr (some d :: ρ) (some v :: σ) H := by
  obtain ⟨A, S⟩ := S
  obtain ⟨s, A1, B, A2, e1, rfl, ⟨v, rfl, r⟩, _⟩ := S.sl.at e
  have := fro_rep h r
  subst this
  exact ⟨v, e1, _, S.next (fun a z => .inl z) S.nd (fun a o _ e => e) ⟨some v, σ, [], _, rfl, rfl, ⟨v, rfl, r⟩, S.sl⟩⟩
theorem set_self {α : Type} : ∀ {l : List α} {i : Nat} {x : α}, l[i]? = some x → l.set i x = l
  | [], _, _, h => by simp at h
  | a :: l, 0, x, h => by
    have : a = x := by simpa using h
    subst this; rfl
  | a :: l, i + 1, x, h => by
    show a :: l.set i x = a :: l
    rw [set_self (by simpa using h)]
theorem perm_nodup {A B C : List Addr} (h : (A ++ (B ++ C)).Nodup) : (B ++ (A ++ C)).Nodup := by
  refine List.Perm.nodup (l := A ++ (B ++ C)) ?_ h
  exact (List.perm_append_comm_assoc A B C)
/-- moved out of its slot -/
theorem Sim.move {i : Nat} (S : Sim K fr ρ σ H) (e : ρ[i]? = some (some d)) : ∃ v, σ[i]? = some (some v) ∧ Sim K fr (some d :: ρ.set i none) (some v :: σ) H := by
  obtain ⟨A, S⟩ := S
  obtain ⟨s, A1, B, A2, e1, rfl, ⟨v, rfl, r⟩, f⟩ := S.sl.at e
  have sub : ∀ a ∈ B ++ (A1 ++ A2), a ∈ A1 ++ (B ++ A2) ∨ H a = none := fun a z => .inl (by
    simp only [List.mem_append] at z ⊢
    rcases z with z | z | z
    · exact .inr (.inl z)
    · exact .inl z
    · exact .inr (.inr z))
  have g := S.fro sub (H' := H) fun a o _ e => e
  have q := f (x' := none) (s' := some v) (B' := []) g (fun a _ o e => e) rfl
  rw [set_self e1] at q
  exact ⟨v, e1, _, S.next sub (perm_nodup S.nd) (fun a o _ e => e) ⟨some v, σ, B, A1 ++ A2, rfl, rfl, ⟨v, rfl, Rep.mono g d v B (fun a _ o e => e) r⟩, q⟩⟩
/-- stored in a slot -/
theorem Sim.store {i : Nat} (S : Sim K fr (some d :: ρ) (some v :: σ) H) (hi : i < ρ.length) : Sim K fr (ρ.set i (some d)) (σ.set i (some v)) H := by
  obtain ⟨A, S⟩ := S
  obtain ⟨s', τ, B, C, e, rfl, ⟨v', e1, r1⟩, r2⟩ := S.sl
  injection e with e2 e3
  subst e2 e3
  cases e1
  obtain ⟨s, A1, B0, A2, e1, rfl, r, f⟩ := r2.at (List.getElem?_eq_getElem hi)
  have sub : ∀ a ∈ A1 ++ (B ++ A2), a ∈ B ++ (A1 ++ (B0 ++ A2)) ∨ H a = none := fun a z => .inl (by
    simp only [List.mem_append] at z ⊢
    rcases z with z | z | z
    · exact .inr (.inl z)
    · exact .inl z
    · exact .inr (.inr (.inr z)))
  have g := S.fro sub (H' := H) fun a o _ e => e
  refine ⟨_, S.next sub ?_ (fun a o _ e => e) (f (x' := some d) (s' := some v) (B' := B) g (fun a _ o e => e) ⟨v, rfl, Rep.mono g d v B (fun a _ o e => e) r1⟩)⟩
  refine perm_nodup ?_
  refine List.Nodup.sublist ?_ S.nd
  exact (List.append_sublist_append_left B).mpr ((List.append_sublist_append_left A1).mpr (List.sublist_append_right B0 A2))
theorem Sim.back {i : Nat} (S : Sim K fr (some d :: ρ) (some v :: σ) H) (h : σ[i]? = some (some v)) : Sim K fr (ρ.set i (some d)) σ H := by
  have hi : i < ρ.length := by
    have := S.drop.len
    rw [← this]
    exact (List.getElem?_eq_some_iff.mp h).1
  have z := S.store hi
  rw [set_self h] at z
  exact z
theorem Sim.clear {i : Nat} (S : Sim K fr ρ σ H) (s : Option V) : Sim K fr (ρ.set i none) (σ.set i s) H := by
  by_cases hi : i < ρ.length
  · obtain ⟨A, S⟩ := S
    obtain ⟨s0, A1, B0, A2, e1, rfl, r, f⟩ := S.sl.at (List.getElem?_eq_getElem hi)
    have sub : ∀ a ∈ A1 ++ ([] ++ A2), a ∈ A1 ++ (B0 ++ A2) ∨ H a = none := fun a z => .inl (by
      simp only [List.mem_append] at z ⊢
      rcases z with z | z | z
      · exact .inl z
      · cases z
      · exact .inr (.inr z))
    have g := S.fro sub (H' := H) fun a o _ e => e
    refine ⟨_, S.next sub ?_ (fun a o _ e => e) (f (x' := none) (s' := s) (B' := []) g (fun a _ o e => e) rfl)⟩
    refine List.Nodup.sublist ?_ S.nd
    exact (List.append_sublist_append_left A1).mpr (List.sublist_append_right B0 A2)
  · have h1 : ρ.set i none = ρ := List.set_eq_of_length_le (by omega)
    have h2 : σ.set i s = σ := List.set_eq_of_length_le (by rw [S.len]; omega)
    rw [h1, h2]
    exact S
end
end DL

set_option Elab.async false
set_option linter.all false
set_option maxRecDepth 100000
set_option maxHeartbeats 4000000
namespace DL
open PySem PySem.Spec L2
abbrev rc (X : Cx) : RC := ⟨X.K, X.mg⟩
/-! what an expression comes to -/
inductive Res (α : Type) where
  | ok (a : α) (ρ : Env)
  | exc (c : Str) (fs : List (Str × D)) (ρ : Env)
  | stuck
abbrev M (α : Type) := Env → Res α
def mbind {α β : Type} (m : M α) (f : α → M β) : M β := fun ρ => match m ρ with
  | .ok a ρ' => f a ρ'
  | .exc c fs ρ' => .exc c fs ρ'
  | .stuck => .stuck
def mret {α : Type} (a : α) : M α := fun ρ => .ok a ρ
def mlift {α : Type} : Option α → M α
  | some a => fun ρ => .ok a ρ
  | none => fun _ => .stuck
def toV (d : D) : V := (flat d).getD .non
/-- an exception as it lies -/
def ExcR (mg : Str → Option Value) (c : Str) (fs : List (Str × D)) (cls : Value) (dd : Option Addr) (H : Hp) : Prop :=
  ∃ C, mg c = some (.ref C) ∧ cls = .ref C ∧ ((fs = [] ∧ dd = none) ∨ (fs ≠ [] ∧ ∃ a, dd = some a ∧ H a = some (.xd (fs.map fun p => (p.1, toV p.2)))))
def QX (K : RC) (W : WX) (fr : Fr) (σ : L2.St) (c : Str) (fs : List (Str × D)) (ρ : Env) : Prop :=
  ∀ cls dd H, ExcR K.mg c fs cls dd H → Sim K fr ρ σ H → W cls dd σ H
def QR {α : Type} (K : RC) (W : WX) (fr : Fr) (σ : L2.St) (r : Res α) (post : α → Env → Prop) : Prop := match r with
  | .ok a ρ => post a ρ
  | .exc c fs ρ => QX K W fr σ c fs ρ
  | .stuck => False
section
variable {K : RC} {W : WX} {fr fr' : Fr} {σ : L2.St} {H : Hp}
theorem QR.bind {α β : Type} {m : M α} {f : α → M β} {ρ : Env} {post : β → Env → Prop} (h : QR K W fr σ (mbind m f ρ) post) : QR K W fr σ (m ρ) fun a ρ' => QR K W fr σ (f a ρ') post := by
  unfold mbind at h
  cases e : m ρ with
  | ok a ρ' => rw [e] at h; exact h
  | exc c fs ρ' => rw [e] at h; exact h
  | stuck => rw [e] at h; exact h
theorem QR.mono {α : Type} {r : Res α} {p q : α → Env → Prop} (h : QR K W fr σ r p) (k : ∀ a ρ, p a ρ → q a ρ) : QR K W fr σ r q := by
  cases r with
  | ok a ρ => exact k a ρ h
  | exc c fs ρ => exact h
  | stuck => exact h
/-- under a longer frame -/
theorem QR.frame {α : Type} {r : Res α} {p : α → Env → Prop} (h : QR K W fr σ r p) (k : ∀ ρ H, Sim K fr' ρ σ H → Sim K fr ρ σ H) : QR K W fr' σ r p := by
  cases r with
  | ok a ρ => exact h
  | exc c fs ρ => exact fun cls dd H e s => h cls dd H e (k ρ H s)
  | stuck => exact h
theorem QR.lift {α : Type} {o : Option α} {ρ : Env} {p : α → Env → Prop} (h : QR K W fr σ (mlift o ρ) p) : ∃ a, o = some a ∧ p a ρ := by
  cases o with
  | none => exact h.elim
  | some a => exact ⟨a, rfl, h⟩
end
/-- an expression's value -/
def QE (K : RC) (W : WX) (fr : Fr) (σ : L2.St) (r : Res D) (Q : VK) : Prop := QR K W fr σ r fun d ρ => ∀ v H, Sim K fr (some d :: ρ) (some v :: σ) H → Q v H
structure ED {ι : Type} (X : ι → Cx) (K : RC) (W : WX) (e : Expr) (f : M D) : Prop where
  ex : ∃ t, (∀ i, PE (X i) e t) ∧ ∀ fr ρ σ H Q, Sim K fr ρ σ H → QE K W fr σ (f ρ) Q → t σ H Q
def QT (K : RC) (W : WX) (fr : Fr) (σ : L2.St) (r : Res Bool) (Q : Bool → Hp → Prop) : Prop := QR K W fr σ r fun b ρ => ∀ H, Sim K fr ρ σ H → Q b H
structure TD {ι : Type} (X : ι → Cx) (K : RC) (W : WX) (e : Expr) (f : M Bool) : Prop where
  ex : ∃ t, (∀ i, PT (X i) e t) ∧ ∀ fr ρ σ H Q, Sim K fr ρ σ H → QT K W fr σ (f ρ) Q → t σ H Q
/-- and, or as tests -/
structure WD {ι : Type} (X : ι → Cx) (K : RC) (W : WX) (e : Expr) (f : M Bool) : Prop where
  ex : ∃ t, (∀ i, PW (X i) e t) ∧ ∀ fr ρ σ H Q, Sim K fr ρ σ H → QT K W fr σ (f ρ) Q → t σ H Q
def revL (ds : List D) : Env := ds.reverse.map some
/-- arguments: the values lie as temps, the last one ahead -/
def QA (K : RC) (W : WX) (fr : Fr) (σ : L2.St) (r : Res (List D)) (Q : List V → Hp → Prop) : Prop :=
  QR K W fr σ r fun ds ρ => ∀ vs H, vs.length = ds.length → Sim K fr (ds.map some ++ ρ) (vs.map some ++ σ) H → Q vs H
structure AD {ι : Type} (X : ι → Cx) (K : RC) (W : WX) (es : List Expr) (f : M (List D)) : Prop where
  ex : ∃ t, (∀ i, PA (X i) es t) ∧ ∀ fr ρ σ H Q, Sim K fr ρ σ H → QA K W fr σ (f ρ) Q → t σ H Q
section
variable {ι : Type} {X : ι → Cx} {K : RC} {W : WX} {e a b c : Expr} {es : List Expr} {f fa fb fc : M D} {pos : Pos}
/-! ### two in a row, under the first one's hold -/
theorem two {fr : Fr} {ρ1 : Env} {σ : L2.St} {H1 : Hp} {dx : D} {vx : V} {tb : TE} {R : V → Hp → Prop} {post : D → Env → Prop} (S : Sim K fr (some dx :: ρ1) (some vx :: σ) H1)
    (hb : ∀ fr ρ σ H Q, Sim K fr ρ σ H → QE K W fr σ (fb ρ) Q → tb σ H Q) (h : QR K W fr σ (fb ρ1) post)
    (k : ∀ dy ρ2 vy H2, post dy ρ2 → Sim K fr (some dy :: some dx :: ρ2) (some vy :: some vx :: σ) H2 → R vy H2) : tb σ H1 R := by
  obtain ⟨fr', S', back⟩ := S.hold
  refine hb fr' ρ1 σ H1 R S' ?_
  refine (h.frame fun ρ H s => (back ρ σ H s).drop).mono fun dy ρ2 hp vy H2 s => ?_
  refine k dy ρ2 vy H2 hp ?_
  have z := back (some dy :: ρ2) (some vy :: σ) H2 s
  have z1 : Sim K fr ([some dx] ++ ([some dy] ++ ρ2)) ([some vx] ++ ([some vy] ++ σ)) H2 := z
  -- swap the first two
  obtain ⟨A, T⟩ := z
  obtain ⟨s1, τ1, B1, C1, e1, rfl, r1, r2⟩ := T.sl
  injection e1 with e1 e2
  subst e1 e2
  obtain ⟨s2, τ2, B2, C2, e3, rfl, r3, r4⟩ := r2
  injection e3 with e3 e4
  subst e3 e4
  have sub : ∀ q ∈ B2 ++ (B1 ++ C2), q ∈ B1 ++ (B2 ++ C2) ∨ H2 q = none := fun q z => .inl (by
    simp only [List.mem_append] at z ⊢
    rcases z with z | z | z
    · exact .inr (.inl z)
    · exact .inl z
    · exact .inr (.inr z))
  have g := T.fro sub (H' := H2) fun a o _ e => e
  exact ⟨_, T.next sub (perm_nodup T.nd) (fun a o _ e => e) ⟨some vy, some vx :: σ, B2, B1 ++ C2, rfl, rfl, r3.mono g fun a _ o e => e, some vx, σ, B1, C2, rfl, rfl, r1.mono g fun a _ o e => e, r4.mono g fun a _ o e => e⟩⟩
/-! ### names, constants -/
def eVar (i : Nat) : M D := fun ρ => match ρ[i]? with
  | some (some d) => if fro d = true then .ok d ρ else .stuck
  | _ => .stuck
theorem ed_var (i : Nat) {x : Str} {pos : Pos} (h : ∀ j, PE (X j) (.Name x pos) (tVar i)) : ED X K W (.Name x pos) (eVar i) := ⟨tVar i, h, fun fr ρ σ H Q S q => by
  unfold eVar at q
  cases e : ρ[i]? with
  | none => rw [e] at q; exact q.elim
  | some o => cases o with
    | none => rw [e] at q; exact q.elim
    | some d =>
      rw [e] at q
      by_cases hf : fro d = true
      · simp only [hf, if_true] at q
        obtain ⟨v, e1, S1⟩ := S.dup e hf
        exact ⟨v, e1, q v H S1⟩
      · simp only [hf] at q
        exact q.elim⟩
/-- the variable is handed over (and gone) -/
def eMove (i : Nat) : M D := fun ρ => match ρ[i]? with
  | some (some d) => .ok d (ρ.set i none)
  | _ => .stuck
theorem ed_move (i : Nat) {x : Str} {pos : Pos} (h : ∀ j, PE (X j) (.Name x pos) (tVar i)) : ED X K W (.Name x pos) (eMove i) := ⟨tVar i, h, fun fr ρ σ H Q S q => by
  unfold eMove at q
  cases e : ρ[i]? with
  | none => rw [e] at q; exact q.elim
  | some o => cases o with
    | none => rw [e] at q; exact q.elim
    | some d =>
      rw [e] at q
      obtain ⟨v, e1, S1⟩ := S.move e
      exact ⟨v, e1, q v H S1⟩⟩
def eC (d : D) : M D := fun ρ => .ok d ρ
theorem ed_const {d : D} {v : V} (hf : flat d = some v) (h : ∀ i, PE (X i) e (tC v)) : ED X K W e (eC d) := ⟨tC v, h, fun fr ρ σ H Q S q => q v H (S.pushF hf)⟩
theorem ed_int {i j pos} : ED X K W (.Constant (.int i) j pos) (eC (.int i)) := ed_const rfl fun _ => pe_int
theorem ed_bl {i j pos} : ED X K W (.Constant (.bool i) j pos) (eC (.bl i)) := ed_const rfl fun _ => pe_bl
theorem ed_str {i j pos} : ED X K W (.Constant (.str i) j pos) (eC (.str i)) := ed_const rfl fun _ => pe_str
theorem ed_non {j pos} : ED X K W (.Constant .none j pos) (eC .non) := ed_const rfl fun _ => pe_non
/-- what was made is frozen -/
def eFrz (f : M D) : M D := mbind f fun d => mret (frz d)
theorem ed_frz (h : ED X K W e f) : ED X K W e (eFrz f) := by
  obtain ⟨t, p, s⟩ := h.ex
  exact ⟨t, p, fun fr ρ σ H Q S q => s fr ρ σ H Q S (QR.mono (QR.bind q) fun d ρ' q' v H' S' => q' v H' S'.frz)⟩
/-! ### operators -/
def e1 (F : D → Option D) (fa : M D) : M D := mbind fa fun x => mlift (F x)
def e2 (F : D → D → Option D) (fa fb : M D) : M D := mbind fa fun x => mbind fb fun y => mlift (F x y)
/-- r computes F -/
def OpS (K : RC) (r : R2) (F : D → D → Option D) : Prop := ∀ fr ρ σ H dx dy vx vy d Q, Sim K fr (some dy :: some dx :: ρ) (some vy :: some vx :: σ) H → F dx dy = some d →
  (∀ v H', Sim K fr (some d :: ρ) (some v :: σ) H' → Q v H') → r vx vy H Q
def UnS (K : RC) (r : V → Hp → VK → Prop) (F : D → Option D) : Prop := ∀ fr ρ σ H dx vx d Q, Sim K fr (some dx :: ρ) (some vx :: σ) H → F dx = some d →
  (∀ v H', Sim K fr (some d :: ρ) (some v :: σ) H' → Q v H') → r vx H Q
theorem sim_tOp {r : R2} {F : D → D → Option D} (ho : OpS K r F) {ta tb : TE} (ha : ∀ fr ρ σ H Q, Sim K fr ρ σ H → QE K W fr σ (fa ρ) Q → ta σ H Q) (hb : ∀ fr ρ σ H Q, Sim K fr ρ σ H → QE K W fr σ (fb ρ) Q → tb σ H Q)
    {fr : Fr} {ρ : Env} {σ : L2.St} {H : Hp} {Q : VK} (S : Sim K fr ρ σ H) (q : QE K W fr σ (e2 F fa fb ρ) Q) : tOp r ta tb σ H Q := by
  refine ha fr ρ σ H _ S ((QR.bind q).mono fun dx ρ1 q1 vx H1 S1 => ?_)
  refine two S1 hb (QR.bind q1) fun dy ρ2 vy H2 q2 S2 => ?_
  obtain ⟨d, e, q3⟩ := QR.lift q2
  exact ho fr ρ2 σ H2 dx dy vx vy d Q S2 e q3
theorem ed_op {op : Operator} {r : R2} {F : D → D → Option D} (h : ∀ i, OpR (X i) (binaryOp op) r) (ho : OpS K r F) (ha : ED X K W a fa) (hb : ED X K W b fb) : ED X K W (.BinOp a op b pos) (e2 F fa fb) := by
  obtain ⟨ta, pa, sa⟩ := ha.ex
  obtain ⟨tb, pb, sb⟩ := hb.ex
  exact ⟨tOp r ta tb, (fun i => pe_op (h i) (pa i) (pb i)), fun fr ρ σ H Q S q => sim_tOp ho sa sb S q⟩
theorem ed_cmp {op : CmpOp} {r : R2} {F : D → D → Option D} (h : ∀ i, OpR (X i) (compareOp op) r) (ho : OpS K r F) (ha : ED X K W a fa) (hb : ED X K W b fb) (hm : behindInMarks op b = false) : ED X K W (.Compare a [op] [b] pos) (e2 F fa fb) := by
  obtain ⟨ta, pa, sa⟩ := ha.ex
  obtain ⟨tb, pb, sb⟩ := hb.ex
  exact ⟨tOp r ta tb, (fun i => pe_cmpR (h i) (pa i) (pb i) hm), fun fr ρ σ H Q S q => sim_tOp ho sa sb S q⟩
def isB : D → Option Bool
  | .bl b => some b
  | _ => none
def eB (f : M D) : M Bool := mbind f fun d => mlift (isB d)
theorem sim_tTest {t : TE} (s : ∀ fr ρ σ H Q, Sim K fr ρ σ H → QE K W fr σ (f ρ) Q → t σ H Q) {fr : Fr} {ρ : Env} {σ : L2.St} {H : Hp} {Q : Bool → Hp → Prop} (S : Sim K fr ρ σ H) (q : QT K W fr σ (eB f ρ) Q) : tTest t σ H Q := by
  refine s fr ρ σ H _ S ((QR.bind q).mono fun d ρ1 q1 v H1 S1 => ?_)
  obtain ⟨b, e, q2⟩ := QR.lift q1
  cases d <;> simp [isB] at e
  subst e
  have := S1.topF rfl
  subst this
  exact ⟨_, rfl, q2 H1 S1.drop⟩
theorem td_cmp {op : CmpOp} {r : R2} {F : D → D → Option D} (h : ∀ i, OpR (X i) (compareOp op) r) (ho : OpS K r F) (ha : ED X K W a fa) (hb : ED X K W b fb) (hm : behindInMarks op b = false) : TD X K W (.Compare a [op] [b] pos) (eB (e2 F fa fb)) := by
  obtain ⟨ta, pa, sa⟩ := ha.ex
  obtain ⟨tb, pb, sb⟩ := hb.ex
  exact ⟨tTest (tOp r ta tb), (fun i => pt_cmpR (h i) (pa i) (pb i) hm), fun fr ρ σ H Q S q => sim_tTest (fun fr ρ σ H Q S q => sim_tOp ho sa sb S q) S q⟩
/-- a test of an expression that gives a bool -/
theorem td_val (h : ED X K W e f) (he : ∀ i whole, isTrue e (X i).env whole = (do let v ← whole; standAt e.pos; holding [v] (truthy v)) := by intro _ _; rfl) : TD X K W e (eB f) := by
  obtain ⟨t, p, s⟩ := h.ex
  exact ⟨tB t, (fun i => pt_val (p i) (he i)), fun fr ρ σ H Q S q => sim_tTest s S q⟩
theorem td_of (h : WD X K W e f') : TD X K W e f' := by
  obtain ⟨t, p, s⟩ := h.ex
  exact ⟨t, (fun i => (p i).pt), s⟩
def mAnd (f g : M Bool) : M Bool := mbind f fun b => if b = true then g else mret false
def mOr (f g : M Bool) : M Bool := mbind f fun b => if b = true then mret true else g
def mNot (f : M Bool) : M Bool := mbind f fun b => mret (!b)
variable {ga gb : M Bool} {rest : List Expr}
theorem wd_and1 (h : TD X K W a ga) : WD X K W (.BoolOp .And [a] pos) ga := by
  obtain ⟨t, p, s⟩ := h.ex
  exact ⟨t, (fun i => pw_and1 (p i)), s⟩
theorem wd_or1 (h : TD X K W a ga) : WD X K W (.BoolOp .Or [a] pos) ga := by
  obtain ⟨t, p, s⟩ := h.ex
  exact ⟨t, (fun i => pw_or1 (p i)), s⟩
theorem wd_and (h : TD X K W a ga) (h2 : WD X K W (.BoolOp .And (b :: rest) pos) gb) : WD X K W (.BoolOp .And (a :: b :: rest) pos) (mAnd ga gb) := by
  obtain ⟨t, p, s⟩ := h.ex
  obtain ⟨u, p2, s2⟩ := h2.ex
  refine ⟨tAnd t u, (fun i => pw_and (p i) (p2 i)), fun fr ρ σ H Q S q => ?_⟩
  refine s fr ρ σ H _ S ((QR.bind q).mono fun k ρ1 q1 H1 S1 => ?_)
  cases k with
  | true => rw [if_pos rfl] at q1 ⊢; exact s2 fr ρ1 σ H1 Q S1 q1
  | false => rw [if_neg Bool.false_ne_true] at q1 ⊢; exact q1 H1 S1
theorem wd_or (h : TD X K W a ga) (h2 : WD X K W (.BoolOp .Or (b :: rest) pos) gb) : WD X K W (.BoolOp .Or (a :: b :: rest) pos) (mOr ga gb) := by
  obtain ⟨t, p, s⟩ := h.ex
  obtain ⟨u, p2, s2⟩ := h2.ex
  refine ⟨tOr t u, (fun i => pw_or (p i) (p2 i)), fun fr ρ σ H Q S q => ?_⟩
  refine s fr ρ σ H _ S ((QR.bind q).mono fun k ρ1 q1 H1 S1 => ?_)
  cases k with
  | true => rw [if_pos rfl] at q1 ⊢; exact q1 H1 S1
  | false => rw [if_neg Bool.false_ne_true] at q1 ⊢; exact s2 fr ρ1 σ H1 Q S1 q1
theorem td_not (h : TD X K W a ga) : TD X K W (.UnaryOp .Not a pos) (mNot ga) := by
  obtain ⟨t, p, s⟩ := h.ex
  exact ⟨tNot t, (fun i => pt_not (p i)), fun fr ρ σ H Q S q => s fr ρ σ H _ S ((QR.bind q).mono fun k ρ1 q1 H1 S1 => q1 H1 S1)⟩
/-! as values -/
def eAnd (f g : M D) : M D := mbind f fun x => mbind (mlift (isB x)) fun b => if b = true then g else mret (.bl false)
def eOr (f g : M D) : M D := mbind f fun x => mbind (mlift (isB x)) fun b => if b = true then mret (.bl true) else g
def eNot (f : M D) : M D := mbind f fun x => mbind (mlift (isB x)) fun b => mret (.bl !b)
def eIf (c : M Bool) (f g : M D) : M D := mbind c fun b => if b = true then f else g
theorem ed_one {op} (h : ED X K W a fa) : ED X K W (.BoolOp op [a] pos) fa := by
  obtain ⟨t, p, s⟩ := h.ex
  exact ⟨t, (fun i => pe_one (p i)), s⟩
theorem isB_eq {d : D} {b : Bool} (h : isB d = some b) : d = .bl b := by
  cases d <;> simp [isB] at h
  rw [h]
theorem ed_and (h : ED X K W a fa) (h2 : ED X K W (.BoolOp .And (b :: rest) pos) fb) : ED X K W (.BoolOp .And (a :: b :: rest) pos) (eAnd fa fb) := by
  obtain ⟨t, p, s⟩ := h.ex
  obtain ⟨u, p2, s2⟩ := h2.ex
  refine ⟨tAndV t u, (fun i => pe_and (p i) (p2 i)), fun fr ρ σ H Q S q => ?_⟩
  refine s fr ρ σ H _ S ((QR.bind q).mono fun d ρ1 q1 v H1 S1 => ?_)
  obtain ⟨k, e, q2⟩ := QR.lift (QR.bind q1)
  have := isB_eq e
  subst this
  have := S1.topF rfl
  subst this
  refine ⟨k, rfl, ?_⟩
  cases k with
  | true => rw [if_pos rfl] at q2 ⊢; exact s2 fr ρ1 σ H1 Q S1.drop q2
  | false => rw [if_neg Bool.false_ne_true] at q2 ⊢; exact q2 _ H1 (S1.drop.pushF rfl)
theorem ed_or (h : ED X K W a fa) (h2 : ED X K W (.BoolOp .Or (b :: rest) pos) fb) : ED X K W (.BoolOp .Or (a :: b :: rest) pos) (eOr fa fb) := by
  obtain ⟨t, p, s⟩ := h.ex
  obtain ⟨u, p2, s2⟩ := h2.ex
  refine ⟨tOrV t u, (fun i => pe_or (p i) (p2 i)), fun fr ρ σ H Q S q => ?_⟩
  refine s fr ρ σ H _ S ((QR.bind q).mono fun d ρ1 q1 v H1 S1 => ?_)
  obtain ⟨k, e, q2⟩ := QR.lift (QR.bind q1)
  have := isB_eq e
  subst this
  have := S1.topF rfl
  subst this
  refine ⟨k, rfl, ?_⟩
  cases k with
  | true => rw [if_pos rfl] at q2 ⊢; exact q2 _ H1 (S1.drop.pushF rfl)
  | false => rw [if_neg Bool.false_ne_true] at q2 ⊢; exact s2 fr ρ1 σ H1 Q S1.drop q2
theorem ed_not (h : ED X K W a fa) : ED X K W (.UnaryOp .Not a pos) (eNot fa) := by
  obtain ⟨t, p, s⟩ := h.ex
  refine ⟨tNotV t, (fun i => pe_not (p i)), fun fr ρ σ H Q S q => ?_⟩
  refine s fr ρ σ H _ S ((QR.bind q).mono fun d ρ1 q1 v H1 S1 => ?_)
  obtain ⟨k, e, q2⟩ := QR.lift (QR.bind q1)
  have := isB_eq e
  subst this
  have := S1.topF rfl
  subst this
  exact ⟨k, rfl, q2 _ H1 (S1.drop.pushF rfl)⟩
theorem ed_if (hc : TD X K W c gc) (h : ED X K W a fa) (h2 : ED X K W b fb) : ED X K W (.IfExp c a b pos) (eIf gc fa fb) := by
  obtain ⟨tc, pc, sc⟩ := hc.ex
  obtain ⟨t, p, s⟩ := h.ex
  obtain ⟨u, p2, s2⟩ := h2.ex
  refine ⟨tIf tc t u, (fun i => pe_ifExp (pc i) (p i) (p2 i)), fun fr ρ σ H Q S q => ?_⟩
  refine sc fr ρ σ H _ S ((QR.bind q).mono fun k ρ1 q1 H1 S1 => ?_)
  cases k with
  | true => rw [if_pos rfl] at q1 ⊢; exact s fr ρ1 σ H1 Q S1 q1
  | false => rw [if_neg Bool.false_ne_true] at q1 ⊢; exact s2 fr ρ1 σ H1 Q S1 q1
/-! ### arguments -/
def aNil : M (List D) := mret []
def aCons (f : M D) (g : M (List D)) : M (List D) := mbind f fun d => mbind g fun ds => mret (d :: ds)
theorem ad_nil : AD X K W [] aNil := ⟨tNil, (fun _ => pa_nil), fun fr ρ σ H Q S q => q [] H rfl S⟩
theorem ad_cons {g : M (List D)} (h : ED X K W e f) (hr : AD X K W es g) (hs : ∀ i, starEach (e :: es) (X i).env = (false, eval e (X i).env) :: starEach es (X i).env := by intro _; rfl) : AD X K W (e :: es) (aCons f g) := by
  obtain ⟨t, p, s⟩ := h.ex
  obtain ⟨u, p2, s2⟩ := hr.ex
  refine ⟨tCons t u, (fun i => pa_cons (p i) (p2 i) (hs i)), fun fr ρ σ H Q S q => ?_⟩
  refine s fr ρ σ H _ S ((QR.bind q).mono fun d ρ1 q1 v H1 S1 => ?_)
  obtain ⟨fr', S', back⟩ := S1.hold
  refine s2 fr' ρ1 σ H1 _ S' (((QR.bind q1).frame fun ρ H s => (back ρ σ H s).drop).mono fun ds ρ2 q2 vs H2 hl S2 => ?_)
  exact q2 (v :: vs) H2 (by simp [hl]) (back _ _ H2 S2)
end
end DL

set_option Elab.async false
set_option linter.all false
set_option maxRecDepth 100000
set_option maxHeartbeats 4000000
namespace DL
open PySem PySem.Spec L2
variable {K : RC}
/-! ### sequences taken apart and made -/
theorem RepL.len {F H : Hp} : ∀ {ds : List D} {vs : List V} {A : List Addr}, RepL K F H ds vs A → vs.length = ds.length
  | [], vs, A, r => by rw [r.1]; rfl
  | d :: ds, vs, A, r => by
    obtain ⟨v, ws, B, C, rfl, rfl, r1, r2⟩ := r
    rw [List.length_cons, List.length_cons, r2.len]
theorem RepL.sl {F H : Hp} : ∀ {ds : List D} {vs : List V} {A : List Addr}, RepL K F H ds vs A → Sl K F H (ds.map some) (vs.map some) A
  | [], vs, A, r => by
    obtain ⟨rfl, rfl⟩ := r
    exact ⟨rfl, rfl⟩
  | d :: ds, vs, A, r => by
    obtain ⟨v, ws, B, C, rfl, rfl, r1, r2⟩ := r
    exact ⟨some v, ws.map some, B, C, rfl, rfl, ⟨v, rfl, r1⟩, r2.sl⟩
theorem Sl.repL {F H : Hp} : ∀ {ds : List D} {vs : List V} {A : List Addr}, Sl K F H (ds.map some) (vs.map some) A → RepL K F H ds vs A
  | [], vs, A, r => by
    obtain ⟨e, rfl⟩ := r
    cases vs with
    | nil => exact ⟨rfl, rfl⟩
    | cons v vs => cases e
  | d :: ds, vs, A, r => by
    obtain ⟨s, τ, B, C, e, rfl, ⟨v, rfl, r1⟩, r2⟩ := r
    cases vs with
    | nil => cases e
    | cons w vs =>
      have e : some w :: vs.map some = some v :: τ := e
      injection e with e1 e2
      injection e1 with e1
      subst e1 e2
      exact ⟨_, vs, B, C, rfl, rfl, r1, Sl.repL r2⟩
theorem RepL.app {F H : Hp} : ∀ {ds es : List D} {vs ws : List V} {A B : List Addr}, RepL K F H ds vs A → RepL K F H es ws B → RepL K F H (ds ++ es) (vs ++ ws) (A ++ B)
  | [], es, vs, ws, A, B, r, q => by
    obtain ⟨rfl, rfl⟩ := r
    exact q
  | d :: ds, es, vs, ws, A, B, r, q => by
    obtain ⟨v, us, B', C, rfl, rfl, r1, r2⟩ := r
    exact ⟨v, us ++ ws, B', C ++ B, rfl, by rw [List.append_assoc], r1, r2.app q⟩
section
variable {fr : Fr} {ρ : Env} {σ : L2.St} {H : Hp} {d : D} {v : V} {ds : List D} {vs : List V}
/-- the top data's own description -/
theorem Sim.top (S : Sim K fr (some d :: ρ) (some v :: σ) H) : ∃ F B, Rep K F H d v B ∧ (∀ a o, F a = some o → H a = some o) := by
  obtain ⟨A, S⟩ := S
  obtain ⟨s', τ, B, C, e, rfl, ⟨v', e1, r1⟩, r2⟩ := S.sl
  injection e with e2 e3
  subst e2
  cases e1
  exact ⟨_, B, r1, fun a o e => (hid_some.mp e).2⟩
/-- a list or tuple ahead, its items in its place -/
def items : D → Option (List D)
  | .tup ds => some ds
  | .lst _ ds => some ds
  | .scr ns => some (ns.map D.int)
  | _ => none
def isL : D → Bool
  | .lst _ _ => true
  | .scr _ => true
  | _ => false
theorem rep_ints {F H : Hp} : ∀ ns : List Int, RepL K F H (ns.map D.int) (ns.map V.int) []
  | [] => ⟨rfl, rfl⟩
  | n :: ns => ⟨.int n, ns.map V.int, [], [], rfl, rfl, ⟨rfl, rfl⟩, rep_ints ns⟩
theorem Sim.explode (S : Sim K fr (some d :: ρ) (some v :: σ) H) (e : items d = some ds) : ∃ p xs, v = .ref p ∧ xs.length = ds.length ∧ (if isL d = true then SqL K.K H p xs else SqT K.K H p xs) ∧
    ((∀ o es, d = .lst o es → H p = some (.lst xs)) ∧ Sim K fr (ds.map some ++ ρ) (xs.map some ++ σ) H) := by
  obtain ⟨A, S⟩ := S
  obtain ⟨s', τ, B, C, e0, rfl, ⟨v', e1, r1⟩, r2⟩ := S.sl
  injection e0 with e2 e3
  subst e2 e3
  cases e1
  have go : ∀ xs B', (∀ a ∈ B', a ∈ B) → B'.Nodup → RepL K (hid (B ++ C ++ fr.N) H) H ds xs B' → Sim K fr (ds.map some ++ ρ) (xs.map some ++ σ) H := fun xs B' hs hn r => by
    have nd := List.nodup_append.mp S.nd
    have sub : ∀ a ∈ B' ++ C, a ∈ B ++ C ∨ H a = none := fun a z => .inl (by
      rcases List.mem_append.mp z with z | z
      · exact List.mem_append_left _ (hs a z)
      · exact List.mem_append_right _ z)
    have f := S.fro sub (H' := H) fun a o _ e => e
    refine ⟨B' ++ C, S.next sub (List.nodup_append.mpr ⟨hn, nd.2.1, fun a ha b hb => nd.2.2 a (hs a ha) b hb⟩) (fun a o _ e => e) (Sl.app (r.sl.mono f fun a _ o e => e) (r2.mono f fun a _ o e => e))⟩
  have hH : ∀ a o, hid (B ++ C ++ fr.N) H a = some o → H a = some o := fun a o e => (hid_some.mp e).2
  cases d with
  | tup es =>
    cases e
    obtain ⟨rfl, a, xs, rfl, s, r⟩ := r1
    exact ⟨a, xs, rfl, r.len, SqT.mono hH (SqT.of s), (fun _ _ z => nomatch z), go xs [] (fun _ z => nomatch z) .nil r⟩
  | lst o es =>
    cases e
    cases o with
    | false =>
      obtain ⟨rfl, a, xs, rfl, s, r⟩ := r1
      exact ⟨a, xs, rfl, r.len, SqL.of (hH _ _ s), (fun _ _ _ => hH _ _ s), go xs [] (fun _ z => nomatch z) .nil r⟩
    | true =>
      obtain ⟨a, xs, B1, rfl, rfl, s, r⟩ := r1
      exact ⟨a, xs, rfl, r.len, SqL.of s, (fun _ _ _ => s), go xs B1 (fun b z => List.mem_cons_of_mem _ z) (List.nodup_append.mp S.nd).1.of_cons r⟩
  | scr ns =>
    cases e
    obtain ⟨rfl, a, rfl, s⟩ := r1
    exact ⟨a, _, rfl, by simp, SqL.mono hH s, (fun _ _ z => nomatch z), go _ [] (fun _ z => nomatch z) .nil (rep_ints ns)⟩
  | _ => cases e
theorem isTrueOf : True := trivial
theorem nodup_cons_fresh {A : List Addr} {p : Addr} {H : Hp} (nd : A.Nodup) (hp : H p = none) (tr : ∀ a ∈ A, ∃ o, H a = some o) : (p :: A).Nodup :=
  List.nodup_cons.mpr ⟨(fun z => by obtain ⟨o, e⟩ := tr p z; rw [hp] at e; cases e), nd⟩
/-- a new object of the items that lie ahead: a list of one's own -/
theorem Sim.newL {p : Addr} (S : Sim K fr (ds.map some ++ ρ) (vs.map some ++ σ) H) (hl : vs.length = ds.length) (hp : H p = none) : Sim K fr (some (.lst true ds) :: ρ) (some (.ref p) :: σ) (upd H p (.lst vs)) := by
  obtain ⟨A, S⟩ := S
  obtain ⟨A1, A2, rfl, q1, q2⟩ := Sl.cut (by simpa using hl) S.sl
  have tr := S.sl.tr
  have sub : ∀ a ∈ p :: (A1 ++ A2), a ∈ A1 ++ A2 ∨ H a = none := fun a z => by
    rcases List.mem_cons.mp z with z | z
    · subst z; exact .inr hp
    · exact .inl z
  have kp : ∀ a o, H a = some o → upd H p (.lst vs) a = some o := fun a o e => by rw [upd_ne (ne_of_none e hp)]; exact e
  have f := S.fro sub (H' := upd H p (.lst vs)) fun a o _ e => kp a o e
  exact ⟨p :: (A1 ++ A2), S.next sub (nodup_cons_fresh S.nd hp tr) (fun a o _ e => kp a o e) ⟨some (.ref p), σ, p :: A1, A2, rfl, rfl, ⟨.ref p, rfl, p, vs, A1, rfl, rfl, upd_same, (q1.repL).mono f _ _ _ fun a _ o e => kp a o e⟩, q2.mono f fun a _ o e => kp a o e⟩⟩
/-- a tuple: its items are frozen -/
theorem Sim.newT {p : Addr} (S : Sim K fr (ds.map some ++ ρ) (vs.map some ++ σ) H) (hl : vs.length = ds.length) (hp : H p = none) : Sim K fr (some (.tup (frzL ds)) :: ρ) (some (.ref p) :: σ) (upd H p (.tup vs)) := by
  obtain ⟨A, S⟩ := S
  obtain ⟨A1, A2, rfl, q1, q2⟩ := Sl.cut (by simpa using hl) S.sl
  have nd := List.nodup_append.mp S.nd
  have sub : ∀ a ∈ A2, a ∈ A1 ++ A2 ∨ H a = none := fun a z => .inl (List.mem_append_right _ z)
  have kp : ∀ a o, H a = some o → upd H p (.tup vs) a = some o := fun a o e => by rw [upd_ne (ne_of_none e hp)]; exact e
  have f := S.fro sub (H' := upd H p (.tup vs)) fun a o _ e => kp a o e
  have nin : ∀ a, a ∉ A2 → a ∉ fr.N → a ∉ A2 ++ fr.N := fun a h1 h2 z => (List.mem_append.mp z).elim h1 h2
  have r : RepL K (hid (A2 ++ fr.N) (upd H p (.tup vs))) H (frzL ds) vs [] := RepL.frz f ds vs A1 (fun a z o e => hid_some.mpr ⟨nin a (fun w => nd.2.2 a z a w rfl) (S.off a (List.mem_append_left _ z)).1, kp a o e⟩) q1.repL
  have pN : p ∉ A2 ++ fr.N := nin p (fun z => by obtain ⟨o, e⟩ := q2.tr p z; rw [hp] at e; cases e) fun z => by obtain ⟨o, e⟩ := S.tr p z; rw [S.keep p o e] at hp; cases hp
  exact ⟨A2, S.next sub nd.2.1 (fun a o _ e => kp a o e) ⟨some (.ref p), σ, [], A2, rfl, rfl, ⟨.ref p, rfl, rfl, p, vs, rfl, hid_some.mpr ⟨pN, upd_same⟩, RepL.mono (fun _ _ e => e) _ _ _ (fun _ z => nomatch z) r⟩, q2.mono f fun a _ o e => kp a o e⟩⟩
/-- the visible part of a frame -/
def VF (fr : Fr) : Hp := hid fr.N fr.G
theorem SimA.vf {A : List Addr} (S : SimA K fr ρ σ H A) : ∀ a o, VF fr a = some o → hid (A ++ fr.N) H a = some o := fun a o e => by
  obtain ⟨n, e⟩ := hid_some.mp e
  refine hid_some.mpr ⟨fun z => ?_, S.keep a o e⟩
  rcases List.mem_append.mp z with z | z
  · rw [(S.off a z).2] at e; cases e
  · exact n z
theorem Sim.vfH (S : Sim K fr ρ σ H) : ∀ a o, VF fr a = some o → H a = some o := fun a o e => let ⟨_, S⟩ := S; S.keep a o (hid_some.mp e).2
/-- what stands in the visible part is at hand -/
theorem Sim.pushG {H0 : Hp} (S : Sim K fr ρ σ H) (r : Rep K (VF fr) H0 d v []) : Sim K fr (some d :: ρ) (some v :: σ) H := by
  obtain ⟨A, S⟩ := S
  exact ⟨A, S.next (fun a z => .inl z) S.nd (fun a o _ e => e) ⟨some v, σ, [], A, rfl, rfl, ⟨v, rfl, Rep.mono S.vf d v [] (fun _ z => nomatch z) r⟩, S.sl⟩⟩
/-- a frozen thing held aside stands in the visible part -/
theorem Sim.holdF (S : Sim K fr (some d :: ρ) (some v :: σ) H) (hf : fro d = true) : ∃ fr', Sim K fr' ρ σ H ∧ Rep K (VF fr') H d v [] ∧ ∀ ρ' σ' H', Sim K fr' ρ' σ' H' → Sim K fr ρ' σ' H' := by
  obtain ⟨A, S⟩ := S
  obtain ⟨s', τ, B, C, e0, rfl, ⟨v', e1, r1⟩, r2⟩ := S.sl
  injection e0 with e2 e3
  subst e2 e3
  cases e1
  have := fro_rep hf r1
  subst this
  have T : SimA K fr ρ σ H C := ⟨r2, S.nd, S.off, S.keep, S.tr⟩
  refine ⟨⟨hid C H, fr.N⟩, ⟨C, r2, S.nd, fun a z => ⟨(S.off a z).1, by show hid C H a = none; unfold hid; rw [if_pos z]⟩, fun a o e => (hid_some.mp e).2, fun a z => ?_⟩, ?_, ?_⟩
  · obtain ⟨o, e⟩ := S.tr a z
    exact ⟨o, hid_some.mpr ⟨fun w => (S.off a w).1 z, S.keep a o e⟩⟩
  · refine Rep.mono (fun a o e => ?_) d _ [] (fun _ z => nomatch z) r1
    obtain ⟨n, e⟩ := hid_some.mp e
    exact hid_some.mpr ⟨fun z => n (List.mem_append_right _ z), hid_some.mpr ⟨fun z => n (List.mem_append_left _ z), e⟩⟩
  · rintro ρ' σ' H' ⟨A', U⟩
    refine ⟨A', U.sl, U.nd, fun a z => ⟨(U.off a z).1, ?_⟩, fun a o e => ?_, S.tr⟩
    · cases g : fr.G a with
      | none => rfl
      | some o =>
        have q : hid C H a = none := (U.off a z).2
        have nC : a ∉ C := fun w => by rw [(S.off a w).2] at g; cases g
        rw [show hid C H a = some o from hid_some.mpr ⟨nC, S.keep a o g⟩] at q
        cases q
    · have nC : a ∉ C := fun w => by rw [(S.off a w).2] at e; cases e
      exact U.keep a o (hid_some.mpr ⟨nC, S.keep a o e⟩)
end
/-! ### statements -/
inductive RS where
  | nx (ρ : Env)
  | ret (d : D) (ρ : Env)
  | brk (ρ : Env)
  | cnt (ρ : Env)
  | exc (c : Str) (fs : List (Str × D)) (ρ : Env)
  | stuck
abbrev SF := Env → RS
def KeepS (pr : List Nat) (σ0 σ : L2.St) : Prop := ∀ j ∈ pr, σ[j]? = σ0[j]?
theorem KeepS.refl {pr : List Nat} {σ : L2.St} : KeepS pr σ σ := fun _ _ => rfl
theorem KeepS.trans {pr : List Nat} {σ0 σ1 σ2 : L2.St} (a : KeepS pr σ0 σ1) (b : KeepS pr σ1 σ2) : KeepS pr σ0 σ2 := fun j h => (b j h).trans (a j h)
theorem KeepS.set {pr : List Nat} {σ : L2.St} {i : Nat} {s : Option V} (h : i ∉ pr) : KeepS pr σ (σ.set i s) := fun j hj => by
  rw [List.getElem?_set_ne]
  intro e
  subst e
  exact h hj
def QS (K : RC) (W : WX) (pr : List Nat) (fr : Fr) (σ0 : L2.St) (r : RS) (Dn : Ends) : Prop := match r with
  | .nx ρ => ∀ σ H, KeepS pr σ0 σ → Sim K fr ρ σ H → Dn.nx σ H
  | .ret d ρ => ∀ v σ H, KeepS pr σ0 σ → Sim K fr (some d :: ρ) (some v :: σ) H → Dn.rt v H
  | .brk ρ => ∀ σ H, KeepS pr σ0 σ → Sim K fr ρ σ H → Dn.bk σ H
  | .cnt ρ => ∀ σ H, KeepS pr σ0 σ → Sim K fr ρ σ H → Dn.ct σ H
  | .exc c fs ρ => ∀ cls dd σ H, KeepS pr σ0 σ → ExcR K.mg c fs cls dd H → Sim K fr ρ σ H → W cls dd σ H
  | .stuck => False
structure SD {ι : Type} (X : ι → Cx) (K : RC) (W : WX) (pr : List Nat) (st : Stmt) (F : SF) : Prop where
  ex : ∃ t, (∀ i, PS (X i) st t) ∧ ∀ fr ρ σ H Dn, Sim K fr ρ σ H → QS K W pr fr σ (F ρ) Dn → t Dn σ H
structure SDs {ι : Type} (X : ι → Cx) (K : RC) (W : WX) (pr : List Nat) (sts : List Stmt) (F : SF) : Prop where
  ex : ∃ t, (∀ i, PSs (X i) sts t) ∧ ∀ fr ρ σ H Dn, Sim K fr ρ σ H → QS K W pr fr σ (F ρ) Dn → t Dn σ H
/-- later entry: what is kept from there is kept from here -/
theorem QS.from {K : RC} {W : WX} {pr : List Nat} {fr : Fr} {σ0 σ : L2.St} {r : RS} {Dn : Ends} (k : KeepS pr σ0 σ) (q : QS K W pr fr σ0 r Dn) : QS K W pr fr σ r Dn := by
  cases r with
  | nx ρ => exact fun σ' H k' s => q σ' H (k.trans k') s
  | ret d ρ => exact fun v σ' H k' s => q v σ' H (k.trans k') s
  | brk ρ => exact fun σ' H k' s => q σ' H (k.trans k') s
  | cnt ρ => exact fun σ' H k' s => q σ' H (k.trans k') s
  | exc c fs ρ => exact fun cls dd σ' H k' x s => q cls dd σ' H (k.trans k') x s
  | stuck => exact q
theorem QS.frame {K : RC} {W : WX} {pr : List Nat} {fr fr' : Fr} {σ0 : L2.St} {r : RS} {Dn : Ends} (q : QS K W pr fr σ0 r Dn) (k : ∀ ρ σ H, Sim K fr' ρ σ H → Sim K fr ρ σ H) : QS K W pr fr' σ0 r Dn := by
  cases r with
  | nx ρ => exact fun σ' H k' s => q σ' H k' (k _ _ _ s)
  | ret d ρ => exact fun v σ' H k' s => q v σ' H k' (k _ _ _ s)
  | brk ρ => exact fun σ' H k' s => q σ' H k' (k _ _ _ s)
  | cnt ρ => exact fun σ' H k' s => q σ' H k' (k _ _ _ s)
  | exc c fs ρ => exact fun cls dd σ' H k' x s => q cls dd σ' H k' x (k _ _ _ s)
  | stuck => exact q
/-- an expression, then a statement's rest -/
def sE {α : Type} (m : M α) (f : α → SF) : SF := fun ρ => match m ρ with
  | .ok a ρ' => f a ρ'
  | .exc c fs ρ' => .exc c fs ρ'
  | .stuck => .stuck
theorem QS.ofE {α : Type} {K : RC} {W : WX} {pr : List Nat} {fr : Fr} {σ : L2.St} {m : M α} {f : α → SF} {ρ : Env} {Dn : Ends} (q : QS K W pr fr σ (sE m f ρ) Dn) : QR K W fr σ (m ρ) fun a ρ' => QS K W pr fr σ (f a ρ') Dn := by
  unfold sE at q
  cases e : m ρ with
  | ok a ρ' => rw [e] at q; exact q
  | exc c fs ρ' => rw [e] at q; exact fun cls dd H x s => q cls dd σ H .refl x s
  | stuck => rw [e] at q; exact q
def sNext : SF := fun ρ => .nx ρ
def sSeq (f g : SF) : SF := fun ρ => match f ρ with
  | .nx ρ' => g ρ'
  | r => r
def sIf (c : M Bool) (f g : SF) : SF := sE c fun b => if b = true then f else g
def sRet (f : M D) : SF := sE f fun d ρ => .ret d ρ
def sRetN : SF := fun ρ => .ret .non ρ
def sDrop (f : M D) : SF := sE f fun _ ρ => .nx ρ
def sBrk : SF := fun ρ => .brk ρ
def sCnt : SF := fun ρ => .cnt ρ
section
variable {ι : Type} {X : ι → Cx} {K : RC} {W : WX} {pr : List Nat} {st : Stmt} {sts : List Stmt} {F G : SF} {e : Expr} {f : M D} {pos : Pos}
theorem ss_nil : SDs X K W pr [] sNext := ⟨tNext, (fun _ => pss_nil), fun fr ρ σ H Dn S q => q σ H .refl S⟩
theorem ss_one (h : SD X K W pr st F) : SDs X K W pr [st] F := by
  obtain ⟨t, p, s⟩ := h.ex
  exact ⟨t, (fun i => pss_one (p i)), s⟩
theorem ss_cons (h : SD X K W pr st F) (h2 : SDs X K W pr sts G) : SDs X K W pr (st :: sts) (sSeq F G) := by
  obtain ⟨t, p, s⟩ := h.ex
  obtain ⟨u, p2, s2⟩ := h2.ex
  refine ⟨tSeq t u, (fun i => pss_cons (p i) (p2 i)), fun fr ρ σ H Dn S q => s fr ρ σ H _ S ?_⟩
  unfold sSeq at q
  cases e : F ρ with
  | nx ρ' =>
    rw [e] at q
    exact fun σ' H' k S' => s2 fr ρ' σ' H' Dn S' (q.from k)
  | ret d ρ' => rw [e] at q; exact q
  | brk ρ' => rw [e] at q; exact q
  | cnt ρ' => rw [e] at q; exact q
  | exc c fs ρ' => rw [e] at q; exact q
  | stuck => rw [e] at q; exact q
theorem sd_pass : SD X K W pr (.Pass pos) sNext := ⟨tNext, (fun _ => ps_pass), fun fr ρ σ H Dn S q => q σ H .refl S⟩
theorem sd_brk : SD X K W pr (.Break pos) sBrk := ⟨tBreak, (fun _ => ps_break), fun fr ρ σ H Dn S q => q σ H .refl S⟩
theorem sd_cnt : SD X K W pr (.Continue pos) sCnt := ⟨tCont, (fun _ => ps_continue), fun fr ρ σ H Dn S q => q σ H .refl S⟩
theorem sd_doc {x j pos'} : SD X K W pr (.Expr (.Constant (.str x) j pos) pos') sNext := ⟨tNext, (fun _ => ps_doc), fun fr ρ σ H Dn S q => q σ H .refl S⟩
theorem sd_expr (h : ED X K W e f) (hs : ∀ i, swapsWith e none pos.line (X i).env = pure false := by intro _; rfl) : SD X K W pr (.Expr e pos) (sDrop f) := by
  obtain ⟨t, p, s⟩ := h.ex
  exact ⟨tDrop t, (fun i => ps_expr (p i) (hs i)), fun fr ρ σ H Dn S q => s fr ρ σ H _ S (q.ofE.mono fun d ρ' q' v H' S' => q' σ H' .refl S'.drop)⟩
theorem sd_ret (h : ED X K W e f) : SD X K W pr (.Return (some e) pos) (sRet f) := by
  obtain ⟨t, p, s⟩ := h.ex
  exact ⟨tRet t, (fun i => ps_ret (p i)), fun fr ρ σ H Dn S q => s fr ρ σ H _ S (q.ofE.mono fun d ρ' q' v H' S' => q' v σ H' .refl S')⟩
theorem sd_retN : SD X K W pr (.Return none pos) sRetN := ⟨tRetN, (fun _ => ps_retN), fun fr ρ σ H Dn S q => q .non σ H .refl (S.pushF rfl)⟩
theorem sd_if {c : Expr} {gc : M Bool} {a b : List Stmt} (hc : TD X K W c gc) (h : SDs X K W pr a F) (h2 : SDs X K W pr b G) : SD X K W pr (.If c a b pos) (sIf gc F G) := by
  obtain ⟨tc, pc, sc⟩ := hc.ex
  obtain ⟨t, p, s⟩ := h.ex
  obtain ⟨u, p2, s2⟩ := h2.ex
  refine ⟨tIfS tc t u, (fun i => ps_if (pc i) (p i) (p2 i)), fun fr ρ σ H Dn S q => sc fr ρ σ H _ S (q.ofE.mono fun k ρ1 q1 H1 S1 => ?_)⟩
  cases k with
  | true => rw [if_pos rfl] at q1 ⊢; exact s fr ρ1 σ H1 Dn S1 q1
  | false => rw [if_neg Bool.false_ne_true] at q1 ⊢; exact s2 fr ρ1 σ H1 Dn S1 q1
/-! targets: what is to be stored lies ahead -/
structure GD {ι : Type} (X : ι → Cx) (K : RC) (pr : List Nat) (tg : Expr) (g : D → Env → Option Env) : Prop where
  ex : ∃ t, (∀ i, PG (X i) tg t) ∧ ∀ fr ρ σ H d v ρ' Q, Sim K fr (some d :: ρ) (some v :: σ) H → g d ρ = some ρ' → (∀ σ' H', KeepS pr σ σ' → Sim K fr ρ' σ' H' → Q σ' H') → t v σ H Q
  len : ∀ d ρ ρ', g d ρ = some ρ' → ρ'.length = ρ.length
def gSet (i : Nat) : D → Env → Option Env := fun d ρ => if i < ρ.length then some (ρ.set i (some d)) else none
theorem gd_name {i : Nat} {x : Str} (h : ∀ j, PG (X j) (.Name x pos) (gName i)) (hp : i ∉ pr := by decide) : GD X K pr (.Name x pos) (gSet i) := ⟨⟨gName i, h, fun fr ρ σ H d v ρ' Q S e q => by
  unfold gSet at e
  by_cases hi : i < ρ.length
  · rw [if_pos hi] at e
    cases e
    exact q _ H (KeepS.set hp) (S.store hi)
  · rw [if_neg hi] at e
    cases e⟩, fun d ρ ρ' e => by
  unfold gSet at e
  by_cases hi : i < ρ.length
  · rw [if_pos hi] at e
    cases e
    exact List.length_set
  · rw [if_neg hi] at e
    cases e⟩
/-- several -/
structure GDs {ι : Type} (X : ι → Cx) (K : RC) (pr : List Nat) (tgs : List Expr) (g : List D → Env → Option Env) : Prop where
  ex : ∃ t, (∀ i, PGs (X i) tgs t) ∧ ∀ fr ρ σ H ds vs ρ' Q, vs.length = ds.length → Sim K fr (ds.map some ++ ρ) (vs.map some ++ σ) H → g ds ρ = some ρ' → (∀ σ' H', KeepS pr σ σ' → Sim K fr ρ' σ' H' → Q σ' H') → t vs σ H Q
  len : ∀ ds ρ ρ', g ds ρ = some ρ' → ρ'.length = ρ.length
def gsNil : List D → Env → Option Env := fun ds ρ => if ds.isEmpty = true then some ρ else none
def gsCons (g : D → Env → Option Env) (r : List D → Env → Option Env) : List D → Env → Option Env := fun ds ρ => match ds with
  | [] => none
  | d :: ds => (g d ρ).bind fun ρ' => r ds ρ'
theorem gds_nil : GDs X K pr [] gsNil := ⟨⟨gNil, (fun _ => pgs_nil), fun fr ρ σ H ds vs ρ' Q hl S e q => by
  cases ds with
  | nil =>
    cases vs with
    | nil =>
      cases e
      exact ⟨rfl, q σ H .refl S⟩
    | cons v vs => cases hl
  | cons d ds => cases e⟩, fun ds ρ ρ' e => by
  cases ds with
  | nil => cases e; rfl
  | cons d ds => cases e⟩
theorem gds_cons {tg : Expr} {tgs : List Expr} {g : D → Env → Option Env} {r : List D → Env → Option Env} (h : GD X K pr tg g) (h2 : GDs X K pr tgs r) (hs : ∀ i, (assignEach (tg :: tgs) (X i).env).map (·.2) = assign tg (X i).env :: (assignEach tgs (X i).env).map (·.2) := by intro _; rfl) : GDs X K pr (tg :: tgs) (gsCons g r) := by
  obtain ⟨t, p, s⟩ := h.ex
  obtain ⟨u, p2, s2⟩ := h2.ex
  refine ⟨⟨gCons t u, (fun i => pgs_cons (p i) (p2 i) (hs i)), fun fr ρ σ H ds vs ρ' Q hl S e q => ?_⟩, fun ds ρ ρ' e => ?_⟩
  rotate_left
  · cases ds with
    | nil => cases e
    | cons d ds =>
      unfold gsCons at e
      cases e1 : g d ρ with
      | none => simp [e1] at e
      | some ρ1 =>
        simp [e1] at e
        rw [h2.len _ _ _ e, h.len _ _ _ e1]
  cases ds with
  | nil => cases e
  | cons d ds =>
    cases vs with
    | nil => cases hl
    | cons v vs =>
      refine ⟨v, vs, rfl, ?_⟩
      have hl' : vs.length = ds.length := by simpa using hl
      unfold gsCons at e
      cases e1 : g d ρ with
      | none => simp [e1] at e
      | some ρ1 =>
        simp [e1] at e
        -- d stays, the others are held
        have S' : Sim K fr ([some d] ++ (ds.map some ++ ρ)) ([some v] ++ (vs.map some ++ σ)) H := S
        have S1 := Sim.swap (ρ1 := [some d]) (σ1 := [some v]) rfl S'
        rw [List.append_assoc, List.append_assoc] at S1
        obtain ⟨fr', S2, back⟩ := Sim.holdN (by simpa using hl') S1
        have S3 := Sim.swap (ρ1 := ρ) (ρ2 := [some d]) (by have := S2.len; simpa using this) S2
        refine s fr' ρ σ H d v ρ1 _ S3 e1 fun σ1 H1 k1 S4 => ?_
        have S5 := back _ _ _ S4
        exact s2 fr ρ1 σ1 H1 ds vs ρ' Q hl' S5 e fun σ2 H2 k2 S6 => q σ2 H2 (k1.trans k2) S6
def gTupD (n : Nat) (r : List D → Env → Option Env) : D → Env → Option Env := fun d ρ => match d with
  | .tup ds => if ds.length = n then r ds ρ else none
  | _ => none
theorem gd_tup {tgs : List Expr} {k : Nat} {r : List D → Env → Option Env} {t : TGs} {n : Nat} (hp : ∀ i t, PGs (X i) tgs t → PG (X i) (.Tuple tgs k pos) (gTup K.K n t)) (h : GDs X K pr tgs r) : GD X K pr (.Tuple tgs k pos) (gTupD n r) := by
  obtain ⟨u, p, s⟩ := h.ex
  refine ⟨⟨gTup K.K n u, (fun i => hp i u (p i)), fun fr ρ σ H d v ρ' Q S e q => ?_⟩, fun d ρ ρ' e => ?_⟩
  rotate_left
  · cases d with
    | tup ds =>
      unfold gTupD at e
      by_cases hn : ds.length = n
      · simp [hn] at e
        exact h.len _ _ _ e
      · simp [hn] at e
    | _ => cases e
  cases d with
  | tup ds =>
    unfold gTupD at e
    by_cases hn : ds.length = n
    · simp [hn] at e
      obtain ⟨a, xs, rfl, hl, ht, _, S1⟩ := S.explode (ds := ds) rfl
      exact ⟨a, xs, rfl, ht, by rw [hl, hn], s fr ρ σ H ds xs ρ' Q hl S1 e q⟩
    · simp [hn] at e
  | _ => cases e
def sAsg (f : M D) (g : D → Env → Option Env) : SF := sE f fun d ρ => match g d ρ with
  | some ρ' => .nx ρ'
  | none => .stuck
theorem sd_asg {tg : Expr} {g : D → Env → Option Env} (hp : ∀ i te tg', PE (X i) e te → PG (X i) tg tg' → PS (X i) (.Assign [tg] e pos) (tAsg te tg')) (h : ED X K W e f) (hg : GD X K pr tg g) : SD X K W pr (.Assign [tg] e pos) (sAsg f g) := by
  obtain ⟨t, p, s⟩ := h.ex
  obtain ⟨u, p2, s2⟩ := hg.ex
  refine ⟨tAsg t u, (fun i => hp i t u (p i) (p2 i)), fun fr ρ σ H Dn S q => s fr ρ σ H _ S (q.ofE.mono fun d ρ1 q1 v H1 S1 => ?_)⟩
  cases e1 : g d ρ1 with
  | none => rw [e1] at q1; exact q1.elim
  | some ρ2 =>
    rw [e1] at q1
    exact s2 fr ρ1 σ H1 d v ρ2 _ S1 e1 q1
/-- the variable in a slot is frozen from here on (nothing runs) -/
def frzAt (i : Nat) (ρ : Env) : Env := match ρ[i]? with
  | some (some d) => ρ.set i (some (frz d))
  | _ => ρ
def sFrz (i : Nat) (F : SF) : SF := fun ρ => F (frzAt i ρ)
theorem set_set_ {α : Type} : ∀ {l : List α} {i : Nat} {x y : α}, (l.set i x).set i y = l.set i y
  | [], _, _, _ => rfl
  | a :: l, 0, x, y => rfl
  | a :: l, i + 1, x, y => by
    show a :: (l.set i x).set i y = a :: l.set i y
    rw [set_set_]
theorem Sim.frzAt {K : RC} {fr : Fr} {ρ : Env} {σ : L2.St} {H : Hp} {i : Nat} (S : Sim K fr ρ σ H) : Sim K fr (DL.frzAt i ρ) σ H := by
  unfold DL.frzAt
  cases e : ρ[i]? with
  | none => exact S
  | some o => cases o with
    | none => exact S
    | some d =>
      obtain ⟨v, e1, S1⟩ := S.move e
      have z := S1.frz.back e1
      rw [set_set_] at z
      exact z
theorem ss_frz {i : Nat} (h : SDs X K W pr sts F) : SDs X K W pr sts (sFrz i F) := by
  obtain ⟨t, p, s⟩ := h.ex
  exact ⟨t, p, fun fr ρ σ H Dn S q => s fr (frzAt i ρ) σ H Dn S.frzAt q⟩
end
end DL

set_option Elab.async false
set_option linter.all false
set_option maxRecDepth 100000
set_option maxHeartbeats 4000000
namespace DL
open PySem PySem.Spec L2
/-! ### while -/
def whileN (c : M Bool) (b : SF) : Nat → SF
  | 0 => fun _ => .stuck
  | n + 1 => sE c fun k => if k = true then (fun ρ => match b ρ with
      | .nx ρ' => whileN c b n ρ'
      | .cnt ρ' => whileN c b n ρ'
      | .brk ρ' => .nx ρ'
      | r => r) else sNext
open Classical in
noncomputable def sWhile (c : M Bool) (b : SF) : SF := fun ρ => if h : ∃ n, whileN c b n ρ ≠ .stuck then whileN c b h.choose ρ else .stuck
theorem whileN_mono (c : M Bool) (b : SF) : ∀ (n m : Nat) (ρ : Env), n ≤ m → whileN c b n ρ ≠ .stuck → whileN c b m ρ = whileN c b n ρ
  | 0, _, _, _, h => absurd rfl h
  | n + 1, 0, _, hm, _ => absurd hm (by omega)
  | n + 1, m + 1, ρ, hm, h => by
    unfold whileN sE at h ⊢
    cases e : c ρ with
    | stuck => rfl
    | exc x y z => rfl
    | ok k ρ1 =>
      rw [e] at h
      simp only at h ⊢
      cases k with
      | false => rfl
      | true =>
        rw [if_pos rfl] at h ⊢
        rw [if_pos rfl]
        cases e2 : b ρ1 with
        | nx ρ2 => rw [e2] at h; exact whileN_mono c b n m ρ2 (by omega) h
        | cnt ρ2 => rw [e2] at h; exact whileN_mono c b n m ρ2 (by omega) h
        | _ => rfl
theorem sWhile_of {c : M Bool} {b : SF} {n : Nat} {ρ : Env} {r : RS} (h : whileN c b n ρ = r) (hr : r ≠ .stuck) : sWhile c b ρ = r := by
  have ex : ∃ n, whileN c b n ρ ≠ .stuck := ⟨n, by rw [h]; exact hr⟩
  unfold sWhile
  rw [dif_pos ex]
  have h1 := ex.choose_spec
  rcases Nat.le_total n ex.choose with q | q
  · rw [whileN_mono c b n _ ρ q (by rw [h]; exact hr), h]
  · rw [← whileN_mono c b _ n ρ q h1, h]
theorem sWhile_eq (c : M Bool) (b : SF) (ρ : Env) : sWhile c b ρ = sE c (fun k => if k = true then (fun ρ => match b ρ with
      | .nx ρ' => sWhile c b ρ'
      | .cnt ρ' => sWhile c b ρ'
      | .brk ρ' => .nx ρ'
      | r => r) else sNext) ρ := by
  unfold sE
  have one : ∀ n, whileN c b (n + 1) ρ = sE c (fun k => if k = true then (fun ρ => match b ρ with
      | .nx ρ' => whileN c b n ρ'
      | .cnt ρ' => whileN c b n ρ'
      | .brk ρ' => .nx ρ'
      | r => r) else sNext) ρ := fun n => rfl
  have stuckOf : ∀ ρ', (∀ n, whileN c b n ρ' = .stuck) → sWhile c b ρ' = .stuck := fun ρ' hs => by
    unfold sWhile
    rw [dif_neg]
    rintro ⟨n, h⟩
    exact h (hs n)
  have tail : ∀ ρ2, (∀ n, whileN c b (n + 1) ρ = whileN c b n ρ2) → sWhile c b ρ = sWhile c b ρ2 := fun ρ2 hs => by
    by_cases h : ∃ n, whileN c b n ρ2 ≠ .stuck
    · obtain ⟨n, h⟩ := h
      rw [sWhile_of rfl h, sWhile_of (hs n) h]
    · have h2 : ∀ n, whileN c b n ρ2 = .stuck := fun n => Classical.byContradiction fun q => h ⟨n, q⟩
      rw [stuckOf ρ2 h2]
      refine stuckOf ρ fun n => ?_
      cases n with
      | zero => rfl
      | succ n => rw [hs n, h2 n]
  have done : ∀ r, whileN c b 1 ρ = r → r ≠ .stuck → sWhile c b ρ = r := fun r h hr => sWhile_of h hr
  cases e : c ρ with
  | stuck =>
    refine stuckOf ρ fun n => ?_
    cases n with
    | zero => rfl
    | succ n => rw [one n]; unfold sE; rw [e]
  | exc x y z =>
    refine done _ ?_ (fun q => nomatch q)
    rw [one 0]; unfold sE; rw [e]
  | ok k ρ1 =>
    cases k with
    | false =>
      refine done _ ?_ (fun q => nomatch q)
      rw [one 0]; unfold sE; rw [e]; rfl
    | true =>
      simp only [if_true]
      have u : ∀ n, whileN c b (n + 1) ρ = (match b ρ1 with
        | .nx ρ' => whileN c b n ρ'
        | .cnt ρ' => whileN c b n ρ'
        | .brk ρ' => .nx ρ'
        | r => r) := fun n => by rw [one n]; unfold sE; rw [e]; rfl
      cases e2 : b ρ1 with
      | nx ρ2 => exact tail ρ2 fun n => by rw [u n, e2]
      | cnt ρ2 => exact tail ρ2 fun n => by rw [u n, e2]
      | brk ρ2 => exact done _ (by rw [u 0, e2]) (fun q => nomatch q)
      | ret d ρ2 => exact done _ (by rw [u 0, e2]) (fun q => nomatch q)
      | exc x y z => exact done _ (by rw [u 0, e2]) (fun q => nomatch q)
      | stuck =>
        refine stuckOf ρ fun n => ?_
        cases n with
        | zero => rfl
        | succ n => rw [u n, e2]
section
variable {ι : Type} {X : ι → Cx} {K : RC} {W : WX} {pr : List Nat} {F G : SF} {e : Expr} {f : M D} {pos : Pos}
theorem sd_while {c : Expr} {gc : M Bool} {body : List Stmt} (hp : ∀ i, PassesOwn (model (X i).prog (X i).w) (X i).A (X i).env (X i).xe) (hc : TD X K W c gc) (hb : SDs X K W pr body F) : SD X K W pr (.While c body [] pos) (sWhile gc F) := by
  obtain ⟨tc, pc, sc⟩ := hc.ex
  obtain ⟨t, p, s⟩ := hb.ex
  refine ⟨tWhile tc t, (fun i => ps_while (hp i) (pc i) (p i)), fun fr ρ σ H Dn S q => ?_⟩
  have ex : ∃ n, QS K W pr fr σ (whileN gc F n ρ) Dn := by
    unfold sWhile at q
    by_cases h : ∃ n, whileN gc F n ρ ≠ .stuck
    · rw [dif_pos h] at q; exact ⟨_, q⟩
    · rw [dif_neg h] at q; exact q.elim
  obtain ⟨n0, q0⟩ := ex
  refine ⟨fun m σ1 H1 => ∃ ρ1, Sim K fr ρ1 σ1 H1 ∧ QS K W pr fr σ1 (whileN gc F m ρ1) Dn, ⟨n0, ρ, S, q0⟩, ?_⟩
  rintro m σ1 H1 ⟨ρ1, S1, q1⟩
  cases m with
  | zero => exact q1.elim
  | succ m =>
    refine sc fr ρ1 σ1 H1 _ S1 ((QS.ofE q1).mono fun k ρ2 q2 H2 S2 => ?_)
    cases k with
    | false =>
      rw [if_neg Bool.false_ne_true] at q2 ⊢
      exact q2 σ1 H2 .refl S2
    | true =>
      rw [if_pos rfl] at q2 ⊢
      refine ⟨fun σ' H' => ∃ ρ', Sim K fr ρ' σ' H' ∧ QS K W pr fr σ' (whileN gc F m ρ') Dn, fun σ' H' h => ⟨m, by omega, h⟩, ?_⟩
      refine s fr ρ2 σ1 H2 _ S2 ?_
      cases e2 : F ρ2 with
      | nx ρ3 =>
        rw [e2] at q2
        exact fun σ3 H3 k3 S3 => ⟨ρ3, S3, QS.from k3 q2⟩
      | cnt ρ3 =>
        rw [e2] at q2
        exact fun σ3 H3 k3 S3 => ⟨ρ3, S3, QS.from k3 q2⟩
      | brk ρ3 => rw [e2] at q2; exact fun σ3 H3 k3 S3 => q2 σ3 H3 k3 S3
      | ret d ρ3 => rw [e2] at q2; exact q2
      | exc x y z => rw [e2] at q2; exact q2
      | stuck => rw [e2] at q2; exact q2.elim
/-! ### for -/
/-- the walk J yields the data ds under the frame fr -/
structure Yields (K : RC) (J : It) (fr : Fr) (ds : List D) : Prop where
  go : ∀ i H ρ σ, Sim K fr ρ σ H → i < ds.length → J.go i H
  stop : ∀ i H ρ σ, Sim K fr ρ σ H → ds.length ≤ i → J.stop i H
  yld : ∀ i H x H' ρ σ d, Sim K fr ρ σ H → ds[i]? = some d → J.yld i H x H' → Sim K fr (some d :: ρ) (some x :: σ) H'
structure ID {ι : Type} (X : ι → Cx) (K : RC) (W : WX) (tg iter : Expr) (f : M (List D)) : Prop where
  ex : ∃ wi, (∀ i, PI (X i) tg iter wi) ∧ ∀ fr ρ σ H R, Sim K fr ρ σ H → QR K W fr σ (f ρ) (fun ds ρ' => ∀ J H1 fr1, Sim K fr1 ρ' σ H1 → (∀ ρ σ H, Sim K fr1 ρ σ H → Sim K fr ρ σ H) → Yields K J fr1 ds → R J H1) → wi σ H R
def forGo (g : D → Env → Option Env) (b : SF) : List D → SF
  | [] => fun ρ => .nx ρ
  | d :: ds => fun ρ => match g d ρ with
    | none => .stuck
    | some ρ1 => match b ρ1 with
      | .nx ρ' => forGo g b ds ρ'
      | .cnt ρ' => forGo g b ds ρ'
      | .brk ρ' => .nx ρ'
      | r => r
def sFor (f : M (List D)) (g : D → Env → Option Env) (b : SF) : SF := sE f fun ds => forGo g b ds
theorem drop_get {α : Type} {l : List α} {i : Nat} {d : α} (h : l[i]? = some d) : l.drop i = d :: l.drop (i + 1) := by
  obtain ⟨hi, e⟩ := List.getElem?_eq_some_iff.mp h
  rw [List.drop_eq_getElem_cons hi, e]
theorem sd_for {tg iter : Expr} {body : List Stmt} {fi : M (List D)} {g : D → Env → Option Env} (hp : ∀ i, PassesOwn (model (X i).prog (X i).w) (X i).A (X i).env (X i).xe) (hc : ∀ i, (X i).calm = true) (hi : ID X K W tg iter fi) (hg : GD X K pr tg g) (hb : SDs X K W pr body F)
    (hs : ∀ i x, foldedSetIterable iter (X i).env x = pure x := by intro _ _; rfl) : SD X K W pr (.For tg iter body [] pos) (sFor fi g F) := by
  obtain ⟨wi, pi, si⟩ := hi.ex
  obtain ⟨u, p2, s2⟩ := hg.ex
  obtain ⟨t, p, s⟩ := hb.ex
  refine ⟨tFor wi u t, (fun i => ps_for (hp i) (hc i) (pi i) (p2 i) (p i) (hs i)), fun fr ρ σ H Dn S q => ?_⟩
  refine si fr ρ σ H _ S ((QS.ofE q).mono fun ds ρ1 q1 J H1 fr1 S1 back Y => ?_)
  refine ⟨fun i m σ2 H2 => ∃ ρ2, i + m = ds.length ∧ Sim K fr1 ρ2 σ2 H2 ∧ QS K W pr fr1 σ2 (forGo g F (ds.drop i) ρ2) Dn, ⟨ds.length, ρ1, by omega, S1, q1.frame back⟩, ?_⟩
  rintro i m σ2 H2 ⟨ρ2, hm, S2, q2⟩
  by_cases hlt : i < ds.length
  · refine .inr ⟨Y.go i H2 ρ2 σ2 S2 hlt, fun σ' H' => ∃ ρ', i + 1 + (m - 1) = ds.length ∧ Sim K fr1 ρ' σ' H' ∧ QS K W pr fr1 σ' (forGo g F (ds.drop (i + 1)) ρ') Dn, fun σ' H' h => ⟨m - 1, by omega, h⟩, fun x H' hy => ?_⟩
    have hd : ds[i]? = some ds[i] := List.getElem?_eq_getElem hlt
    have S3 := Y.yld i H2 x H' ρ2 σ2 ds[i] S2 hd hy
    rw [drop_get hd] at q2
    unfold forGo at q2
    cases e1 : g ds[i] ρ2 with
    | none => rw [e1] at q2; exact q2.elim
    | some ρ3 =>
      rw [e1] at q2
      refine s2 fr1 ρ2 σ2 H' ds[i] x ρ3 _ S3 e1 fun σ4 H4 k4 S4 => ?_
      refine s fr1 ρ3 σ4 H4 _ S4 ?_
      simp only at q2
      cases e2 : F ρ3 with
      | nx ρ5 =>
        rw [e2] at q2
        exact fun σ5 H5 k5 S5 => ⟨ρ5, by omega, S5, QS.from (k4.trans k5) q2⟩
      | cnt ρ5 =>
        rw [e2] at q2
        exact fun σ5 H5 k5 S5 => ⟨ρ5, by omega, S5, QS.from (k4.trans k5) q2⟩
      | brk ρ5 => rw [e2] at q2; exact fun σ5 H5 k5 S5 => q2 σ5 H5 (k4.trans k5) S5
      | ret d ρ5 => rw [e2] at q2; exact fun v σ5 H5 k5 S5 => q2 v σ5 H5 (k4.trans k5) S5
      | exc x y z => rw [e2] at q2; exact fun cls dd σ5 H5 k5 xx S5 => q2 cls dd σ5 H5 (k4.trans k5) xx S5
      | stuck => rw [e2] at q2; exact q2.elim
  · refine .inl ⟨Y.stop i H2 ρ2 σ2 S2 (by omega), ?_⟩
    rw [List.drop_eq_nil_of_le (by omega)] at q2
    exact q2 σ2 H2 .refl S2
/-! ### comprehensions -/
def wipeE (ρ : Env) : List Nat → Env
  | [] => ρ
  | v :: vs => (wipeE ρ vs).set v none
theorem Sim.wiped {K : RC} {fr : Fr} {ρ : Env} {σ : L2.St} {H : Hp} (S : Sim K fr ρ σ H) : ∀ vs : List Nat, Sim K fr (wipeE ρ vs) (wipe σ vs) H
  | [] => S
  | v :: vs => (Sim.wiped S vs).clear none
theorem wipeE_none : ∀ {vs : List Nat} {ρ : Env} {i : Nat}, i ∈ vs → i < ρ.length → (wipeE ρ vs)[i]? = some none
  | [], _, _, h, _ => by cases h
  | v :: vs, ρ, i, h, hl => by
    have wl : ∀ vs : List Nat, (wipeE ρ vs).length = ρ.length := fun vs => by
      induction vs with
      | nil => rfl
      | cons w ws ih => show ((wipeE ρ ws).set w none).length = _; rw [List.length_set, ih]
    show ((wipeE ρ vs).set v none)[i]? = some none
    by_cases e : v = i
    · subst e
      rw [List.getElem?_set_self (by rw [wl]; exact hl)]
    · rw [List.getElem?_set_ne e]
      rcases List.mem_cons.mp h with z | z
      · exact absurd z.symm e
      · exact wipeE_none z hl
/-- empty slots may hold anything -/
theorem Sl.any {K : RC} {F H : Hp} : ∀ {ρ : Env} {σ τ : L2.St} {A : List Addr}, Sl K F H ρ σ A → τ.length = σ.length → (∀ i : Nat, ρ[i]? ≠ some none → τ[i]? = σ[i]?) → Sl K F H ρ τ A
  | [], σ, τ, A, r, hl, _ => by
    obtain ⟨rfl, rfl⟩ := r
    exact ⟨List.length_eq_zero_iff.mp hl, rfl⟩
  | x :: ρ, σ, τ, A, r, hl, h => by
    obtain ⟨s, σ', B, C, rfl, rfl, r1, r2⟩ := r
    cases τ with
    | nil => cases hl
    | cons t τ =>
      have r2' := Sl.any (τ := τ) r2 (by simpa using hl) fun i hi => by simpa using h (i + 1) (by simpa using hi)
      refine ⟨t, τ, B, C, rfl, rfl, ?_, r2'⟩
      cases x with
      | none => exact r1
      | some d =>
        have z := h 0 (by simp)
        have z : some t = some s := by simpa using z
        cases z
        exact r1
theorem wipe_get : ∀ {vs : List Nat} {σ : L2.St} {i : Nat}, i ∉ vs → (wipe σ vs)[i]? = σ[i]?
  | [], _, _, _ => rfl
  | v :: vs, σ, i, h => by
    show ((wipe σ vs).set v none)[i]? = _
    rw [List.getElem?_set_ne (fun e => h (by simp [e])), wipe_get (fun z => h (List.mem_cons_of_mem _ z))]
theorem Sim.unwipe {K : RC} {fr : Fr} {ρ : Env} {σ : L2.St} {H : Hp} {vs : List Nat} (S : Sim K fr (wipeE ρ vs) (wipe σ vs) H) : Sim K fr (wipeE ρ vs) σ H := by
  obtain ⟨A, S⟩ := S
  have hl := S.sl.len
  have wl : (wipeE ρ vs).length = ρ.length := by
    clear hl S
    induction vs with
    | nil => rfl
    | cons w ws ih => show ((wipeE ρ ws).set w none).length = _; rw [List.length_set, ih]
  have hl2 : σ.length = ρ.length := by rw [← wl, ← hl, wipe_length]
  refine ⟨A, S.sl.any (by rw [wipe_length]) fun i hi => ?_, S.nd, S.off, S.keep, S.tr⟩
  by_cases h : i ∈ vs
  · by_cases hl3 : i < ρ.length
    · exact absurd (wipeE_none h hl3) hi
    · rw [List.getElem?_eq_none (by omega), List.getElem?_eq_none (by rw [wipe_length]; omega)]
  · exact (wipe_get h).symm
theorem wipe_eq {pr vs : List Nat} {σ σ' : L2.St} (k : KeepS pr σ σ') (hl : σ'.length = σ.length) (hp : ∀ j, j < σ.length → j ∉ vs → j ∈ pr) : wipe σ' vs = wipe σ vs := by
  refine List.ext_getElem? fun i => ?_
  have gs : ∀ (σ : L2.St) (vs : List Nat) (i : Nat), i ∈ vs → i < σ.length → (wipe σ vs)[i]? = some none := fun σ vs i h hl => by
    induction vs with
    | nil => cases h
    | cons v vs ih =>
      show ((wipe σ vs).set v none)[i]? = some none
      by_cases e : v = i
      · subst e
        rw [List.getElem?_set_self (by rw [wipe_length]; exact hl)]
      · rw [List.getElem?_set_ne e]
        rcases List.mem_cons.mp h with z | z
        · exact absurd z.symm e
        · exact ih z
  by_cases hi : i < σ.length
  · by_cases h : i ∈ vs
    · rw [gs σ' vs i h (by omega), gs σ vs i h hi]
    · rw [wipe_get h, wipe_get h]
      exact k i (hp i hi h)
  · rw [List.getElem?_eq_none (by rw [wipe_length]; omega), List.getElem?_eq_none (by rw [wipe_length]; omega)]
/-- one more item at the end of the list ahead -/
theorem Sim.append {K : RC} {fr : Fr} {ρ : Env} {σ : L2.St} {H : Hp} {ds : List D} {d : D} {p : Addr} {v : V} (S : Sim K fr (some (.lst true ds) :: some d :: ρ) (some (.ref p) :: some v :: σ) H) :
    ∃ xs, H p = some (.lst xs) ∧ xs.length = ds.length ∧ Sim K fr (some (.lst true (ds ++ [d])) :: ρ) (some (.ref p) :: σ) (upd H p (.lst (xs ++ [v]))) := by
  obtain ⟨A, S⟩ := S
  obtain ⟨s1, τ1, B1, C1, e1, rfl, ⟨v1, ev, r1⟩, r2⟩ := S.sl
  injection e1 with e1 e2
  subst e1 e2
  cases ev
  obtain ⟨s2, τ2, B2, C2, e3, rfl, ⟨v2, ev, r3⟩, r4⟩ := r2
  injection e3 with e3 e4
  subst e3 e4
  cases ev
  obtain ⟨a, xs, B, ea, rfl, hx, r1⟩ := r1
  cases ea
  refine ⟨xs, hx, r1.len, p :: (B ++ B2) ++ C2, ?_⟩
  have sub : ∀ a ∈ p :: (B ++ B2) ++ C2, a ∈ p :: B ++ (B2 ++ C2) ∨ H a = none := fun a z => .inl (by simpa [List.append_assoc] using z)
  have nd : (p :: (B ++ B2) ++ C2).Nodup := by
    have := S.nd
    simpa [List.append_assoc] using this
  have pn : p ∉ B ++ (B2 ++ C2) := by
    have := S.nd
    rw [List.cons_append] at this
    exact (List.nodup_cons.mp this).1
  have kp : ∀ a o, a ≠ p → H a = some o → upd H p (.lst (xs ++ [v])) a = some o := fun a o n e => by rw [upd_ne n]; exact e
  have kpA : ∀ a o, a ∉ p :: B ++ (B2 ++ C2) → H a = some o → upd H p (.lst (xs ++ [v])) a = some o := fun a o n e => kp a o (fun z => n (by simp [z])) e
  have f := S.fro sub (H' := upd H p (.lst (xs ++ [v]))) kpA
  have ne : ∀ a, a ∈ B ++ (B2 ++ C2) → a ≠ p := fun a z e => pn (e ▸ z)
  refine S.next sub nd kpA ⟨some (.ref p), _, p :: (B ++ B2), C2, rfl, rfl, ⟨.ref p, rfl, p, xs ++ [v], B ++ B2, rfl, rfl, upd_same, ?_⟩, r4.mono f fun a z o e => kp a o (ne a (by simp [z])) e⟩
  refine RepL.app (RepL.mono f _ _ _ (fun a z o e => kp a o (ne a (by simp [z])) e) r1) ?_
  exact ⟨v, [], B2, [], rfl, by simp, Rep.mono f _ _ _ (fun a z o e => kp a o (ne a (by simp [z])) e) r3, rfl, rfl⟩
def noX {α : Type} (r : Res α) : Res α := match r with
  | .exc _ _ _ => .stuck
  | r => r
def lcGo (g : D → Env → Option Env) (tt : M Bool) (te : M D) (vs : List Nat) : List D → M (List D)
  | [] => fun ρ => .ok [] (wipeE ρ vs)
  | d :: ds => fun ρ => match g d (wipeE ρ vs) with
    | none => .stuck
    | some ρ1 => mbind tt (fun b => if b = true then mbind te fun y => mbind (lcGo g tt te vs ds) fun ys => mret (y :: ys) else lcGo g tt te vs ds) ρ1
def eLc (fi : M (List D)) (g : D → Env → Option Env) (tt : M Bool) (te : M D) (vs : List Nat) : M D := mbind fi fun ds ρ => if ds.length < sizeLine then noX (mbind (lcGo g tt te vs ds) (fun ys => mret (.lst true ys)) ρ) else .stuck
abbrev W0 : WX := fun _ _ _ _ => False
end
end DL

set_option Elab.async false
set_option linter.all false
set_option maxRecDepth 100000
set_option maxHeartbeats 4000000
namespace DL
open PySem PySem.Spec L2
section
variable {K : RC} {fr : Fr} {ρ : Env} {σ : L2.St} {H : Hp}
theorem Sim.xch {x y : Option D} {s t : Option V} (S : Sim K fr (x :: y :: ρ) (s :: t :: σ) H) : Sim K fr (y :: x :: ρ) (t :: s :: σ) H := by
  obtain ⟨A, T⟩ := S
  obtain ⟨s1, τ1, B1, C1, e1, rfl, r1, r2⟩ := T.sl
  injection e1 with e1 e2
  subst e1 e2
  obtain ⟨s2, τ2, B2, C2, e3, rfl, r3, r4⟩ := r2
  injection e3 with e3 e4
  subst e3 e4
  have sub : ∀ q ∈ B2 ++ (B1 ++ C2), q ∈ B1 ++ (B2 ++ C2) ∨ H q = none := fun q z => .inl (by
    simp only [List.mem_append] at z ⊢
    rcases z with z | z | z
    · exact .inr (.inl z)
    · exact .inl z
    · exact .inr (.inr z))
  have g := T.fro sub (H' := H) fun a o _ e => e
  exact ⟨_, T.next sub (perm_nodup T.nd) (fun a o _ e => e) ⟨t, s :: σ, B2, B1 ++ C2, rfl, rfl, r3.mono g fun a _ o e => e, s, σ, B1, C2, rfl, rfl, r1.mono g fun a _ o e => e, r4.mono g fun a _ o e => e⟩⟩
theorem Sim.wiped1 {x : Option D} {s : Option V} (S : Sim K fr (x :: ρ) (s :: σ) H) (vs : List Nat) : Sim K fr (x :: wipeE ρ vs) (s :: wipe σ vs) H := by
  obtain ⟨fr', S', back⟩ := S.hold
  exact back _ _ _ (S'.wiped vs)
theorem Sim.unwipe1 {x : Option D} {s : Option V} {vs : List Nat} (S : Sim K fr (x :: wipeE ρ vs) (s :: wipe σ vs) H) : Sim K fr (x :: wipeE ρ vs) (s :: σ) H := by
  obtain ⟨fr', S', back⟩ := S.hold
  exact back _ _ _ S'.unwipe
theorem wipeE_len (ρ : Env) : ∀ vs : List Nat, (wipeE ρ vs).length = ρ.length
  | [] => rfl
  | v :: vs => by show ((wipeE ρ vs).set v none).length = _; rw [List.length_set, wipeE_len ρ vs]
end
abbrev blkF {ι : Type} (X : ι → Cx) (scope : Scope) : (ι × Shared × Hp × Addr × List (Str × Addr) × List Addr) → Cx := fun j => (X j.1).blk j.2.1 j.2.2.1 scope (compEnvC scope j.2.2.2.2.1 j.2.2.2.1 (X j.1).env) j.2.2.2.2.2
/-- a comprehension's tests -/
structure LD {ι : Type} (X : ι → Cx) (K : RC) (ifs : List Expr) (f : M Bool) : Prop where
  ex : ∃ t, (∀ i, PTs (X i) ifs t) ∧ ∀ fr ρ σ H Q, Sim K fr ρ σ H → QT K W0 fr σ (f ρ) Q → t σ H Q
def mYes : M Bool := mret true
def prOf (L : Nat) (vs : List Nat) : List Nat := (List.range L).filter fun j => !vs.contains j
theorem mem_prOf {L : Nat} {vs : List Nat} {j : Nat} (h : j < L) (n : j ∉ vs) : j ∈ prOf L vs := by
  unfold prOf
  rw [List.mem_filter]
  exact ⟨List.mem_range.mpr h, by simpa using n⟩
def eLcL (L : Nat) (fi : M (List D)) (g : D → Env → Option Env) (tt : M Bool) (te : M D) (vs : List Nat) : M D := mbind fi fun ds ρ => if ds.length < sizeLine ∧ ρ.length = L then noX (mbind (lcGo g tt te vs ds) (fun ys => mret (.lst true ys)) ρ) else .stuck
theorem noX_ok {α : Type} {r : Res α} {K : RC} {W : WX} {fr : Fr} {σ : L2.St} {p : α → Env → Prop} (h : QR K W fr σ (noX r) p) : ∃ a ρ, r = .ok a ρ ∧ p a ρ := by
  cases r with
  | ok a ρ => exact ⟨a, ρ, rfl, h⟩
  | exc c fs ρ => exact h.elim
  | stuck => exact h.elim
theorem mbind_ok {α β : Type} {m : M α} {f : α → M β} {ρ ρ' : Env} {b : β} (h : mbind m f ρ = .ok b ρ') : ∃ a ρ1, m ρ = .ok a ρ1 ∧ f a ρ1 = .ok b ρ' := by
  unfold mbind at h
  cases e : m ρ with
  | ok a ρ1 => rw [e] at h; exact ⟨a, ρ1, rfl, h⟩
  | exc c fs ρ1 => rw [e] at h; cases h
  | stuck => rw [e] at h; cases h
section
variable {ι : Type} {X : ι → Cx} {K : RC} {W : WX}
theorem ld_nil {κ : Type} {Y : κ → Cx} : LD Y K [] mYes := ⟨tYes, (fun _ => pts_nil), fun fr ρ σ H Q S q => q H S⟩
theorem ld_one {κ : Type} {Y : κ → Cx} {c : Expr} {f : M Bool} (h : TD Y K W0 c f) : LD Y K [c] f := by
  obtain ⟨t, p, s⟩ := h.ex
  exact ⟨t, (fun i => pts_one (p i)), s⟩
theorem lc_parts {elt tg iter : Expr} {ifs : List Expr} {scope : Scope} {vs : List Nat} {fi : M (List D)} {g : D → Env → Option Env} {gt : M Bool} {fe : M D} (L : Nat) (hc : ∀ i, (X i).calm = true) (hN : ∀ i, (X i).N.Nodup)
    (hi : ID X K W tg iter fi) (hg : GD (blkF X scope) K (prOf L vs) tg g) (ht : LD (blkF X scope) K ifs gt) (he : ED (blkF X scope) K W0 elt fe) :
    ∃ wi u tt te, (∀ i, PI (X i) tg iter wi) ∧ (∀ j, PG (blkF X scope j) tg u) ∧ (∀ j, PTs (blkF X scope j) ifs tt) ∧ (∀ j, PE (blkF X scope j) elt te) ∧ ∀ fr ρ σ H Q, Sim K fr ρ σ H → QE K W fr σ (eLcL L fi g gt fe vs ρ) Q → tLc wi u tt te vs σ H Q := by
  obtain ⟨wi, pi, si⟩ := hi.ex
  obtain ⟨u, p2, s2⟩ := hg.ex
  obtain ⟨tt, p3, s3⟩ := ht.ex
  obtain ⟨te, p4, s4⟩ := he.ex
  refine ⟨wi, u, tt, te, pi, p2, p3, p4, fun fr ρ σ H Q S q => ?_⟩
  refine si fr ρ σ H _ S ((QR.bind q).mono fun ds ρ1 q1 J H1 fr1 S1 back Y => ?_)
  by_cases hz : ds.length < sizeLine ∧ ρ1.length = L
  · simp only [hz, and_self, if_true] at q1
    obtain ⟨dl, ρe, e, q2⟩ := noX_ok q1
    obtain ⟨ys, ρe', e2, e3⟩ := mbind_ok e
    cases e3
    intro Dd hD
    have S0 : Sim K fr1 (some (.lst true []) :: ρ1) (some (.ref Dd) :: σ) (upd H1 Dd (.lst [])) := Sim.newL (ds := []) (vs := []) S1 rfl hD
    refine ⟨fun i m H2 => ∃ acc ρ2 ys ρe, i + m = ds.length ∧ acc.length ≤ i ∧ ρ2.length = L ∧ Sim K fr1 (some (.lst true acc) :: wipeE ρ2 vs) (some (.ref Dd) :: wipe σ vs) H2 ∧ lcGo g gt fe vs (ds.drop i) ρ2 = .ok ys ρe ∧
      ∀ v H, Sim K fr1 (some (.lst true (acc ++ ys)) :: ρe) (some v :: σ) H → Q v H, ⟨ds.length, [], ρ1, ys, _, by omega, Nat.le_refl _, hz.2, S0.wiped1 vs, e2, fun v H S => q2 v H (back _ _ _ S)⟩, ?_⟩
    rintro i m H2 ⟨acc, ρ2, ys, ρe, hm, ha, hL, S2, el, fin⟩
    by_cases hlt : i < ds.length
    · refine .inr ⟨Y.go i H2 _ _ S2 hlt, fun H' => ∃ acc ρ2 ys ρe, i + 1 + (m - 1) = ds.length ∧ acc.length ≤ i + 1 ∧ ρ2.length = L ∧ Sim K fr1 (some (.lst true acc) :: wipeE ρ2 vs) (some (.ref Dd) :: wipe σ vs) H' ∧ lcGo g gt fe vs (ds.drop (i + 1)) ρ2 = .ok ys ρe ∧
        ∀ v H, Sim K fr1 (some (.lst true (acc ++ ys)) :: ρe) (some v :: σ) H → Q v H, fun H' h => ⟨m - 1, by omega, h⟩, fun x H' hy => ?_⟩
      have hd : ds[i]? = some ds[i] := List.getElem?_eq_getElem hlt
      have S3 := (Y.yld i H2 x H' _ _ ds[i] S2 hd hy).xch
      obtain ⟨fr2, S4, back2⟩ := S3.hold
      rw [drop_get hd] at el
      unfold lcGo at el
      cases e1 : g ds[i] (wipeE ρ2 vs) with
      | none => rw [e1] at el; cases el
      | some ρ3 =>
        rw [e1] at el
        obtain ⟨b, ρ5, et, el⟩ := mbind_ok el
        have l3 : ρ3.length = L := by rw [hg.len _ _ _ e1, wipeE_len, hL]
        refine s2 fr2 (wipeE ρ2 vs) (wipe σ vs) H' ds[i] x ρ3 _ S4 e1 fun σ4 H4 k4 S5 => ?_
        have l4 : σ4.length = L := by rw [S5.len, l3]
        have lσ : σ.length = L := by
          have := S4.drop.len
          rw [wipe_length, wipeE_len, hL] at this
          exact this
        have hw : wipe σ4 vs = wipe σ vs := by
          rw [wipe_eq k4 (by rw [wipe_length, l4, lσ]) fun j hj hn => mem_prOf (by rw [wipe_length, lσ] at hj; exact hj) hn]
          have idem : ∀ (vs' : List Nat), (∀ j ∈ vs', j ∈ vs) → wipe (wipe σ vs) vs' = wipe σ vs := fun vs' => by
            induction vs' with
            | nil => exact fun _ => rfl
            | cons w ws ih =>
              intro h
              show (wipe (wipe σ vs) ws).set w none = _
              rw [ih fun j hj => h j (List.mem_cons_of_mem _ hj)]
              by_cases hwl : w < (wipe σ vs).length
              · refine set_self ?_
                have gs : ∀ (vs : List Nat) (i : Nat), i ∈ vs → i < σ.length → (wipe σ vs)[i]? = some none := fun vs i h hl => by
                  induction vs with
                  | nil => cases h
                  | cons v vs ih =>
                    show ((wipe σ vs).set v none)[i]? = some none
                    by_cases e : v = i
                    · subst e
                      rw [List.getElem?_set_self (by rw [wipe_length]; exact hl)]
                    · rw [List.getElem?_set_ne e]
                      rcases List.mem_cons.mp h with z | z
                      · exact absurd z.symm e
                      · exact ih z
                exact gs vs w (h w List.mem_cons_self) (by rw [wipe_length] at hwl; exact hwl)
              · exact List.set_eq_of_length_le (by omega)
          exact idem vs fun _ h => h
        refine ⟨hw, s3 fr2 ρ3 σ4 H4 _ S5 ?_⟩
        rw [et]
        show ∀ H, Sim K fr2 ρ5 σ4 H → _
        intro H5 S6
        have l5 : ρ5.length = L := by rw [← S6.len, l4]
        cases b with
        | false =>
          rw [if_neg Bool.false_ne_true] at el ⊢
          have S7 := (back2 _ _ _ S6).wiped1 vs
          rw [hw] at S7
          exact ⟨acc, ρ5, ys, ρe, by omega, by omega, l5, S7, el, fin⟩
        | true =>
          rw [if_pos rfl] at el ⊢
          obtain ⟨y, ρ6, ey, el⟩ := mbind_ok el
          obtain ⟨ys', ρ7, er, el⟩ := mbind_ok el
          cases el
          refine s4 fr2 ρ5 σ4 H5 _ S6 ?_
          rw [ey]
          show ∀ v H, Sim K fr2 (some y :: ρ6) (some v :: σ4) H → _
          intro v H6 S7
          have S8 := back2 _ _ _ S7
          obtain ⟨xs, hx, hl, S9⟩ := S8.append
          have l6 : ρ6.length = L := by
            have := S7.drop.len
            rw [← this, l4]
          refine ⟨xs, hx, by omega, acc ++ [y], ρ6, ys', ρe, by omega, by simp; omega, l6, ?_, er, ?_⟩
          · have := S9.wiped1 vs
            rw [hw] at this
            exact this
          · intro v H S
            exact fin v H (by simpa [List.append_assoc] using S)
    · rw [List.drop_eq_nil_of_le (by omega)] at el
      cases el
      refine .inl ⟨Y.stop i H2 _ _ S2 (by omega), fin _ _ ?_⟩
      rw [List.append_nil]
      exact S2.unwipe1
  · simp only [hz, if_false] at q1
    exact q1.elim
theorem ed_lc {elt tg iter : Expr} {ifs : List Expr} {scope : Scope} {own : List (Str × Nat)} {pos : Pos} {fi : M (List D)} {g : D → Env → Option Env} {gt : M Bool} {fe : M D} (L : Nat) (hc : ∀ i, (X i).calm = true) (hN : ∀ i, (X i).N.Nodup)
    (hi : ID X K W tg iter fi) (ok : ∀ i, BlkOk (X i).N (X i).env.scope scope own) (hg : GD (blkF X scope) K (prOf L (own.map (·.2))) tg g) (ht : LD (blkF X scope) K ifs gt) (he : ED (blkF X scope) K W0 elt fe)
    (hs : ∀ i x, foldedSetIterable iter (X i).env x = pure x := by intro _ _; rfl) : ED X K W (.ListComp elt [⟨tg, iter, ifs, 0⟩] scope pos) (eLcL L fi g gt fe (own.map (·.2))) := by
  obtain ⟨wi, u, tt, te, pi, p2, p3, p4, sm⟩ := lc_parts L hc hN hi hg ht he
  exact ⟨tLc wi u tt te (own.map (·.2)), (fun i => pe_lc (hc i) (hN i) (pi i) (ok i) (fun s H C cl fp => p2 (i, s, H, C, cl, fp)) (fun s H C cl fp => p3 (i, s, H, C, cl, fp)) (fun s H C cl fp => p4 (i, s, H, C, cl, fp)) (hs i)), sm⟩
/-- y = [..], y a local: stored within the comprehension's frame -/
theorem sd_setLc {elt tg iter : Expr} {ifs : List Expr} {scope : Scope} {own : List (Str × Nat)} {y : Str} {py pos spos : Pos} {pr : List Nat} {fi : M (List D)} {g : D → Env → Option Env} {gt : M Bool} {fe : M D} {i : Nat} (L : Nat) (hc : ∀ i, (X i).calm = true) (hN : ∀ i, (X i).N.Nodup)
    (hy : ∀ j, (X j).N[i]? = some y) (hyl : ∀ j, (X j).env.scope.names.lookup y = some .local) (hk : ∀ j, (X j).env.scope.kind = .function) (hl : (py.line == pos.line) = true) (ha : (scope.names.any fun (n, k) => n == y && (k == .local || k == .cell)) = false) (hp : i ∉ pr)
    (hi : ID X K W tg iter fi) (ok : ∀ i, BlkOk (X i).N (X i).env.scope scope own) (hg : GD (blkF X scope) K (prOf L (own.map (·.2))) tg g) (ht : LD (blkF X scope) K ifs gt) (he : ED (blkF X scope) K W0 elt fe)
    (hs : ∀ i x, foldedSetIterable iter (X i).env x = pure x := by intro _ _; rfl) : SD X K W pr (.Assign [.Name y py] (.ListComp elt [⟨tg, iter, ifs, 0⟩] scope pos) spos) (sAsg (eLcL L fi g gt fe (own.map (·.2))) (gSet i)) := by
  obtain ⟨wi, u, tt, te, pi, p2, p3, p4, sm⟩ := lc_parts L hc hN hi hg ht he
  refine ⟨tAsg (tLc wi u tt te (own.map (·.2))) (gName i), (fun j => ps_setLc (hc j) (hN j) (hy j) (hyl j) (sw_true (hk j) (hyl j) hl ha) (pi j) (ok j) (fun s H C cl fp => p2 (j, s, H, C, cl, fp)) (fun s H C cl fp => p3 (j, s, H, C, cl, fp)) (fun s H C cl fp => p4 (j, s, H, C, cl, fp)) (hs j)), fun fr ρ σ H Dn S q => ?_⟩
  show tLc wi u tt te (own.map (·.2)) σ H (fun x H1 => gName i x σ H1 Dn.nx)
  refine sm fr ρ σ H _ S (q.ofE.mono fun d ρ1 q1 v H1 S1 => ?_)
  unfold gSet at q1
  by_cases hi : i < ρ1.length
  · rw [if_pos hi] at q1
    exact q1 _ H1 (KeepS.set hp) (S1.store hi)
  · rw [if_neg hi] at q1
    exact q1.elim
theorem sd_setLcF {elt tg iter : Expr} {ifs : List Expr} {scope : Scope} {own : List (Str × Nat)} {y : Str} {py pos spos : Pos} {pr : List Nat} {fi : M (List D)} {g : D → Env → Option Env} {gt : M Bool} {fe : M D} {i : Nat} (L : Nat) (hc : ∀ i, (X i).calm = true) (hN : ∀ i, (X i).N.Nodup)
    (hy : ∀ j, (X j).N[i]? = some y) (hyl : ∀ j, (X j).env.scope.names.lookup y = some .local) (hk : ∀ j, (X j).env.scope.kind = .function) (hl : (py.line == pos.line) = true) (ha : (scope.names.any fun (n, k) => n == y && (k == .local || k == .cell)) = false) (hp : i ∉ pr)
    (hi : ID X K W tg iter fi) (ok : ∀ i, BlkOk (X i).N (X i).env.scope scope own) (hg : GD (blkF X scope) K (prOf L (own.map (·.2))) tg g) (ht : LD (blkF X scope) K ifs gt) (he : ED (blkF X scope) K W0 elt fe)
    (hs : ∀ i x, foldedSetIterable iter (X i).env x = pure x := by intro _ _; rfl) : SD X K W pr (.Assign [.Name y py] (.ListComp elt [⟨tg, iter, ifs, 0⟩] scope pos) spos) (sAsg (eFrz (eLcL L fi g gt fe (own.map (·.2)))) (gSet i)) := by
  obtain ⟨wi, u, tt, te, pi, p2, p3, p4, sm⟩ := lc_parts L hc hN hi hg ht he
  refine ⟨tAsg (tLc wi u tt te (own.map (·.2))) (gName i), (fun j => ps_setLc (hc j) (hN j) (hy j) (hyl j) (sw_true (hk j) (hyl j) hl ha) (pi j) (ok j) (fun s H C cl fp => p2 (j, s, H, C, cl, fp)) (fun s H C cl fp => p3 (j, s, H, C, cl, fp)) (fun s H C cl fp => p4 (j, s, H, C, cl, fp)) (hs j)), fun fr ρ σ H Dn S q => ?_⟩
  show tLc wi u tt te (own.map (·.2)) σ H (fun x H1 => gName i x σ H1 Dn.nx)
  refine sm fr ρ σ H _ S (q.ofE.bind.mono fun d ρ1 q1 v H1 S1 => ?_)
  have q1 : QS K W pr fr σ (match gSet i (frz d) ρ1 with | some ρ' => .nx ρ' | none => .stuck) Dn := q1
  unfold gSet at q1
  by_cases hi : i < ρ1.length
  · rw [if_pos hi] at q1
    exact q1 _ H1 (KeepS.set hp) (S1.frz.store hi)
  · rw [if_neg hi] at q1
    exact q1.elim
end
end DL

set_option Elab.async false
set_option linter.all false
set_option maxRecDepth 100000
set_option maxHeartbeats 4000000
namespace DL
open PySem PySem.Spec L2
/-! ### what a def promises -/
def outs (pr : List Nat) (n : Nat) (ρ : Env) : Env := (wipeE ρ ((List.range n).filter fun j => !pr.contains j)).take n
def spD (K : RC) (n : Nat) (F : List D → Res D) : Sp := fun vs H Q E => ∃ fr ds, vs.length = n ∧ ds.length = n ∧ Sim K fr (ds.map some) (vs.map some) H ∧ match F ds with
  | .ok d os => ∀ v H', Sim K fr (some d :: os) (some v :: vs.map some) H' → Q v H'
  | .exc c fs os => ∀ cls dd H', ExcR K.mg c fs cls dd H' → Sim K fr os (vs.map some) H' → E cls dd H'
  | .stuck => False
def runS (pr : List Nat) (n L : Nat) (b : SF) (ds : List D) : Res D := match b (ds.map some ++ List.replicate (L - ds.length) none) with
  | .nx ρ => if n ≤ ρ.length then .ok .non (outs pr n ρ) else .stuck
  | .ret d ρ => if n ≤ ρ.length then .ok d (outs pr n ρ) else .stuck
  | .exc c fs ρ => if n ≤ ρ.length then .exc c fs (outs pr n ρ) else .stuck
  | _ => .stuck
section
variable {K : RC} {fr : Fr} {ρ : Env} {σ : L2.St} {H : Hp}
theorem Sim.none_end (S : Sim K fr ρ σ H) (m : Nat) : Sim K fr (ρ ++ List.replicate m none) (σ ++ List.replicate m none) H := by
  obtain ⟨A, S⟩ := S
  have r : ∀ m, Sl K (hid (A ++ fr.N) H) H (List.replicate m none) (List.replicate m none) [] := fun m => by
    induction m with
    | zero => exact ⟨rfl, rfl⟩
    | succ m ih => exact ⟨none, _, [], [], rfl, rfl, rfl, ih⟩
  have z := Sl.app S.sl (r m)
  rw [List.append_nil] at z
  exact ⟨A, z, S.nd, S.off, S.keep, S.tr⟩
theorem Sim.any {τ : L2.St} (S : Sim K fr ρ σ H) (hl : τ.length = σ.length) (h : ∀ i : Nat, ρ[i]? ≠ some none → τ[i]? = σ[i]?) : Sim K fr ρ τ H := by
  obtain ⟨A, S⟩ := S
  exact ⟨A, S.sl.any hl h, S.nd, S.off, S.keep, S.tr⟩
theorem Sim.takeN (S : Sim K fr ρ σ H) (n : Nat) : Sim K fr (ρ.take n) (σ.take n) H := by
  have S' : Sim K fr (ρ.take n ++ ρ.drop n) (σ.take n ++ σ.drop n) H := by rw [List.take_append_drop, List.take_append_drop]; exact S
  have hl : (σ.take n).length = (ρ.take n).length := by rw [List.length_take, List.length_take, S.len]
  exact (S'.swap hl).dropN (by rw [List.length_drop, List.length_drop, S.len])
theorem Sim.outs {pr : List Nat} {n : Nat} {vs : List V} {m : Nat} (S : Sim K fr ρ σ H) (hn : vs.length = n) (k : KeepS pr (vs.map some ++ List.replicate m none) σ) (hl : n ≤ ρ.length) : Sim K fr (DL.outs pr n ρ) (vs.map some) H := by
  unfold DL.outs
  have S1 := (S.wiped ((List.range n).filter fun j => !pr.contains j)).takeN n
  refine S1.any (by rw [List.length_map, List.length_take, wipe_length, S.len, hn]; omega) fun i hi => ?_
  by_cases h : i < n
  · rw [List.getElem?_take_of_lt h] at hi
    by_cases hp : i ∈ pr
    · rw [List.getElem?_take_of_lt h, wipe_get (fun z => by
        have := (List.mem_filter.mp z).2
        simp [hp] at this), k i hp, List.getElem?_append_left (by rw [List.length_map]; omega)]
    · exact absurd (wipeE_none (List.mem_filter.mpr ⟨List.mem_range.mpr h, by simp [hp]⟩) (by omega)) hi
  · rw [List.getElem?_eq_none (by rw [List.length_map]; omega), List.getElem?_eq_none (by rw [List.length_take]; omega)]
end
section
variable {P : Program} {w : World} {K : PySem.W.Frag} {mg : Str → Option Value} {base : Heap}
/-- THE RULE for a def -/
theorem fnok_of {x qual : Str} {params : Arguments} {body : List Stmt} {scope : Scope} {dvs : List V} {kws : List (Str × V)} {f : Addr} {fd : FuncData} {N ps : List Str} {k : Nat} {pr : List Nat} {b : SF}
    (F : FunD K x qual params body scope dvs kws f fd) (S : FnScope N ps scope)
    (hb : ∀ (cdv : Value) (A : Around) (outer : List PySem.Env) (s : Shared) (H : Hp) (E : XK), Room k (A.deeper (PyProof.Rows.envOfC qual scope s.heap.objs.size f cdv)) →
      SDs (fun _ : Unit => cxOf (L2.CX P w) P w K mg base N qual scope f cdv A outer s H E) ⟨K, mg⟩ (fun cls d _ H => E cls d H) pr body b) : FnOk P w K mg base (L2.CX P w) (k + 1) f fd ps (spD ⟨K, mg⟩ ps.length (runS pr ps.length N.length b)) := by
  refine F.ok S (fun vs H Q E h => h.choose_spec.choose_spec.1) fun cdv A outer s H vs Q E hr h => ?_
  obtain ⟨t, p, sm⟩ := (hb cdv A outer s H E hr).ex
  obtain ⟨fr, ds, hv, hd, Sm, q⟩ := h
  refine ⟨t, p (), ?_⟩
  have hpl : ps.length ≤ N.length := by have := congrArg List.length S.pre; rw [List.length_take] at this; omega
  have S0 : Sim ⟨K, mg⟩ fr (ds.map some ++ List.replicate (N.length - ds.length) none) (L2.start N vs) H := by
    unfold L2.start
    rw [hd, hv]
    exact Sm.none_end _
  refine sm fr _ (L2.start N vs) H _ S0 ?_
  unfold runS at q
  have len : ∀ {ρ : Env} {σ : L2.St} {H' : Hp}, Sim ⟨K, mg⟩ fr ρ σ H' → KeepS pr (L2.start N vs) σ → ps.length ≤ ρ.length → Sim ⟨K, mg⟩ fr (outs pr ps.length ρ) (vs.map some) H' := fun {ρ σ H'} Sx k hl => by
    unfold L2.start at k
    exact Sx.outs hv k hl
  cases e : b (ds.map some ++ List.replicate (N.length - ds.length) none) with
  | nx ρ =>
    rw [e] at q
    by_cases hl : ps.length ≤ ρ.length
    · simp only [hl, if_true] at q
      exact fun σ H' k Sx => q .non H' ((len Sx k hl).pushF rfl)
    · simp only [hl, if_false] at q
  | ret d ρ =>
    rw [e] at q
    by_cases hl : ps.length ≤ ρ.length
    · simp only [hl, if_true] at q
      intro v σ H' k Sx
      obtain ⟨fr', Sy, back⟩ := Sx.hold
      refine q v H' (back _ _ _ ?_)
      unfold L2.start at k
      exact Sy.outs hv k hl
    · simp only [hl, if_false] at q
  | exc c fs ρ =>
    rw [e] at q
    by_cases hl : ps.length ≤ ρ.length
    · simp only [hl, if_true] at q
      exact fun cls dd σ H' k xx Sx => q cls dd H' xx (len Sx k hl)
    · simp only [hl, if_false] at q
  | brk ρ => rw [e] at q; exact q.elim
  | cnt ρ => rw [e] at q; exact q.elim
  | stuck => rw [e] at q; exact q.elim
end
/-- a def of the text: what it computes -/
def FnD (P : Program) (w : World) (K : PySem.W.Frag) (mg : Str → Option Value) (base : Heap) (k : Nat) (x : Str) (n : Nat) (dfl : List D) (F : List D → Res D) : Prop :=
  ∃ f fd ps ds, mg x = some (.ref f) ∧ PySem.W.keepIn K (.ref f) = true ∧ Binds K fd ps ds ∧ Vals (dfl.map toV) ds ∧ (∀ d ∈ dfl, (flat d).isSome = true) ∧ ps.length = n ∧ FnOk P w K mg base (L2.CX P w) k f fd ps (spD ⟨K, mg⟩ n F)
abbrev FnX (X : Cx) := FnD X.prog X.w X.K X.mg X.base
/-! ### calls -/
def restore : List (Nat × Nat) → Env → Env → Env
  | [], _, ρ => ρ
  | (j, i) :: rs, os, ρ => match os[j]? with
    | some (some d) => restore rs (os.set j none) (ρ.set i (some d))
    | _ => restore rs os ρ
def eCall (F : List D → Res D) (fa : M (List D)) (dfl : List D) (rs : List (Nat × Nat)) : M D := mbind fa fun ds ρ => match F (ds ++ dfl) with
  | .ok d os => .ok d (restore rs os ρ)
  | .exc c fs os => .exc c fs (restore rs os ρ)
  | .stuck => .stuck
/-- arguments, of which those in rs are handed over by their slots -/
def QM (K : RC) (W : WX) (fr : Fr) (σ : L2.St) (rs : List (Nat × Nat)) (r : Res (List D)) (Q : List V → Hp → Prop) : Prop :=
  QR K W fr σ r fun ds ρ => ∀ vs H, vs.length = ds.length → (∀ p ∈ rs, ∃ v, vs[p.1]? = some v ∧ σ[p.2]? = some (some v)) → Sim K fr (ds.map some ++ ρ) (vs.map some ++ σ) H → Q vs H
structure AM {ι : Type} (X : ι → Cx) (K : RC) (W : WX) (es : List Expr) (f : M (List D)) (rs : List (Nat × Nat)) : Prop where
  ex : ∃ t, (∀ i, PA (X i) es t) ∧ ∀ fr ρ σ H Q, Sim K fr ρ σ H → QM K W fr σ rs (f ρ) Q → t σ H Q
def shift (rs : List (Nat × Nat)) : List (Nat × Nat) := rs.map fun p => (p.1 + 1, p.2)
section
variable {ι : Type} {X : ι → Cx} {K : RC} {W : WX} {e : Expr} {es : List Expr} {f : M D} {g : M (List D)} {rs : List (Nat × Nat)} {pos : Pos}
theorem am_nil : AM X K W [] aNil [] := ⟨tNil, (fun _ => pa_nil), fun fr ρ σ H Q S q => q [] H rfl (fun _ z => nomatch z) S⟩
theorem am_cons (h : ED X K W e f) (hr : AM X K W es g rs) (hs : ∀ i, starEach (e :: es) (X i).env = (false, eval e (X i).env) :: starEach es (X i).env := by intro _; rfl) : AM X K W (e :: es) (aCons f g) (shift rs) := by
  obtain ⟨t, p, s⟩ := h.ex
  obtain ⟨u, p2, s2⟩ := hr.ex
  refine ⟨tCons t u, (fun i => pa_cons (p i) (p2 i) (hs i)), fun fr ρ σ H Q S q => ?_⟩
  refine s fr ρ σ H _ S ((QR.bind q).mono fun d ρ1 q1 v H1 S1 => ?_)
  obtain ⟨fr', S', back⟩ := S1.hold
  refine s2 fr' ρ1 σ H1 _ S' (((QR.bind q1).frame fun ρ H s => (back ρ σ H s).drop).mono fun ds ρ2 q2 vs H2 hl hrs S2 => ?_)
  refine q2 (v :: vs) H2 (by simp [hl]) (fun p hp => ?_) (back _ _ H2 S2)
  obtain ⟨p', hp', rfl⟩ := List.mem_map.mp hp
  obtain ⟨u, h1, h2⟩ := hrs p' hp'
  exact ⟨u, by simpa using h1, h2⟩
theorem am_mv (i : Nat) {x : Str} (h : ∀ j, PE (X j) (.Name x pos) (tVar i)) (hr : AM X K W es g rs) (hs : ∀ i, starEach (.Name x pos :: es) (X i).env = (false, eval (.Name x pos) (X i).env) :: starEach es (X i).env := by intro _; rfl) : AM X K W (.Name x pos :: es) (aCons (eMove i) g) ((0, i) :: shift rs) := by
  obtain ⟨u, p2, s2⟩ := hr.ex
  refine ⟨tCons (tVar i) u, (fun j => pa_cons (h j) (p2 j) (hs j)), fun fr ρ σ H Q S q => ?_⟩
  have q0 := QR.bind q
  unfold eMove at q0
  cases e : ρ[i]? with
  | none => rw [e] at q0; exact q0.elim
  | some o => cases o with
    | none => rw [e] at q0; exact q0.elim
    | some d =>
      rw [e] at q0
      obtain ⟨v, e1, S1⟩ := S.move e
      refine ⟨v, e1, ?_⟩
      obtain ⟨fr', S', back⟩ := S1.hold
      refine s2 fr' _ σ H _ S' (((QR.bind q0).frame fun ρ H s => (back ρ σ H s).drop).mono fun ds ρ2 q2 vs H2 hl hrs S2 => ?_)
      refine q2 (v :: vs) H2 (by simp [hl]) (fun p hp => ?_) (back _ _ H2 S2)
      rcases List.mem_cons.mp hp with z | hp
      · subst z; exact ⟨v, rfl, e1⟩
      · obtain ⟨p', hp', rfl⟩ := List.mem_map.mp hp
        obtain ⟨u, h1, h2⟩ := hrs p' hp'
        exact ⟨u, by simpa using h1, h2⟩
theorem getElem?_app {α : Type} {a b : List α} {i : Nat} {x : α} (h : a[i]? = some x) : (a ++ b)[i]? = some x := by
  rw [List.getElem?_append_left (List.getElem?_eq_some_iff.mp h).1, h]
/-- what was handed over is put back -/
theorem Sim.restore {fr : Fr} {σ : L2.St} {H : Hp} {vs : List V} : ∀ {rs : List (Nat × Nat)} {os ρ : Env}, os.length = vs.length → (∀ p ∈ rs, ∃ v, vs[p.1]? = some v ∧ σ[p.2]? = some (some v)) → Sim K fr (os ++ ρ) (vs.map some ++ σ) H → Sim K fr (DL.restore rs os ρ) σ H
  | [], os, ρ, hl, _, S => S.dropN (by rw [List.length_map, hl])
  | (j, i) :: rs, os, ρ, hl, h, S => by
    unfold DL.restore
    have h' : ∀ p ∈ rs, ∃ v, vs[p.1]? = some v ∧ σ[p.2]? = some (some v) := fun p hp => h p (List.mem_cons_of_mem _ hp)
    cases e : os[j]? with
    | none => exact Sim.restore hl h' S
    | some o => cases o with
      | none => exact Sim.restore hl h' S
      | some d =>
        obtain ⟨v, hv, hs⟩ := h (j, i) List.mem_cons_self
        obtain ⟨v', e1, S1⟩ := S.move (getElem?_app e)
        have ev : v' = v := by
          have z : (vs.map some ++ σ)[j]? = some (some v) := getElem?_app (by rw [List.getElem?_map, hv]; rfl)
          rw [z] at e1
          cases e1
          rfl
        subst ev
        have hj : j < os.length := (List.getElem?_eq_some_iff.mp e).1
        rw [List.set_append_left _ _ hj] at S1
        have hi : (vs.map some ++ σ)[vs.length + i]? = some (some v') := by
          rw [List.getElem?_append_right (by rw [List.length_map]; omega), List.length_map, Nat.add_sub_cancel_left, hs]
        have S2 := S1.back hi
        rw [List.set_append_right _ _ (by rw [List.length_set, hl]; omega), List.length_set, hl, Nat.add_sub_cancel_left] at S2
        exact Sim.restore (by rw [List.length_set, hl]) h' S2
/-- flat values at the end -/
theorem Sim.flats {fr : Fr} {ρ : Env} {σ : L2.St} {H : Hp} (S : Sim K fr ρ σ H) : ∀ dfl : List D, (∀ d ∈ dfl, (flat d).isSome = true) → Sim K fr (ρ ++ dfl.map some) (σ ++ (dfl.map toV).map some) H := fun dfl h => by
  obtain ⟨A, S⟩ := S
  have r : ∀ dfl : List D, (∀ d ∈ dfl, (flat d).isSome = true) → Sl K (hid (A ++ fr.N) H) H (dfl.map some) ((dfl.map toV).map some) [] := fun dfl => by
    induction dfl with
    | nil => exact fun _ => ⟨rfl, rfl⟩
    | cons d ds ih =>
      intro h
      obtain ⟨v, hv⟩ := Option.isSome_iff_exists.mp (h d List.mem_cons_self)
      refine ⟨some (toV d), _, [], [], rfl, rfl, ⟨toV d, rfl, flat_rep ?_⟩, ih fun d hd => h d (List.mem_cons_of_mem _ hd)⟩
      unfold toV
      rw [hv]
      rfl
  have z := Sl.app S.sl (r dfl h)
  rw [List.append_nil] at z
  exact ⟨A, z, S.nd, S.off, S.keep, S.tr⟩
theorem sim_call {n : Nat} {F : List D → Res D} {dfl : List D} {t : TA} (hd : ∀ d ∈ dfl, (flat d).isSome = true) (s : ∀ fr ρ σ H Q, Sim K fr ρ σ H → QM K W fr σ rs (g ρ) Q → t σ H Q) (hn : ∀ ρ ds ρ', g ρ = .ok ds ρ' → (ds ++ dfl).length = n) {fr : Fr} {ρ : Env} {σ : L2.St} {H : Hp} {Q : VK}
    (S : Sim K fr ρ σ H) (q : QE K W fr σ (eCall F g dfl rs ρ) Q) : tCallSD (spD K n F) (dfl.map toV) (WE W) t σ H Q := by
  have hq : QR K W fr σ (g ρ) fun ds ρ1 => g ρ = .ok ds ρ1 ∧ QE K W fr σ (match F (ds ++ dfl) with
    | .ok d os => .ok d (restore rs os ρ1)
    | .exc c fs os => .exc c fs (restore rs os ρ1)
    | .stuck => .stuck) Q := by
    have := QR.bind q
    cases e : g ρ with
    | ok ds ρ1 => rw [e] at this; exact ⟨rfl, this⟩
    | exc c fs ρ1 => rw [e] at this; exact this
    | stuck => rw [e] at this; exact this
  refine s fr ρ σ H _ S (hq.mono fun ds ρ1 ⟨e, q1⟩ vs H1 hl hrs S1 => ?_)
  have hN := hn ρ ds ρ1 e
  rw [List.length_append] at hN
  have S2 : Sim K fr ((ds ++ dfl).map some ++ ρ1) ((vs ++ dfl.map toV).map some ++ σ) H1 := by
    have hl2 : (vs.map some).length = (ds.map some).length := by rw [List.length_map, List.length_map, hl]
    have z1 : Sim K fr (ρ1 ++ ds.map some) (σ ++ vs.map some) H1 := S1.swap hl2
    have z2 := z1.flats dfl hd
    rw [List.append_assoc, List.append_assoc] at z2
    have z3 := z2.swap (ρ1 := ρ1) (σ1 := σ) (S1.dropN hl2).len
    rw [← List.map_append, ← List.map_append] at z3
    exact z3
  have hlv : (vs ++ dfl.map toV).length = (ds ++ dfl).length := by rw [List.length_append, List.length_append, List.length_map, hl]
  obtain ⟨fr', S3, back⟩ := Sim.frame (by rw [List.length_map, List.length_map, hlv]) S2
  refine ⟨fr', ds ++ dfl, by rw [hlv, List.length_append]; exact hN, by rw [List.length_append]; exact hN, S3, ?_⟩
  have hrs' : ∀ p ∈ rs, ∃ v, (vs ++ dfl.map toV)[p.1]? = some v ∧ σ[p.2]? = some (some v) := fun p hp => by
    obtain ⟨v, h1, h2⟩ := hrs p hp
    exact ⟨v, getElem?_app h1, h2⟩
  cases eF : F (ds ++ dfl) with
  | ok d os =>
    rw [eF] at q1
    intro v H' S4
    have S5 := back _ _ _ S4
    have ho : os.length = (vs ++ dfl.map toV).length := by
      have := S4.len
      simp only [List.length_cons, List.length_map] at this
      omega
    obtain ⟨fr2, S6, back2⟩ := Sim.hold (x := some d) (s := some v) S5
    exact q1 v H' (back2 _ _ _ (S6.restore ho hrs'))
  | exc c fs os =>
    rw [eF] at q1
    intro cls dd H' xx S4
    have ho : os.length = (vs ++ dfl.map toV).length := by
      have := S4.len
      simp only [List.length_map] at this
      omega
    exact q1 cls dd H' xx ((back _ _ _ S4).restore ho hrs')
  | stuck => rw [eF] at q1; exact q1.elim
theorem pe_call0S {X : Cx} {CX : CXT} {k : Nat} {f : Addr} {fd : FuncData} {ps : List Str} {sp : Sp} {dvs : List V} {ds : List Value} {E : L2.St → XK} {x : Str} {p pos : Pos} (F : FnOk X.prog X.w X.K X.mg X.base CX k f fd ps sp) (hr : Room k X.A) (hg : Gl X x) (hm : X.mg x = some (.ref f)) (hk : PySem.W.keepIn X.K (.ref f) = true) (hb : Binds X.K fd ps ds) (hd : Vals dvs ds) (hx : ∀ σ, PassesAt CX X σ (E σ))
    (hdb : (x == ("__debug__" : Str)) = false := by decide) : PE X (.Call (.Name x p) [] [] pos) (tCallSD sp dvs E tNil) := by
  refine ⟨fun pins s σ H Q I h => ?_⟩
  refine wpAny_Call_Name_kw (ld_glob I hg hm ?_ hdb)
  exact PySem.W.callWith_K0 I.kIn hk (run_fnSD (us := []) F hr hb hd (hx σ) I .nil h)
/-- f(e, ..) -/
theorem ed_call {k n : Nat} {x : Str} {F : List D → Res D} {dfl : List D} {p : Pos} (h : ∀ i, FnX (X i) k x n dfl F) (hK : ∀ i, rc (X i) = K) (hr : ∀ i, Room k (X i).A) (hg : ∀ i, Gl (X i) x) (tk : ∀ i, Takes (X i) W) (ha : AM X K W (e :: es) g rs)
    (hn : ∀ ρ ds ρ', g ρ = .ok ds ρ' → (ds ++ dfl).length = n) (hdb : (x == ("__debug__" : Str)) = false := by decide) (hd : ∀ d ∈ dfl, (flat d).isSome = true := by simp [flat])
    (he : ∀ i, starEach (e :: es) (X i).env = (false, eval e (X i).env) :: starEach es (X i).env := by intro _; rfl) (hpl : ∀ i, (backTo pos (starEach es (X i).env)).any (·.1) = false := by intro _; rfl) : ED X K W (.Call (.Name x p) (e :: es) [] pos) (eCall F g dfl rs) := by
  obtain ⟨t, pa, s⟩ := ha.ex
  refine ⟨tCallSD (spD K n F) (dfl.map toV) (WE W) t, (fun i => ?_), fun fr ρ σ H Q S q => ?_⟩
  · obtain ⟨f, fd, ps, ds, hm, hk, hb, hv, _, hl, hF⟩ := h i
    rw [← hK i]
    exact pe_callSD hF (hr i) (hg i) hm hk hb hv (fun σ => passAt (tk i) σ) (pa i) hdb (he i) (hpl i)
  · exact sim_call hd s hn S q
theorem ed_call0 {k n : Nat} {x : Str} {F : List D → Res D} {dfl : List D} {p : Pos} (h : ∀ i, FnX (X i) k x n dfl F) (hK : ∀ i, rc (X i) = K) (hr : ∀ i, Room k (X i).A) (hg : ∀ i, Gl (X i) x) (tk : ∀ i, Takes (X i) W)
    (hn : dfl.length = n) (hdb : (x == ("__debug__" : Str)) = false := by decide) (hd : ∀ d ∈ dfl, (flat d).isSome = true := by simp [flat]) : ED X K W (.Call (.Name x p) [] [] pos) (eCall F aNil dfl []) := by
  obtain ⟨t, pa, s⟩ := (am_nil (X := X) (K := K) (W := W)).ex
  refine ⟨tCallSD (spD K n F) (dfl.map toV) (WE W) tNil, (fun i => ?_), fun fr ρ σ H Q S q => ?_⟩
  · obtain ⟨f, fd, ps, ds, hm, hk, hb, hv, _, hl, hF⟩ := h i
    rw [← hK i]
    exact pe_call0S hF (hr i) (hg i) hm hk hb hv (fun σ => passAt (tk i) σ) hdb
  · exact sim_call (t := tNil) (g := aNil) (rs := []) hd (fun fr ρ σ H Q S q => q [] H rfl (fun _ z => nomatch z) S) (fun ρ ds ρ' e => by cases e; simpa using hn) S q
end
/-! ### raise -/
theorem pmk_own0 {X : Cx} {C : Addr} {bmB : List Value} {B newId initId : String} {x : Str} {p pos : Pos} (F : ExcBaseFacts B newId initId bmB) (q : PySem.W.excIn X.K C bmB newId = true) (gC : X.mg x = some (.ref C))
    (kC : PySem.W.keepIn X.K (.ref C) = true) (r : Raises X (.ref C)) (hg : Gl X x) (hdb : (x == ("__debug__" : Str)) = false := by decide) :
    PMk X (.Call (.Name x p) [] [] pos) (fun σ H Q => Q (.ref C) none H) := by
  intro pins s σ H Q I h
  refine wpAny_Call_Name_kw (ld_glob I hg gC ?_ hdb)
  refine PySem.W.callWith_K0 I.kIn kC ?_
  show wpAny _ _ (call (.ref C) []) _ _ _
  obtain ⟨bm, N, nm, qn, bs, hdct, sn, sub, ab, col, dd, k0, k1, k2, k3, k5, mN, hC, hN, hni, T⟩ := exc_obj I.kIn q
  refine wpAny_call_exc_subT F T hC hN hni (fun h' e hm => ?_) (by rw [sizeLine_eq]; exact Nat.zero_le _)
  exact mk_of I hm r h (I.hok.gone hm.new)
end DL

set_option Elab.async false
set_option linter.all false
set_option maxRecDepth 100000
set_option maxHeartbeats 4000000
namespace DL
open PySem PySem.Spec L2
/-! facts of the contexts -/
structure CF {ι : Type} (X : ι → Cx) (K : RC) (W : WX) (k : Nat) : Prop where
  K : ∀ i, rc (X i) = K
  calm : ∀ i, (X i).calm = true
  room : ∀ i, Room k (X i).A
  tk : ∀ i, Takes (X i) W
  nd : ∀ i, (X i).N.Nodup
section
variable {ι : Type} {X : ι → Cx} {K : RC} {W : WX} {k : Nat}
theorem CF.kk (c : CF X K W k) (i : ι) : (X i).K = K.K := congrArg RC.K (c.K i)
theorem CF.mg (c : CF X K W k) (i : ι) : (X i).mg = K.mg := congrArg RC.mg (c.K i)
theorem CF.blk (c : CF X K W k) (scope : Scope) : CF (blkF X scope) K W0 k where
  K := fun j => c.K j.1
  calm := fun j => c.calm j.1
  room := fun j => c.room j.1
  tk := fun j => takes0
  nd := fun j => c.nd j.1
end
mutual
theorem Rep.frz_id {K : RC} {F H : Hp} : ∀ (d : D) (v : V), Rep K F H d v [] → frz d = d
  | .non, _, _ => rfl
  | .bl _, _, _ => rfl
  | .int _, _, _ => rfl
  | .str _, _, _ => rfl
  | .adr _, _, _ => rfl
  | .scr _, _, _ => rfl
  | .tup _, _, _ => rfl
  | .lst false ds, v, r => by
    obtain ⟨_, a, xs, _, _, r⟩ := r
    show D.lst false (frzL ds) = _
    rw [RepL.frz_id ds xs r]
  | .lst true ds, v, r => by obtain ⟨_, _, _, _, e, _⟩ := r; cases e
  | .dk false ks ds, v, r => by
    obtain ⟨_, a, kvs, _, _, _, r⟩ := r
    show D.dk false ks (frzL ds) = _
    rw [RepL.frz_id ds _ r]
  | .dk true ks ds, v, r => by obtain ⟨_, _, _, _, e, _⟩ := r; cases e
  | .dt false ks ds, v, r => by
    obtain ⟨_, a, kvs, _, _, _, r⟩ := r
    show D.dt false ks (frzL ds) = _
    rw [RepL.frz_id ds _ r]
  | .dt true ks ds, v, r => by obtain ⟨_, _, _, _, e, _⟩ := r; cases e
  | .obj false c ns ds, v, r => by
    obtain ⟨_, a, C, dx, fs, _, _, _, _, r⟩ := r
    show D.obj false c ns (frzL ds) = _
    rw [RepL.frz_id ds _ r]
  | .obj true c ns ds, v, r => by obtain ⟨_, _, _, _, _, _, e, _⟩ := r; cases e
theorem RepL.frz_id {K : RC} {F H : Hp} : ∀ (ds : List D) (vs : List V), RepL K F H ds vs [] → frzL ds = ds
  | [], _, _ => rfl
  | d :: ds, vs, r => by
    obtain ⟨v, ws, B, C, rfl, e, r1, r2⟩ := r
    have e1 := (List.append_eq_nil_iff.mp e.symm).1
    have e2 := (List.append_eq_nil_iff.mp e.symm).2
    subst e1 e2
    show frz d :: frzL ds = _
    rw [Rep.frz_id d v r1, RepL.frz_id ds ws r2]
end
section
variable {K : RC} {fr : Fr} {ρ : Env} {σ : L2.St} {H : Hp} {d : D} {v : V} {ds : List D} {vs : List V}
theorem Sim.tup_frz (S : Sim K fr (some (.tup ds) :: ρ) (some v :: σ) H) : frzL ds = ds := by
  obtain ⟨F, B, r, _⟩ := S.top
  obtain ⟨_, a, xs, _, _, r⟩ := r
  exact RepL.frz_id ds xs r
theorem frzL_app (a b : List D) : frzL (a ++ b) = frzL a ++ frzL b := by
  induction a with
  | nil => rfl
  | cons x a ih => show frz x :: frzL (a ++ b) = _; rw [ih]; rfl
/-- the second one taken apart -/
theorem Sim.explode2 {d2 : D} {v2 : V} (S : Sim K fr (some d2 :: some d :: ρ) (some v2 :: some v :: σ) H) (e : items d = some ds) : ∃ p xs, v = .ref p ∧ xs.length = ds.length ∧ (if isL d = true then SqL K.K H p xs else SqT K.K H p xs) ∧
    ((∀ o es, d = .lst o es → H p = some (.lst xs)) ∧ Sim K fr (some d2 :: (ds.map some ++ ρ)) (some v2 :: (xs.map some ++ σ)) H) := by
  obtain ⟨fr', S', back⟩ := S.hold
  obtain ⟨p, xs, h1, h2, h3, h4, S2⟩ := S'.explode e
  exact ⟨p, xs, h1, h2, h3, h4, back _ _ _ S2⟩
theorem Sim.pick {j : Nat} (S : Sim K fr (ds.map some ++ ρ) (vs.map some ++ σ) H) (hl : vs.length = ds.length) (e : ds[j]? = some d) : ∃ v, vs[j]? = some v ∧ Sim K fr (some d :: ρ) (some v :: σ) H := by
  obtain ⟨v, e1, S1⟩ := S.move (getElem?_app (a := ds.map some) (b := ρ) (by rw [List.getElem?_map, e]; rfl))
  have hj : j < ds.length := (List.getElem?_eq_some_iff.mp e).1
  rw [List.getElem?_append_left (by rw [List.length_map, hl]; exact hj), List.getElem?_map] at e1
  cases ev : vs[j]? with
  | none => rw [ev] at e1; cases e1
  | some u =>
    rw [ev] at e1
    have e1 : some (some u) = some (some v) := e1
    cases e1
    refine ⟨_, rfl, ?_⟩
    rw [List.set_append_left _ _ (by rw [List.length_map]; exact hj)] at S1
    obtain ⟨fr', S2, back⟩ := S1.hold
    exact back _ _ _ (S2.dropN (by rw [List.length_set, List.length_map, List.length_map, hl]))
end
section
variable {K : RC} {fr : Fr} {ρ : Env} {σ : L2.St} {H : Hp}
theorem Sim.flip {A B : Env} {α β : L2.St} (ha : α.length = A.length) (hb : β.length = B.length) (S : Sim K fr (A ++ (B ++ ρ)) (α ++ (β ++ σ)) H) : Sim K fr (B ++ (A ++ ρ)) (β ++ (α ++ σ)) H := by
  have S1 := S.swap ha
  rw [List.append_assoc, List.append_assoc] at S1
  obtain ⟨fr', S2, back⟩ := S1.holdN hb
  refine back _ _ _ (S2.swap ?_)
  have h1 := S.len
  simp only [List.length_append] at h1
  omega
theorem Sim.explode22 {dx dy : D} {vx vy : V} {xs ys : List D} (S : Sim K fr (some dy :: some dx :: ρ) (some vy :: some vx :: σ) H) (ey : items dy = some ys) (ex : items dx = some xs) :
    ∃ p us q ws, vy = .ref p ∧ vx = .ref q ∧ us.length = ys.length ∧ ws.length = xs.length ∧ (if isL dy = true then SqL K.K H p us else SqT K.K H p us) ∧ (if isL dx = true then SqL K.K H q ws else SqT K.K H q ws) ∧
      (∀ o es, dy = .lst o es → H p = some (.lst us)) ∧ (∀ o es, dx = .lst o es → H q = some (.lst ws)) ∧ Sim K fr (xs.map some ++ (ys.map some ++ ρ)) (ws.map some ++ (us.map some ++ σ)) H := by
  obtain ⟨p, us, h1, h2, h3, h4, S2⟩ := S.explode ey
  obtain ⟨fr', S3, back⟩ := S2.holdN (by rw [List.length_map, List.length_map, h2])
  obtain ⟨q, ws, h5, h6, h7, h8, S4⟩ := S3.explode ex
  exact ⟨p, us, q, ws, h1, h5, h2, h6, h3, h7, h4, h8, (back _ _ _ S4).flip (by simp [h2]) (by simp [h6])⟩
end
/-! ### evaluated with everything frozen; the answer flat -/
theorem Sl.frzA {K : RC} {F F' H : Hp} (h : ∀ a o, F a = some o → F' a = some o) : ∀ {ρ : Env} {σ : L2.St} {A : List Addr}, (∀ a ∈ A, ∀ o, H a = some o → F' a = some o) → Sl K F H ρ σ A → Sl K F' H (ρ.map (Option.map DL.frz)) σ []
  | [], σ, A, _, r => ⟨r.1, rfl⟩
  | x :: ρ, σ, A, k, r => by
    obtain ⟨s, τ, B, C, rfl, rfl, r1, r2⟩ := r
    refine ⟨s, τ, [], [], rfl, rfl, ?_, Sl.frzA h (fun a z => k a (List.mem_append_right _ z)) r2⟩
    cases x with
    | none => rfl
    | some d =>
      obtain ⟨v, e, r1⟩ := r1
      exact ⟨v, e, Rep.frz h d v B (fun a z => k a (List.mem_append_left _ z)) r1⟩
theorem Sim.frzAll {K : RC} {fr : Fr} {ρ : Env} {σ : L2.St} {H : Hp} (S : Sim K fr ρ σ H) : Sim K ⟨H, fr.N⟩ (ρ.map (Option.map DL.frz)) σ H := by
  obtain ⟨A, S⟩ := S
  refine ⟨[], ?_, .nil, (fun _ z => nomatch z), fun _ _ e => e, fun a z => ?_⟩
  · refine Sl.frzA (fun a o e => ?_) (fun a z o e => ?_) S.sl
    · rw [hid_some] at e ⊢
      exact ⟨fun w => e.1 (List.mem_append_right _ (by simpa using w)), e.2⟩
    · exact hid_some.mpr ⟨fun w => (S.off a z).1 (by simpa using w), e⟩
  · obtain ⟨o, e⟩ := S.tr a z
    exact ⟨o, S.keep a o e⟩
theorem Sim.keepG {K : RC} {fr : Fr} {ρ : Env} {σ : L2.St} {H : Hp} (S : Sim K fr ρ σ H) : ∀ a o, fr.G a = some o → H a = some o := let ⟨_, S⟩ := S; S.keep
def eBor (f : M D) : M D := fun ρ => match f (ρ.map (Option.map frz)) with
  | .ok d _ => if (flat d).isSome = true then .ok d ρ else .stuck
  | .exc c fs _ => .exc c fs ρ
  | .stuck => .stuck
section
variable {ι : Type} {X : ι → Cx} {K : RC} {W : WX} {k : Nat} {e a b : Expr} {es : List Expr} {f fa fb : M D} {g : M (List D)} {pos : Pos}
theorem ed_bor (h : ED X K W e f) : ED X K W e (eBor f) := by
  obtain ⟨t, p, s⟩ := h.ex
  refine ⟨t, p, fun fr ρ σ H Q S q => s _ _ σ H Q S.frzAll ?_⟩
  unfold eBor at q
  cases ef : f (ρ.map (Option.map frz)) with
  | ok d ρ' =>
    rw [ef] at q
    by_cases hf : (flat d).isSome = true
    · simp only [hf, if_true] at q
      obtain ⟨u, hu⟩ := Option.isSome_iff_exists.mp hf
      intro v H' S'
      have := S'.topF hu
      subst this
      exact q v H' ((S.grow S'.keepG).pushF hu)
    · simp only [hf] at q
      exact q.elim
  | exc c fs ρ' =>
    rw [ef] at q
    exact fun cls dd H' xx S' => q cls dd H' xx (S.grow S'.keepG)
  | stuck => rw [ef] at q; exact q.elim
theorem td_bor {f : M Bool} (h : TD X K W e f) : TD X K W e (fun ρ => match f (ρ.map (Option.map frz)) with
  | .ok b _ => .ok b ρ
  | .exc c fs _ => .exc c fs ρ
  | .stuck => .stuck) := by
  obtain ⟨t, p, s⟩ := h.ex
  refine ⟨t, p, fun fr ρ σ H Q S q => s _ _ σ H Q S.frzAll ?_⟩
  cases ef : f (ρ.map (Option.map frz)) with
  | ok d ρ' =>
    rw [ef] at q
    exact fun H' S' => q H' (S.grow S'.keepG)
  | exc c fs ρ' =>
    rw [ef] at q
    exact fun cls dd H' xx S' => q cls dd H' xx (S.grow S'.keepG)
  | stuck => rw [ef] at q; exact q.elim
/-! ### built-ins by values -/
def CaS (K : RC) (r : List V → Hp → VK → Prop) (F : List D → Option D) : Prop := ∀ fr ρ σ H ds vs d Q, vs.length = ds.length → Sim K fr (ds.map some ++ ρ) (vs.map some ++ σ) H → F ds = some d →
  (∀ v H', Sim K fr (some d :: ρ) (some v :: σ) H' → Q v H') → r vs H Q
def eBi (F : List D → Option D) (g : M (List D)) : M D := mbind g fun ds => mlift (F ds)
theorem sim_tCB {r : List V → Hp → VK → Prop} {F : List D → Option D} {t : TA} (ho : CaS K r F) (s : ∀ fr ρ σ H Q, Sim K fr ρ σ H → QM K W fr σ [] (g ρ) Q → t σ H Q) {fr : Fr} {ρ : Env} {σ : L2.St} {H : Hp} {Q : VK} (S : Sim K fr ρ σ H) (q : QE K W fr σ (eBi F g ρ) Q) : tCB r t σ H Q := by
  refine s fr ρ σ H _ S ((QR.bind q).mono fun ds ρ1 q1 vs H1 hl _ S1 => ?_)
  obtain ⟨d, e, q2⟩ := QR.lift q1
  exact ho fr ρ1 σ H1 ds vs d Q hl S1 e q2
theorem ed_bi {x : Str} {id : String} {p : Pos} {r : List V → Hp → VK → Prop} {F : List D → Option D} (c : CF X K W k) (hc : ∀ i, CallR (X i) (.builtin id) r) (ho : CaS K r F) (hg : ∀ i, Gl (X i) x) (hm : K.mg x = none) (hv : bootBuiltins x = some (.builtin id)) (ha : AM X K W (e :: es) g [])
    (hn : x ≠ "__name__" := by decide) (hdb : (x == ("__debug__" : Str)) = false := by decide) (he : ∀ i, starEach (e :: es) (X i).env = (false, eval e (X i).env) :: starEach es (X i).env := by intro _; rfl) (hpl : ∀ i, (backTo pos (starEach es (X i).env)).any (·.1) = false := by intro _; rfl) :
    ED X K W (.Call (.Name x p) (e :: es) [] pos) (eBi F g) := by
  obtain ⟨t, pa, s⟩ := ha.ex
  exact ⟨tCB r t, (fun i => pe_callB (hc i) (hg i) (by rw [c.mg i]; exact hm) hv (pa i) hn hdb (he i) (hpl i)), fun fr ρ σ H Q S q => sim_tCB ho s S q⟩
theorem ed_ty {x : Str} {T : String} {p : Pos} {r : List V → Hp → VK → Prop} {F : List D → Option D} (c : CF X K W k) (hc : ∀ i, CallR (X i) (.type T) r) (ho : CaS K r F) (hg : ∀ i, Gl (X i) x) (hm : K.mg x = none) (hv : bootBuiltins x = some (.type T)) (ha : AM X K W (e :: es) g [])
    (hn : x ≠ "__name__" := by decide) (hdb : (x == ("__debug__" : Str)) = false := by decide) (he : ∀ i, starEach (e :: es) (X i).env = (false, eval e (X i).env) :: starEach es (X i).env := by intro _; rfl) (hpl : ∀ i, (backTo pos (starEach es (X i).env)).any (·.1) = false := by intro _; rfl) :
    ED X K W (.Call (.Name x p) (e :: es) [] pos) (eBi F g) := by
  obtain ⟨t, pa, s⟩ := ha.ex
  exact ⟨tCB r t, (fun i => pe_callTy (hc i) (hg i) (by rw [c.mg i]; exact hm) hv (pa i) hn hdb (he i) (hpl i)), fun fr ρ σ H Q S q => sim_tCB ho s S q⟩
/-! ints -/
def isI : D → Option Int
  | .int i => some i
  | _ => none
def ii (C : Int → Int → Bool) (g : Int → Int → D) : D → D → Option D
  | .int i, .int j => if C i j = true then some (g i j) else none
  | _, _ => none
theorem ops_ii {C : Int → Int → Bool} {P : Int → Int → Prop} {g : Int → Int → D} {h : Int → Int → V} (hP : ∀ i j, C i j = true → P i j) (hg : ∀ i j, flat (g i j) = some (h i j)) : OpS K (rI P h) (ii C g) := by
  intro fr ρ σ H dx dy vx vy d Q S e q
  cases dx with
  | int i => cases dy with
    | int j =>
      unfold ii at e
      by_cases hc : C i j = true
      · simp only [hc, if_true] at e
        cases e
        exact ⟨i, j, S.drop.topF rfl, S.topF rfl, hP i j hc, q _ H (S.drop.drop.pushF (hg i j))⟩
      · simp only [hc] at e
        cases e
    | _ => cases e
  | _ => cases e
theorem ops_ii0 {g : Int → Int → D} {h : Int → Int → V} (hg : ∀ i j, flat (g i j) = some (h i j)) : OpS K (rI0 h) (ii (fun _ _ => true) g) := by
  intro fr ρ σ H dx dy vx vy d Q S e q
  cases dx with
  | int i => cases dy with
    | int j =>
      cases e
      exact ⟨i, j, S.drop.topF rfl, S.topF rfl, q _ H (S.drop.drop.pushF (hg i j))⟩
    | _ => cases e
  | _ => cases e
def subD : D → D → Option D := ii (fun _ _ => true) fun i j => .int (i - j)
theorem ed_sub (c : CF X K W k) (ha : ED X K W a fa) (hb : ED X K W b fb) : ED X K W (.BinOp a .Sub b pos) (e2 subD fa fb) := ed_op (fun _ => op_sub) (ops_ii0 fun _ _ => rfl) ha hb
/-- products: one factor below 2^64, or both below 2^4000 -/
def mulOk (i j : Int) : Bool := decide (-(2 ^ 64) < i ∧ i < 2 ^ 64) || decide (-(2 ^ 64) < j ∧ j < 2 ^ 64) || (decide (i.natAbs < 2 ^ 4000) && decide (j.natAbs < 2 ^ 4000))
def lebD : D → D → Option D := ii (fun _ _ => true) fun i j => .bl (decide (i ≤ j))
def ltD : D → D → Option D := ii (fun _ _ => true) fun i j => .bl (decide (i < j))
def gtD : D → D → Option D := ii (fun _ _ => true) fun i j => .bl (decide (j < i))
def geD : D → D → Option D := ii (fun _ _ => true) fun i j => .bl (decide (j ≤ i))
theorem ops_le : OpS K (rI0 fun i j => .bl (decide (i ≤ j))) lebD := ops_ii0 fun _ _ => rfl
theorem ops_lt : OpS K (rI0 fun i j => .bl (decide (i < j))) ltD := ops_ii0 fun _ _ => rfl
theorem ops_gt : OpS K (rI0 fun i j => .bl (decide (j < i))) gtD := ops_ii0 fun _ _ => rfl
theorem ops_ge : OpS K (rI0 fun i j => .bl (decide (j ≤ i))) geD := ops_ii0 fun _ _ => rfl
/-! floor and rest by positive divisors -/
def fdivD : D → D → Option D := ii (fun _ j => decide (0 < j ∧ j.natAbs < 2 ^ 8000)) fun i j => .int (i / j)
def modD : D → D → Option D := ii (fun _ j => decide (0 < j)) fun i j => .int (i % j)
theorem ed_fdiv (c : CF X K W k) (ha : ED X K W a fa) (hb : ED X K W b fb) : ED X K W (.BinOp a .FloorDiv b pos) (e2 fdivD fa fb) :=
  ed_op (fun _ => op_fdivW) (ops_ii (fun i j h => by
    have := of_decide_eq_true h
    exact wide_div this.1 this.2 (by decide) (by decide)) fun _ _ => rfl) ha hb
theorem ed_mod (c : CF X K W k) (ha : ED X K W a fa) (hb : ED X K W b fb) : ED X K W (.BinOp a .Mod b pos) (e2 modD fa fb) :=
  ed_op (fun _ => op_mod) (ops_ii (fun i j h => of_decide_eq_true h) fun _ _ => rfl) ha hb
def powD : D → D → Option D := ii (fun i j => decide (0 ≤ j ∧ j ≤ 1000000 ∧ i.natAbs < 2 ^ 64)) fun i j => .int (i ^ j.toNat)
theorem ed_pow (c : CF X K W k) (ha : ED X K W a fa) (hb : ED X K W b fb) : ED X K W (.BinOp a .Pow b pos) (e2 powD fa fb) :=
  ed_op (fun _ => op_pow) (ops_ii (P := CPow) (fun i j h => show CPow i j from of_decide_eq_true (p := 0 ≤ j ∧ j ≤ 1000000 ∧ i.natAbs < 2 ^ 64) h) fun _ _ => rfl) ha hb
def negD : D → Option D
  | .int i => some (.int (-i))
  | _ => none
theorem ed_neg (c : CF X K W k) (ha : ED X K W a fa) : ED X K W (.UnaryOp .USub a pos) (e1 negD fa) := by
  obtain ⟨t, p, s⟩ := ha.ex
  refine ⟨tUn (rU fun i => .int (-i)) t, (fun i => pe_un un_neg (p i)), fun fr ρ σ H Q S q => s fr ρ σ H _ S ((QR.bind q).mono fun d ρ1 q1 v H1 S1 => ?_)⟩
  obtain ⟨d', e, q2⟩ := QR.lift q1
  cases d with
  | int i =>
    cases e
    exact ⟨i, S1.topF rfl, q2 _ H1 (S1.drop.pushF rfl)⟩
  | _ => cases e
/-! + of ints, texts, tuples, lists -/
def addD : D → D → Option D
  | .int i, .int j => some (.int (i + j))
  | .str x, .str y => if x.length + y.length ≤ sizeLine then some (.str (x ++ y)) else none
  | .tup xs, .tup ys => if xs.length + ys.length ≤ sizeLine then some (.tup (xs ++ ys)) else none
  | .lst _ xs, .lst _ ys => if xs.length + ys.length ≤ sizeLine then some (.lst true (xs ++ ys)) else none
  | _, _ => none
def rAddA (K : PySem.W.Frag) : R2 := fun x y H Q => (rI0 (fun i j => .int (i + j)) x y H Q) ∨ ((∃ i j, x = .str i ∧ y = .str j ∧ i.length + j.length ≤ sizeLine ∧ Q (.str (i ++ j)) H) ∨ (rCatA K x y H Q ∨ rCat x y H Q))
theorem op_addA {X : Cx} : OpR X (binaryOp .Add) (rAddA X.K) := OpR.or op_add (OpR.or op_add_str (OpR.or op_catA op_cat))
theorem ops_add : OpS K (rAddA K.K) addD := by
  intro fr ρ σ H dx dy vx vy d Q S e q
  cases dx with
  | int i => cases dy with
    | int j =>
      cases e
      exact .inl ⟨i, j, S.drop.topF rfl, S.topF rfl, q _ H (S.drop.drop.pushF rfl)⟩
    | _ => cases e
  | str x => cases dy with
    | str y =>
      unfold addD at e
      by_cases hc : x.length + y.length ≤ sizeLine
      · simp only [hc, if_true] at e
        cases e
        exact .inr (.inl ⟨x, y, S.drop.topF rfl, S.topF rfl, hc, q _ H (S.drop.drop.pushF rfl)⟩)
      · simp only [hc, if_false] at e
        cases e
    | _ => cases e
  | tup xs => cases dy with
    | tup ys =>
      unfold addD at e
      by_cases hc : xs.length + ys.length ≤ sizeLine
      · simp only [hc, if_true] at e
        cases e
        have f1 := S.drop.tup_frz
        have f2 := S.tup_frz
        obtain ⟨p, us, p2, ws, rfl, rfl, h2, h4, h3, h5, _, _, S1⟩ := S.explode22 (ys := ys) (xs := xs) rfl rfl
        refine .inr (.inr (.inl ⟨p2, p, ws, us, rfl, rfl, h5, h3, by omega, fun e => ?_, fun _ e => ?_, fun _ _ l hl => ?_⟩))
        · have : xs = [] := List.length_eq_zero_iff.mp (by rw [← h4, e]; rfl)
          subst this
          exact q _ H (S.xch.drop)
        · have : ys = [] := List.length_eq_zero_iff.mp (by rw [← h2, e]; rfl)
          subst this
          rw [List.append_nil] at q
          exact q _ H S.drop
        · have S2 : Sim K fr ((xs ++ ys).map some ++ ρ) ((ws ++ us).map some ++ σ) H := by
            rw [List.map_append, List.map_append, List.append_assoc, List.append_assoc]
            exact S1
          have S3 := S2.newT (by simp [h2, h4]) hl
          rw [frzL_app, f1, f2] at S3
          exact q _ _ S3
      · simp only [hc, if_false] at e
        cases e
    | _ => cases e
  | lst o xs => cases dy with
    | lst o' ys =>
      unfold addD at e
      by_cases hc : xs.length + ys.length ≤ sizeLine
      · simp only [hc, if_true] at e
        cases e
        obtain ⟨p, us, p2, ws, rfl, rfl, h2, h4, _, _, h3, h5, S1⟩ := S.explode22 (ys := ys) (xs := xs) rfl rfl
        refine .inr (.inr (.inr ⟨p2, p, ws, us, rfl, rfl, h5 _ _ rfl, h3 _ _ rfl, by omega, fun l hl => ?_⟩))
        have S2 : Sim K fr ((xs ++ ys).map some ++ ρ) ((ws ++ us).map some ++ σ) H := by
          rw [List.map_append, List.map_append, List.append_assoc, List.append_assoc]
          exact S1
        exact q _ _ (S2.newL (by simp [h2, h4]) hl)
      · simp only [hc, if_false] at e
        cases e
    | _ => cases e
  | _ => cases e
theorem rAddA_K {X : Cx} (h : X.K = K.K) : OpR X (binaryOp .Add) (rAddA K.K) := by rw [← h]; exact op_addA
theorem ed_add (c : CF X K W k) (ha : ED X K W a fa) (hb : ED X K W b fb) : ED X K W (.BinOp a .Add b pos) (e2 addD fa fb) := ed_op (fun i => rAddA_K (c.kk i)) ops_add ha hb
end
end DL

set_option Elab.async false
set_option linter.all false
set_option maxRecDepth 100000
set_option maxHeartbeats 4000000
namespace DL
open PySem PySem.Spec L2
/-! ### displays -/
section
variable {ι : Type} {X : ι → Cx} {K : RC} {W : WX} {k : Nat} {e a b c' : Expr} {es : List Expr} {f fa fb fc : M D} {g : M (List D)} {pos : Pos}
def eTup (g : M (List D)) : M D := mbind g fun ds => if ds.length ≤ sizeLine then mret (.tup (frzL ds)) else mlift none
def eLst (g : M (List D)) : M D := mbind g fun ds => if ds.length ≤ sizeLine then mret (.lst true ds) else mlift none
theorem ed_tup {x1} (h : AM X K W es g []) : ED X K W (.Tuple es x1 pos) (eTup g) := by
  obtain ⟨t, p, s⟩ := h.ex
  refine ⟨tTup t, (fun i => pe_tup (p i)), fun fr ρ σ H Q S q => s fr ρ σ H _ S ((QR.bind q).mono fun ds ρ1 q1 vs H1 hl _ S1 => ?_)⟩
  by_cases hz : ds.length ≤ sizeLine
  · rw [if_pos hz] at q1
    exact ⟨by omega, fun p hp => q1 _ _ (S1.newT hl hp)⟩
  · rw [if_neg hz] at q1
    exact q1.elim
theorem ed_lst (h : AM X K W es g []) : ED X K W (.List es pos) (eLst g) := by
  obtain ⟨t, p, s⟩ := h.ex
  refine ⟨tLst t, (fun i => pe_lst (p i)), fun fr ρ σ H Q S q => s fr ρ σ H _ S ((QR.bind q).mono fun ds ρ1 q1 vs H1 hl _ S1 => ?_)⟩
  by_cases hz : ds.length ≤ sizeLine
  · rw [if_pos hz] at q1
    exact ⟨by omega, fun p hp => q1 _ _ (S1.newL hl hp)⟩
  · rw [if_neg hz] at q1
    exact q1.elim
/-! ### items -/
def ixD : D → D → Option D
  | .str x, .int i => if x.length ≤ sizeLine then (atI x.cps.toList i).map fun c => .str ⟨#[c]⟩ else none
  | d, .int i => (items d).bind fun ds => atI ds i
  | _, _ => none
theorem atI_get {α β : Type} {xs : List α} {ys : List β} {i : Int} {y : β} (hl : xs.length = ys.length) (h : atI ys i = some y) : ∃ j : Nat, ys[j]? = some y ∧ ∀ x, xs[j]? = some x → atI xs i = some x := by
  unfold atI at h ⊢
  rw [hl]
  cases e : ixN ys.length i with
  | none => rw [e] at h; cases h
  | some j => rw [e] at h; exact ⟨j, h, fun x hx => hx⟩
theorem ops_ix : OpS K (rIx K.K) ixD := by
  intro fr ρ σ H dx dy vx vy d Q S e q
  cases dy with
  | int i =>
    have hy := S.topF rfl
    subst hy
    have seq : ∀ ds, items dx = some ds → atI ds i = some d → rIx K.K vx (.int i) H Q := fun ds hi ha => by
      obtain ⟨p, xs, rfl, h2, h3, _, S1⟩ := S.drop.explode hi
      obtain ⟨j, hj, hx⟩ := atI_get h2 ha
      obtain ⟨v, hv, S2⟩ := S1.pick h2 hj
      have hL := hx v hv
      by_cases hk : isL dx = true
      · rw [if_pos hk] at h3
        exact .inl ⟨p, xs, i, v, rfl, rfl, h3, hL, q v H S2⟩
      · rw [if_neg hk] at h3
        exact .inr (.inl ⟨p, xs, i, v, rfl, rfl, h3, hL, q v H S2⟩)
    cases dx with
    | str x =>
      unfold ixD at e
      by_cases hz : x.length ≤ sizeLine
      · simp only [hz, if_true] at e
        cases hc : atI x.cps.toList i with
        | none => rw [hc] at e; cases e
        | some c =>
          rw [hc] at e
          cases e
          exact .inr (.inr ⟨x, i, c, S.drop.topF rfl, rfl, hz, hc, q _ H (S.drop.drop.pushF rfl)⟩)
      · simp only [hz, if_false] at e
        cases e
    | tup ds => exact seq ds rfl e
    | lst o ds => exact seq ds rfl e
    | scr ns => exact seq _ rfl e
    | _ => cases e
  | _ => cases dx <;> cases e
theorem ed_ix (c : CF X K W k) (ha : ED X K W a fa) (hb : ED X K W b fb) (hs : PlainIx b := by exact fun _ _ => rfl) : ED X K W (.Subscript a b pos) (e2 ixD fa fb) := by
  obtain ⟨ta, pa, sa⟩ := ha.ex
  obtain ⟨tb, pb, sb⟩ := hb.ex
  exact ⟨tOp (rIx K.K) ta tb, (fun i => pe_ix (by rw [← c.kk i]; exact ix_seq) (pa i) (pb i) hs), fun fr ρ σ H Q S q => sim_tOp ops_ix sa sb S q⟩
/-! ### comparisons -/
theorem ed_lt (c : CF X K W k) (ha : ED X K W a fa) (hb : ED X K W b fb) : ED X K W (.Compare a [.Lt] [b] pos) (e2 ltD fa fb) := ed_cmp (fun _ => op_lt) ops_lt ha hb (nomark _)
theorem ed_le (c : CF X K W k) (ha : ED X K W a fa) (hb : ED X K W b fb) : ED X K W (.Compare a [.LtE] [b] pos) (e2 lebD fa fb) := ed_cmp (fun _ => op_le) ops_le ha hb (nomark _)
theorem ed_gt (c : CF X K W k) (ha : ED X K W a fa) (hb : ED X K W b fb) : ED X K W (.Compare a [.Gt] [b] pos) (e2 gtD fa fb) := ed_cmp (fun _ => op_gt) ops_gt ha hb (nomark _)
theorem ed_ge (c : CF X K W k) (ha : ED X K W a fa) (hb : ED X K W b fb) : ED X K W (.Compare a [.GtE] [b] pos) (e2 geD fa fb) := ed_cmp (fun _ => op_ge) ops_ge ha hb (nomark _)
theorem td_lt (c : CF X K W k) (ha : ED X K W a fa) (hb : ED X K W b fb) : TD X K W (.Compare a [.Lt] [b] pos) (eB (e2 ltD fa fb)) := td_cmp (fun _ => op_lt) ops_lt ha hb (nomark _)
theorem td_le (c : CF X K W k) (ha : ED X K W a fa) (hb : ED X K W b fb) : TD X K W (.Compare a [.LtE] [b] pos) (eB (e2 lebD fa fb)) := td_cmp (fun _ => op_le) ops_le ha hb (nomark _)
theorem td_gt (c : CF X K W k) (ha : ED X K W a fa) (hb : ED X K W b fb) : TD X K W (.Compare a [.Gt] [b] pos) (eB (e2 gtD fa fb)) := td_cmp (fun _ => op_gt) ops_gt ha hb (nomark _)
theorem td_ge (c : CF X K W k) (ha : ED X K W a fa) (hb : ED X K W b fb) : TD X K W (.Compare a [.GtE] [b] pos) (eB (e2 geD fa fb)) := td_cmp (fun _ => op_ge) ops_ge ha hb (nomark _)
/-! == and != of data -/
mutual
def toPy : D → Option PyData
  | .non => some .none
  | .bl b => some (.bool b)
  | .int i => some (.int i)
  | .str x => some (.str x)
  | .scr ns => some (.list (ns.map PyData.int))
  | .tup ds => (toPyL ds).map PyData.tuple
  | .lst _ ds => (toPyL ds).map PyData.list
  | _ => none
def toPyL : List D → Option (List PyData)
  | [] => some []
  | d :: ds => (toPy d).bind fun p => (toPyL ds).map fun ps => p :: ps
end
theorem dp_ints {K : PySem.W.Frag} {H : Hp} : ∀ ns : List Int, DpAll K H (ns.map V.int) (ns.map PyData.int)
  | [] => .nil
  | n :: ns => .cons (.int n) (dp_ints ns)
mutual
theorem rep_dp {F H : Hp} (h : ∀ a o, F a = some o → H a = some o) : ∀ (d : D) (v : V) (A : List Addr) (p : PyData), Rep K F H d v A → toPy d = some p → Dp K.K H v p
  | .non, v, A, p, r, e => by obtain ⟨rfl, _⟩ := r; cases e; exact .non
  | .bl b, v, A, p, r, e => by obtain ⟨rfl, _⟩ := r; cases e; exact .bl b
  | .int i, v, A, p, r, e => by obtain ⟨rfl, _⟩ := r; cases e; exact .int i
  | .str x, v, A, p, r, e => by obtain ⟨rfl, _⟩ := r; cases e; exact .str x
  | .adr _, v, A, p, r, e => by cases e
  | .scr ns, v, A, p, r, e => by
    obtain ⟨_, a, rfl, s⟩ := r
    cases e
    exact .lst (SqL.mono h s) (dp_ints ns)
  | .tup ds, v, A, p, r, e => by
    obtain ⟨_, a, xs, rfl, s, r⟩ := r
    unfold toPy at e
    cases e1 : toPyL ds with
    | none => rw [e1] at e; cases e
    | some ps =>
      rw [e1] at e
      cases e
      exact .tup (SqT.mono h (SqT.of s)) (rep_dpL h ds xs [] ps r e1)
  | .lst false ds, v, A, p, r, e => by
    obtain ⟨_, a, xs, rfl, s, r⟩ := r
    unfold toPy at e
    cases e1 : toPyL ds with
    | none => rw [e1] at e; cases e
    | some ps =>
      rw [e1] at e
      cases e
      exact .lst (SqL.of (h _ _ s)) (rep_dpL h ds xs [] ps r e1)
  | .lst true ds, v, A, p, r, e => by
    obtain ⟨a, xs, B, rfl, rfl, s, r⟩ := r
    unfold toPy at e
    cases e1 : toPyL ds with
    | none => rw [e1] at e; cases e
    | some ps =>
      rw [e1] at e
      cases e
      exact .lst (SqL.of s) (rep_dpL h ds xs B ps r e1)
  | .dk _ _ _, v, A, p, r, e => by cases e
  | .dt _ _ _, v, A, p, r, e => by cases e
  | .obj _ _ _ _, v, A, p, r, e => by cases e
theorem rep_dpL {F H : Hp} (h : ∀ a o, F a = some o → H a = some o) : ∀ (ds : List D) (vs : List V) (A : List Addr) (ps : List PyData), RepL K F H ds vs A → toPyL ds = some ps → DpAll K.K H vs ps
  | [], vs, A, ps, r, e => by obtain ⟨rfl, _⟩ := r; cases e; exact .nil
  | d :: ds, vs, A, ps, r, e => by
    obtain ⟨v, ws, B, C, rfl, rfl, r1, r2⟩ := r
    unfold toPyL at e
    cases e1 : toPy d with
    | none => rw [e1] at e; cases e
    | some p =>
      rw [e1] at e
      cases e2 : toPyL ds with
      | none => rw [e2] at e; cases e
      | some qs =>
        rw [e2] at e
        cases e
        exact .cons (rep_dp h d v B p r1 e1) (rep_dpL h ds ws C qs r2 e2)
end
/-- == of plain data -/
def eqB (x y : D) : Option Bool := (toPy x).bind fun p => (toPy y).bind fun q => if SeqAt.shaped p = true ∧ SeqAt.shaped q = true then some (PyData.eqv p q) else none
def eqD (x y : D) : Option D := (eqB x y).map D.bl
def neD (x y : D) : Option D := (eqB x y).map fun b => D.bl !b
theorem eqB_some {x y : D} {b : Bool} (h : eqB x y = some b) : ∃ p q, toPy x = some p ∧ toPy y = some q ∧ SeqAt.shaped p = true ∧ SeqAt.shaped q = true ∧ PyData.eqv p q = b := by
  unfold eqB at h
  cases e1 : toPy x with
  | none => rw [e1] at h; cases h
  | some p =>
    cases e2 : toPy y with
    | none => rw [e1, e2] at h; cases h
    | some q =>
      rw [e1, e2] at h
      by_cases hz : SeqAt.shaped p = true ∧ SeqAt.shaped q = true
      · simp only [Option.bind_some, hz, and_self, if_true] at h
        exact ⟨p, q, rfl, rfl, hz.1, hz.2, Option.some.inj h⟩
      · simp only [Option.bind_some, hz, if_false] at h
        cases h
theorem ops_eq : OpS K (rEqD K.K) eqD := by
  intro fr ρ σ H dx dy vx vy d Q S e q
  unfold eqD at e
  cases e1 : eqB dx dy with
  | none => rw [e1] at e; cases e
  | some b =>
    rw [e1] at e
    cases e
    obtain ⟨p, r, h1, h2, h3, h4, h5⟩ := eqB_some e1
    obtain ⟨F1, B1, r1, k1⟩ := S.drop.top
    obtain ⟨F2, B2, r2, k2⟩ := S.top
    refine ⟨p, r, rep_dp k1 _ _ _ _ r1 h1, rep_dp k2 _ _ _ _ r2 h2, h3, h4, ?_⟩
    rw [h5]
    exact q _ H (S.drop.drop.pushF rfl)
theorem ops_ne : OpS K (rNeD K.K) neD := by
  intro fr ρ σ H dx dy vx vy d Q S e q
  unfold neD at e
  cases e1 : eqB dx dy with
  | none => rw [e1] at e; cases e
  | some b =>
    rw [e1] at e
    cases e
    obtain ⟨p, r, h1, h2, h3, h4, h5⟩ := eqB_some e1
    obtain ⟨F1, B1, r1, k1⟩ := S.drop.top
    obtain ⟨F2, B2, r2, k2⟩ := S.top
    refine ⟨p, r, rep_dp k1 _ _ _ _ r1 h1, rep_dp k2 _ _ _ _ r2 h2, h3, h4, ?_⟩
    rw [h5]
    exact q _ H (S.drop.drop.pushF rfl)
theorem CF.eqD (c : CF X K W k) (i : ι) : OpR (X i) (compareOp .Eq) (rEqD K.K) := by rw [← c.kk i]; exact op_eqD (c.room i).units
theorem CF.neD (c : CF X K W k) (i : ι) : OpR (X i) (compareOp .NotEq) (rNeD K.K) := by rw [← c.kk i]; exact op_neD (c.room i).units
theorem ed_eq (c : CF X K W k) (ha : ED X K W a fa) (hb : ED X K W b fb) : ED X K W (.Compare a [.Eq] [b] pos) (e2 eqD fa fb) := ed_cmp (fun i => c.eqD i) ops_eq ha hb (nomark _)
theorem ed_ne (c : CF X K W k) (ha : ED X K W a fa) (hb : ED X K W b fb) : ED X K W (.Compare a [.NotEq] [b] pos) (e2 neD fa fb) := ed_cmp (fun i => c.neD i) ops_ne ha hb (nomark _)
theorem td_eq (c : CF X K W k) (ha : ED X K W a fa) (hb : ED X K W b fb) : TD X K W (.Compare a [.Eq] [b] pos) (eB (e2 eqD fa fb)) := td_cmp (fun i => c.eqD i) ops_eq ha hb (nomark _)
theorem td_ne (c : CF X K W k) (ha : ED X K W a fa) (hb : ED X K W b fb) : TD X K W (.Compare a [.NotEq] [b] pos) (eB (e2 neD fa fb)) := td_cmp (fun i => c.neD i) ops_ne ha hb (nomark _)
/-! is None -/
def isN : D → Bool
  | .non => true
  | _ => false
theorem Sim.isN {fr : Fr} {ρ : Env} {σ : L2.St} {H : Hp} {d : D} {v : V} (S : Sim K fr (some d :: ρ) (some v :: σ) H) : decide (v = .non) = DL.isN d := by
  obtain ⟨F, B, r, _⟩ := S.top
  cases d with
  | non => obtain ⟨rfl, _⟩ := r; rfl
  | bl b => obtain ⟨rfl, _⟩ := r; rfl
  | int b => obtain ⟨rfl, _⟩ := r; rfl
  | str b => obtain ⟨rfl, _⟩ := r; rfl
  | adr b => obtain ⟨rfl, _⟩ := r; rfl
  | scr ns => obtain ⟨_, a, rfl, _⟩ := r; rfl
  | tup ds => obtain ⟨_, a, xs, rfl, _⟩ := r; rfl
  | lst o ds => cases o with
    | false => obtain ⟨_, a, xs, rfl, _⟩ := r; rfl
    | true => obtain ⟨a, xs, B, rfl, _⟩ := r; rfl
  | dk o ks ds => cases o with
    | false => obtain ⟨_, a, xs, rfl, _⟩ := r; rfl
    | true => obtain ⟨a, xs, B, rfl, _⟩ := r; rfl
  | dt o ks ds => cases o with
    | false => obtain ⟨_, a, xs, rfl, _⟩ := r; rfl
    | true => obtain ⟨a, xs, B, rfl, _⟩ := r; rfl
  | obj o c ns ds => cases o with
    | false => obtain ⟨_, a, C, dx, fs, rfl, _⟩ := r; rfl
    | true => obtain ⟨a, C, dx, fs, B, rfl, _⟩ := r; rfl
def eIsN (f : M D) : M D := mbind f fun d => mret (.bl (isN d))
def eNotN (f : M D) : M D := mbind f fun d => mret (.bl !(isN d))
theorem sim_isN {t : TE} (s : ∀ fr ρ σ H Q, Sim K fr ρ σ H → QE K W fr σ (fa ρ) Q → t σ H Q) {fr : Fr} {ρ : Env} {σ : L2.St} {H : Hp} {Q : VK} (S : Sim K fr ρ σ H) (q : QE K W fr σ (eIsN fa ρ) Q) : tIsN t σ H Q := by
  refine s fr ρ σ H _ S ((QR.bind q).mono fun d ρ1 q1 v H1 S1 => ?_)
  show Q (.bl (decide (v = .non))) H1
  rw [S1.isN]
  exact q1 _ H1 (S1.drop.pushF rfl)
theorem sim_notN {t : TE} (s : ∀ fr ρ σ H Q, Sim K fr ρ σ H → QE K W fr σ (fa ρ) Q → t σ H Q) {fr : Fr} {ρ : Env} {σ : L2.St} {H : Hp} {Q : VK} (S : Sim K fr ρ σ H) (q : QE K W fr σ (eNotN fa ρ) Q) : tNotN t σ H Q := by
  refine s fr ρ σ H _ S ((QR.bind q).mono fun d ρ1 q1 v H1 S1 => ?_)
  show Q (.bl (!decide (v = .non))) H1
  rw [S1.isN]
  exact q1 _ H1 (S1.drop.pushF rfl)
theorem ed_isN {j pos'} (ha : ED X K W a fa) : ED X K W (.Compare a [.Is] [.Constant .none j pos'] pos) (eIsN fa) := by
  obtain ⟨t, p, s⟩ := ha.ex
  exact ⟨tIsN t, (fun i => pe_cmp (pc_isN (p i)) rfl), fun fr ρ σ H Q S q => sim_isN s S q⟩
theorem ed_notN {j pos'} (ha : ED X K W a fa) : ED X K W (.Compare a [.IsNot] [.Constant .none j pos'] pos) (eNotN fa) := by
  obtain ⟨t, p, s⟩ := ha.ex
  exact ⟨tNotN t, (fun i => pe_cmp (pc_notN (p i)) rfl), fun fr ρ σ H Q S q => sim_notN s S q⟩
theorem td_isN {j pos'} (ha : ED X K W a fa) : TD X K W (.Compare a [.Is] [.Constant .none j pos'] pos) (eB (eIsN fa)) := by
  obtain ⟨t, p, s⟩ := ha.ex
  exact ⟨tB (tIsN t), (fun i => pt_cmp (pc_isN (p i)) rfl), fun fr ρ σ H Q S q => sim_tTest (fun fr ρ σ H Q S q => sim_isN s S q) S q⟩
theorem td_notN {j pos'} (ha : ED X K W a fa) : TD X K W (.Compare a [.IsNot] [.Constant .none j pos'] pos) (eB (eNotN fa)) := by
  obtain ⟨t, p, s⟩ := ha.ex
  exact ⟨tB (tNotN t), (fun i => pt_cmp (pc_notN (p i)) rfl), fun fr ρ σ H Q S q => sim_tTest (fun fr ρ σ H Q S q => sim_notN s S q) S q⟩
/-! chains: the middle one is asked once; it is flat -/
def eChain (F G : D → D → Option D) (fa fb fc : M D) : M D := mbind fa fun x => mbind fb fun y => mbind (mlift (F x y)) fun r => mbind (mlift (isB r)) fun k => if k = true then (if (flat y).isSome = true then mbind fc fun z => mlift (G y z) else mlift none) else mret (.bl false)
theorem sim_chain {r r' : R2} {F G : D → D → Option D} (ho : OpS K r F) (ho' : OpS K r' G) {ta tb tc : TE} (sa : ∀ fr ρ σ H Q, Sim K fr ρ σ H → QE K W fr σ (fa ρ) Q → ta σ H Q) (sb : ∀ fr ρ σ H Q, Sim K fr ρ σ H → QE K W fr σ (fb ρ) Q → tb σ H Q) (sc : ∀ fr ρ σ H Q, Sim K fr ρ σ H → QE K W fr σ (fc ρ) Q → tc σ H Q)
    {fr : Fr} {ρ : Env} {σ : L2.St} {H : Hp} {Q : VK} (S : Sim K fr ρ σ H) (q : QE K W fr σ (eChain F G fa fb fc ρ) Q) : tChain r r' ta tb tc σ H Q := by
  refine sa fr ρ σ H _ S ((QR.bind q).mono fun dx ρ1 q1 vx H1 S1 => ?_)
  refine two S1 sb (QR.bind q1) fun dy ρ2 vy H2 q2 S2 => ?_
  obtain ⟨d, e, q3⟩ := QR.lift (QR.bind q2)
  obtain ⟨k, ek, q4⟩ := QR.lift (QR.bind q3)
  have := isB_eq ek
  subst this
  have hS2 := S2
  refine ho fr ρ2 σ H2 dx dy vx vy (.bl k) _ S2 e fun v H3 S3 => ?_
  have := S3.topF rfl
  subst this
  refine ⟨k, rfl, ?_⟩
  cases k with
  | false =>
    rw [if_neg Bool.false_ne_true] at q4 ⊢
    exact q4 _ H3 S3
  | true =>
    rw [if_pos rfl] at q4 ⊢
    by_cases hf : (flat dy).isSome = true
    · simp only [hf, if_true] at q4
      obtain ⟨u, hu⟩ := Option.isSome_iff_exists.mp hf
      have := hS2.topF hu
      subst this
      have S4 : Sim K fr (some dy :: ρ2) (some vy :: σ) H3 := S3.drop.pushF hu
      refine two S4 sc (QR.bind q4) fun dz ρ3 vz H4 q5 S5 => ?_
      obtain ⟨d', e', q6⟩ := QR.lift q5
      exact ho' fr ρ3 σ H4 dy dz vy vz d' Q S5 e' q6
    · simp only [hf] at q4
      exact q4.elim
theorem ed_chain {op op' : CmpOp} {r r' : R2} {F G : D → D → Option D} (h : ∀ i, OpR (X i) (compareOp op) r) (h' : ∀ i, OpR (X i) (compareOp op') r') (ho : OpS K r F) (ho' : OpS K r' G) (ha : ED X K W a fa) (hb : ED X K W b fb) (hc : ED X K W c' fc) (hm : lastMarks [op, op'] [b, c'] = false := by with_unfolding_all rfl) :
    ED X K W (.Compare a [op, op'] [b, c'] pos) (eChain F G fa fb fc) := by
  obtain ⟨ta, pa, sa⟩ := ha.ex
  obtain ⟨tb, pb, sb⟩ := hb.ex
  obtain ⟨tc, pc, sc⟩ := hc.ex
  exact ⟨tChain r r' ta tb tc, (fun i => pe_chain (h i) (h' i) (pa i) (pb i) (pc i) hm), fun fr ρ σ H Q S q => sim_chain ho ho' sa sb sc S q⟩
theorem td_chain {op op' : CmpOp} {r r' : R2} {F G : D → D → Option D} (h : ∀ i, OpR (X i) (compareOp op) r) (h' : ∀ i, OpR (X i) (compareOp op') r') (ho : OpS K r F) (ho' : OpS K r' G) (ha : ED X K W a fa) (hb : ED X K W b fb) (hc : ED X K W c' fc) (hm : lastMarks [op, op'] [b, c'] = false := by with_unfolding_all rfl) :
    TD X K W (.Compare a [op, op'] [b, c'] pos) (eB (eChain F G fa fb fc)) := by
  obtain ⟨ta, pa, sa⟩ := ha.ex
  obtain ⟨tb, pb, sb⟩ := hb.ex
  obtain ⟨tc, pc, sc⟩ := hc.ex
  exact ⟨tTest (tChain r r' ta tb tc), (fun i => pt_chain (h i) (h' i) (pa i) (pb i) (pc i) hm), fun fr ρ σ H Q S q => sim_tTest (fun fr ρ σ H Q S q => sim_chain ho ho' sa sb sc S q) S q⟩
end
end DL

set_option Elab.async false
set_option linter.all false
set_option maxRecDepth 100000
set_option maxHeartbeats 4000000
namespace DL
open PySem PySem.Spec L2
/-! ### isinstance of built-in types -/
inductive Ty where
  | int | bool | str | tuple | list | dict
def Ty.nm : Ty → String
  | .int => "int"
  | .bool => "bool"
  | .str => "str"
  | .tuple => "tuple"
  | .list => "list"
  | .dict => "dict"
def tyN : D → Option String
  | .non => some "NoneType"
  | .bl _ => some "bool"
  | .int _ => some "int"
  | .str _ => some "str"
  | .adr _ => none
  | .scr _ => some "list"
  | .tup _ => some "tuple"
  | .lst _ _ => some "list"
  | .dk _ _ _ => some "dict"
  | .dt _ _ _ => some "dict"
  | .obj _ _ _ _ => none
def instB : Ty → D → Option Bool
  | _, .adr _ => none
  | _, .obj _ _ _ _ => none
  | .int, .int _ => some true
  | .int, .bl _ => some true
  | .bool, .bl _ => some true
  | .str, .str _ => some true
  | .tuple, .tup _ => some true
  | .list, .lst _ _ => some true
  | .list, .scr _ => some true
  | .dict, .dk _ _ _ => some true
  | .dict, .dt _ _ _ => some true
  | _, _ => some false
theorem kitB_tab : ∀ t ∈ ["NoneType", "bool", "int", "str", "list", "tuple", "dict"], ∀ T ∈ ["int", "bool", "str", "tuple", "list", "dict"], kitB t T = some (t == T || (t == "bool" && T == "int")) := by decide +kernel
theorem instB_kit {T : Ty} {d : D} {b : Bool} (h : instB T d = some b) : ∃ t, tyN d = some t ∧ kitB t T.nm = some b := by
  have go : ∀ t, t ∈ ["NoneType", "bool", "int", "str", "list", "tuple", "dict"] → (t == T.nm || (t == "bool" && T.nm == "int")) = b → kitB t T.nm = some b := fun t ht e => by
    rw [← e]
    refine kitB_tab t ht T.nm ?_
    cases T <;> simp [Ty.nm]
  cases d with
  | adr a => cases T <;> cases h
  | obj o c ns ds => cases T <;> cases h
  | non => exact ⟨_, rfl, go _ (by simp) (by cases T <;> cases h <;> rfl)⟩
  | bl x => exact ⟨_, rfl, go _ (by simp) (by cases T <;> cases h <;> rfl)⟩
  | int x => exact ⟨_, rfl, go _ (by simp) (by cases T <;> cases h <;> rfl)⟩
  | str x => exact ⟨_, rfl, go _ (by simp) (by cases T <;> cases h <;> rfl)⟩
  | scr x => exact ⟨_, rfl, go _ (by simp) (by cases T <;> cases h <;> rfl)⟩
  | tup x => exact ⟨_, rfl, go _ (by simp) (by cases T <;> cases h <;> rfl)⟩
  | lst o x => exact ⟨_, rfl, go _ (by simp) (by cases T <;> cases h <;> rfl)⟩
  | dk o ks x => exact ⟨_, rfl, go _ (by simp) (by cases T <;> cases h <;> rfl)⟩
  | dt o ks x => exact ⟨_, rfl, go _ (by simp) (by cases T <;> cases h <;> rfl)⟩
theorem rd_ty {K : PySem.W.Frag} {H : Hp} {a : Addr} {xs : List V} (h : SqL K H a xs) : TyX K H (.ref a) (.type "list") := by
  rcases h with (h | ⟨o, h⟩) | ⟨o, its, n, h, c, _⟩
  · exact .base (.lst h)
  · exact .base (.frz h)
  · exact .kList h c
theorem rd_tyT {K : PySem.W.Frag} {H : Hp} {a : Addr} {xs : List V} (h : SqT K H a xs) : TyX K H (.ref a) (.type "tuple") := by
  rcases h with (h | ⟨o, h⟩) | ⟨o, its, n, h, c, _⟩
  · exact .base (.tup h)
  · exact .fTuple h
  · exact .kTuple h c
section
variable {K : RC} {fr : Fr} {ρ : Env} {σ : L2.St} {H : Hp} {d : D} {v : V}
theorem Sim.ty {t : String} (S : Sim K fr (some d :: ρ) (some v :: σ) H) (e : tyN d = some t) : TyX K.K H v (.type t) := by
  obtain ⟨F, B, r, k⟩ := S.top
  cases d with
  | non => cases e; obtain ⟨rfl, _⟩ := r; exact .base .non
  | bl b => cases e; obtain ⟨rfl, _⟩ := r; exact .base (.bl b)
  | int b => cases e; obtain ⟨rfl, _⟩ := r; exact .base (.int b)
  | str b => cases e; obtain ⟨rfl, _⟩ := r; exact .base (.str b)
  | adr b => cases e
  | scr ns => cases e; obtain ⟨_, a, rfl, s⟩ := r; exact rd_ty (SqL.mono k s)
  | tup ds => cases e; obtain ⟨_, a, xs, rfl, s, _⟩ := r; exact rd_tyT (SqT.mono k (SqT.of s))
  | lst o ds => cases e; cases o with
    | false => obtain ⟨_, a, xs, rfl, s, _⟩ := r; exact .base (.lst (k _ _ s))
    | true => obtain ⟨a, xs, B, rfl, _, s, _⟩ := r; exact .base (.lst s)
  | dk o ks ds => cases e; cases o with
    | false => obtain ⟨_, a, xs, rfl, s, _⟩ := r; exact .base (.dK (k _ _ s))
    | true => obtain ⟨a, xs, B, rfl, _, s, _⟩ := r; exact .base (.dK s)
  | dt o ks ds => cases e; cases o with
    | false => obtain ⟨_, a, xs, rfl, s, _⟩ := r; exact .base (.dT (k _ _ s))
    | true => obtain ⟨a, xs, B, rfl, _, s, _⟩ := r; exact .base (.dT s)
  | obj o c ns ds => cases e
end
def eInst (T : Ty) (f : M D) : M D := mbind f fun d => mbind (mlift (instB T d)) fun b => mret (.bl b)
section
variable {ι : Type} {X : ι → Cx} {K : RC} {W : WX} {k : Nat} {e a b : Expr} {es : List Expr} {f fa fb : M D} {g : M (List D)} {pos : Pos}
theorem boot_ty (T : Ty) : bootBuiltins (Str.ofString T.nm) = some (.type T.nm) := by cases T <;> decide +kernel
theorem ed_inst (T : Ty) {y : Str} {p p2 : Pos} (c : CF X K W k) (hg : ∀ i, Gl (X i) "isinstance") (hm : K.mg "isinstance" = none) (hg2 : ∀ i, Gl (X i) y) (hm2 : K.mg y = none) (hv : bootBuiltins y = some (.type T.nm)) (ha : ED X K W a fa)
    (hn : y ≠ "__name__" := by decide) (hdb : (y == ("__debug__" : Str)) = false := by decide) (he : ∀ i, starEach (a :: [.Name y p2]) (X i).env = (false, eval a (X i).env) :: starEach [.Name y p2] (X i).env := by intro _; rfl) (he2 : ∀ i, starEach [.Name y p2] (X i).env = (false, eval (.Name y p2) (X i).env) :: starEach [] (X i).env := by intro _; rfl)
    (hpl : ∀ i, (backTo pos (starEach [.Name y p2] (X i).env)).any (·.1) = false := by intro _; rfl) : ED X K W (.Call (.Name "isinstance" p) [a, .Name y p2] [] pos) (eInst T fa) := by
  obtain ⟨t, pa, s⟩ := ha.ex
  refine ⟨tCB (rIsi K.K) (tCons t (tCons (tC (.ty T.nm)) tNil)), (fun i => ?_), fun fr ρ σ H Q S q => s fr ρ σ H _ S ((QR.bind q).mono fun d ρ1 q1 v H1 S1 => ?_)⟩
  · have h := pe_callB (X := X i) (p := p) (pos := pos) call_isi (hg i) (by rw [c.mg i]; exact hm) (by decide +kernel) (pa_cons (pa i) (pa_cons (pe_bltn (pos := p2) (hg2 i) (by rw [c.mg i]; exact hm2) hv (show RelV (.ty T.nm) (.type T.nm) from rfl) hn hdb) pa_nil (he2 i)) (he i)) (by decide) (by decide) (he i) (hpl i)
    rw [c.kk i] at h
    exact h
  · obtain ⟨b, e1, q2⟩ := QR.lift (QR.bind q1)
    obtain ⟨t', e2, e3⟩ := instB_kit e1
    exact ⟨v, .ty T.nm, .type t', .type T.nm, b, rfl, .ty _, S1.ty e2, kit_ty e3, q2 _ H1 (S1.drop.pushF rfl)⟩
/-! ### len, int, bool, tuple, list, abs, max, min, all, any, sum -/
def lenD : List D → Option D
  | [.str x] => if x.length ≤ sizeLine then some (.int x.length) else none
  | [.dk _ ks _] => some (.int ks.length)
  | [d] => (items d).map fun ds => .int ds.length
  | _ => none
def rLenA (K : PySem.W.Frag) : List V → Hp → VK → Prop := fun xs H Q => (∃ p ys, xs = [.ref p] ∧ (SqL K H p ys ∨ SqT K H p ys) ∧ Q (.int ys.length) H) ∨ ((∃ z, xs = [.str z] ∧ z.length ≤ sizeLine ∧ Q (.int z.length) H) ∨ (∃ (p : Addr) (kvs : List (Key × V)), xs = [.ref p] ∧ H p = some (.dK kvs) ∧ Q (.int ((kvs.length : Nat) : Int)) H))
theorem CallR.or {X : Cx} {f : Value} {r r' : List V → Hp → VK → Prop} (h : CallR X f r) (h' : CallR X f r') : CallR X f (fun xs H Q => r xs H Q ∨ r' xs H Q) := by
  intro pins s σ H xs us Q I rx q
  rcases q with q | q
  · exact h pins s σ H xs us Q I rx q
  · exact h' pins s σ H xs us Q I rx q
theorem len_strR {X : Cx} : CallR X (.builtin "len") (fun xs H Q => ∃ z, xs = [.str z] ∧ z.length ≤ sizeLine ∧ Q (.int z.length) H) := by
  intro pins s σ H xs us Q I rx q
  obtain ⟨z, rfl, hz, q⟩ := q
  exact call_len pins s σ H _ us Q I rx ⟨.str z, z.length, rfl, ⟨hz, rfl⟩, q⟩
theorem call_lenA {X : Cx} : CallR X (.builtin "len") (rLenA X.K) := CallR.or call_len_seq (CallR.or len_strR (by
  intro pins s σ H xs us Q I rx q
  obtain ⟨p, kvs, rfl, h, q⟩ := q
  exact call_lenD pins s σ H _ us Q I rx ⟨p, kvs, rfl, h, q⟩))
theorem one_of {ds : List D} {vs : List V} {d : D} (hl : vs.length = ds.length) (e : ds = [d]) : ∃ v, vs = [v] := by
  subst e
  match vs, hl with
  | [v], _ => exact ⟨v, rfl⟩
theorem cas_len : CaS K (rLenA K.K) lenD := by
  intro fr ρ σ H ds vs d Q hl S e q
  have one : ∃ d0, ds = [d0] := by
    unfold lenD at e
    split at e
    · exact ⟨_, rfl⟩
    · exact ⟨_, rfl⟩
    · exact ⟨_, rfl⟩
    · cases e
  obtain ⟨d0, rfl⟩ := one
  · obtain ⟨v, rfl⟩ := one_of hl rfl
    have S : Sim K fr (some d0 :: ρ) (some v :: σ) H := S
    have seq : ∀ xs, items d0 = some xs → d = .int xs.length → rLenA K.K [v] H Q := fun xs hi hd => by
      obtain ⟨p, us, rfl, h2, h3, _, S1⟩ := S.explode hi
      subst hd
      refine .inl ⟨p, us, rfl, ?_, ?_⟩
      · by_cases hk : isL d0 = true
        · rw [if_pos hk] at h3; exact .inl h3
        · rw [if_neg hk] at h3; exact .inr h3
      · rw [h2]; exact q _ H (S.drop.pushF rfl)
    cases d0 with
    | str x =>
      unfold lenD at e
      by_cases hz : x.length ≤ sizeLine
      · simp only [hz, if_true] at e
        cases e
        exact .inr (.inl ⟨x, by rw [S.topF rfl], hz, q _ H (S.drop.pushF rfl)⟩)
      · simp only [hz, if_false] at e
        cases e
    | dk o ks xs =>
      cases e
      obtain ⟨F, B, r, kk⟩ := S.top
      cases o with
      | false =>
        obtain ⟨_, a, kvs, rfl, s, rfl, _⟩ := r
        refine .inr (.inr ⟨a, kvs, rfl, kk _ _ s, ?_⟩)
        have z := q _ H (S.drop.pushF rfl)
        rw [List.length_map] at z
        exact z
      | true =>
        obtain ⟨a, kvs, B, rfl, _, s, rfl, _⟩ := r
        refine .inr (.inr ⟨a, kvs, rfl, s, ?_⟩)
        have z := q _ H (S.drop.pushF rfl)
        rw [List.length_map] at z
        exact z
    | tup xs => exact seq xs rfl (by cases e; rfl)
    | lst o xs => exact seq xs rfl (by cases e; rfl)
    | scr ns => exact seq _ rfl (by cases e; rfl)
    | _ => cases e
theorem ed_len {p : Pos} (c : CF X K W k) (hg : ∀ i, Gl (X i) "len") (hm : K.mg "len" = none) (ha : AM X K W [a] g []) (he : ∀ i, starEach [a] (X i).env = (false, eval a (X i).env) :: starEach [] (X i).env := by intro _; rfl) (hpl : ∀ i, (backTo pos (starEach [] (X i).env)).any (·.1) = false := by intro _; rfl) :
    ED X K W (.Call (.Name "len" p) [a] [] pos) (eBi lenD g) := ed_bi (r := rLenA K.K) c (fun i => by rw [← c.kk i]; exact call_lenA) cas_len hg hm (by decide +kernel) ha (by decide) (by decide) he hpl
def intD : List D → Option D
  | [.int i] => some (.int i)
  | [.bl b] => some (.int (if b then 1 else 0))
  | _ => none
theorem cas_int : CaS K (fun xs H Q => (∃ i, xs = [.int i] ∧ Q (.int i) H) ∨ ∃ k, xs = [.bl k] ∧ Q (.int (if k then 1 else 0)) H) intD := by
  intro fr ρ σ H ds vs d Q hl S e q
  unfold intD at e
  split at e
  · rename_i i
    obtain ⟨v, rfl⟩ := one_of hl rfl
    have S : Sim K fr (some (.int i) :: ρ) (some v :: σ) H := S
    cases e
    exact .inl ⟨i, by rw [S.topF rfl], q _ H (S.drop.pushF rfl)⟩
  · rename_i b
    obtain ⟨v, rfl⟩ := one_of hl rfl
    have S : Sim K fr (some (.bl b) :: ρ) (some v :: σ) H := S
    cases e
    exact .inr ⟨b, by rw [S.topF rfl], q _ H (S.drop.pushF rfl)⟩
  · cases e
theorem ed_toint {p : Pos} (c : CF X K W k) (hg : ∀ i, Gl (X i) "int") (hm : K.mg "int" = none) (ha : AM X K W [a] g []) (he : ∀ i, starEach [a] (X i).env = (false, eval a (X i).env) :: starEach [] (X i).env := by intro _; rfl) (hpl : ∀ i, (backTo pos (starEach [] (X i).env)).any (·.1) = false := by intro _; rfl) :
    ED X K W (.Call (.Name "int" p) [a] [] pos) (eBi intD g) := ed_ty c (fun i => call_int1) cas_int hg hm (by decide +kernel) ha (by decide) (by decide) he hpl
/-! tuple(x), list(x) -/
def tupleD : List D → Option D
  | [.tup ds] => some (.tup ds)
  | [d] => (items d).map fun ds => .tup (frzL ds)
  | _ => none
theorem cas_tuple : CaS K (fun xs H Q => ∃ p ys, xs = [.ref p] ∧ ((SqL K.K H p ys ∧ ∀ l, H l = none → Q (.ref l) (upd H l (.tup ys))) ∨ (SqT K.K H p ys ∧ Q (.ref p) H))) tupleD := by
  intro fr ρ σ H ds vs d Q hl S e q
  have one : ∃ d0, ds = [d0] := by
    unfold tupleD at e
    split at e
    · exact ⟨_, rfl⟩
    · exact ⟨_, rfl⟩
    · cases e
  obtain ⟨d0, rfl⟩ := one
  · obtain ⟨v, rfl⟩ := one_of hl rfl
    have S : Sim K fr (some d0 :: ρ) (some v :: σ) H := S
    cases d0 with
    | tup xs =>
      cases e
      obtain ⟨p, us, rfl, h2, h3, _, S1⟩ := S.explode (ds := xs) rfl
      exact ⟨p, us, rfl, .inr ⟨h3, q _ H S⟩⟩
    | lst o xs =>
      cases e
      obtain ⟨p, us, rfl, h2, h3, _, S1⟩ := S.explode (ds := xs) rfl
      exact ⟨p, us, rfl, .inl ⟨h3, fun l hl => q _ _ (S1.newT h2 hl)⟩⟩
    | scr ns =>
      cases e
      obtain ⟨p, us, rfl, h2, h3, _, S1⟩ := S.explode (ds := ns.map D.int) rfl
      exact ⟨p, us, rfl, .inl ⟨h3, fun l hl => q _ _ (S1.newT h2 hl)⟩⟩
    | _ => cases e
theorem ed_tuple {p : Pos} (c : CF X K W k) (hg : ∀ i, Gl (X i) "tuple") (hm : K.mg "tuple" = none) (ha : AM X K W [a] g []) (he : ∀ i, starEach [a] (X i).env = (false, eval a (X i).env) :: starEach [] (X i).env := by intro _; rfl) (hpl : ∀ i, (backTo pos (starEach [] (X i).env)).any (·.1) = false := by intro _; rfl) :
    ED X K W (.Call (.Name "tuple" p) [a] [] pos) (eBi tupleD g) := ed_ty (r := fun xs H Q => ∃ p ys, xs = [.ref p] ∧ ((SqL K.K H p ys ∧ ∀ l, H l = none → Q (.ref l) (upd H l (.tup ys))) ∨ (SqT K.K H p ys ∧ Q (.ref p) H))) c (fun i => by rw [← c.kk i]; exact call_tuple_of) cas_tuple hg hm (by decide +kernel) ha (by decide) (by decide) he hpl
def listD : List D → Option D
  | [d] => (items d).map fun ds => .lst true ds
  | _ => none
theorem cas_list : CaS K (fun xs H Q => ∃ p ys, xs = [.ref p] ∧ (SqL K.K H p ys ∨ SqT K.K H p ys) ∧ ∀ l, H l = none → Q (.ref l) (upd H l (.lst ys))) listD := by
  intro fr ρ σ H ds vs d Q hl S e q
  have one : ∃ d0, ds = [d0] := by
    unfold listD at e
    split at e
    · exact ⟨_, rfl⟩
    · cases e
  obtain ⟨d0, rfl⟩ := one
  · obtain ⟨v, rfl⟩ := one_of hl rfl
    have S : Sim K fr (some d0 :: ρ) (some v :: σ) H := S
    have e : (items d0).map (fun ds => D.lst true ds) = some d := e
    cases hi : items d0 with
    | none => rw [hi] at e; cases e
    | some xs =>
      rw [hi] at e
      cases e
      obtain ⟨p, us, rfl, h2, h3, _, S1⟩ := S.explode hi
      refine ⟨p, us, rfl, ?_, fun l hl => q _ _ (S1.newL h2 hl)⟩
      by_cases hk : isL d0 = true
      · rw [if_pos hk] at h3; exact .inl h3
      · rw [if_neg hk] at h3; exact .inr h3
theorem ed_list {p : Pos} (c : CF X K W k) (hg : ∀ i, Gl (X i) "list") (hm : K.mg "list" = none) (ha : AM X K W [a] g []) (he : ∀ i, starEach [a] (X i).env = (false, eval a (X i).env) :: starEach [] (X i).env := by intro _; rfl) (hpl : ∀ i, (backTo pos (starEach [] (X i).env)).any (·.1) = false := by intro _; rfl) :
    ED X K W (.Call (.Name "list" p) [a] [] pos) (eBi listD g) := ed_ty (r := fun xs H Q => ∃ p ys, xs = [.ref p] ∧ (SqL K.K H p ys ∨ SqT K.K H p ys) ∧ ∀ l, H l = none → Q (.ref l) (upd H l (.lst ys))) c (fun i => by rw [← c.kk i]; exact call_list_of) cas_list hg hm (by decide +kernel) ha (by decide) (by decide) he hpl
/-! two intsL -/
def max2D : List D → Option D
  | [.int i, .int j] => some (.int (if j > i then j else i))
  | _ => none
def min2D : List D → Option D
  | [.int i, .int j] => some (.int (if j < i then j else i))
  | _ => none
def absD : List D → Option D
  | [.int i] => some (.int (if i < 0 then -i else i))
  | _ => none
theorem two_ints {fr : Fr} {ρ : Env} {σ : L2.St} {H : Hp} {i j : Int} {vs : List V} (hl : vs.length = [D.int i, D.int j].length) (S : Sim K fr ([D.int i, D.int j].map some ++ ρ) (vs.map some ++ σ) H) : vs = [.int i, .int j] ∧ Sim K fr ρ σ H := by
  match vs, hl with
  | [u, v], _ =>
    have S : Sim K fr (some (.int i) :: some (.int j) :: ρ) (some u :: some v :: σ) H := S
    rw [S.topF rfl, S.drop.topF rfl]
    exact ⟨rfl, S.drop.drop⟩
theorem cas_max2 : CaS K (fun xs H Q => ∃ i j, xs = [.int i, .int j] ∧ Q (.int (if j > i then j else i)) H) max2D := by
  intro fr ρ σ H ds vs d Q hl S e q
  unfold max2D at e
  split at e
  rotate_left
  · cases e
  · rename_i i j
    cases e
    obtain ⟨rfl, S'⟩ := two_ints hl S
    exact ⟨i, j, rfl, q _ H (S'.pushF rfl)⟩
theorem cas_min2 : CaS K (fun xs H Q => ∃ i j, xs = [.int i, .int j] ∧ Q (.int (if j < i then j else i)) H) min2D := by
  intro fr ρ σ H ds vs d Q hl S e q
  unfold min2D at e
  split at e
  rotate_left
  · cases e
  · rename_i i j
    cases e
    obtain ⟨rfl, S'⟩ := two_ints hl S
    exact ⟨i, j, rfl, q _ H (S'.pushF rfl)⟩
theorem cas_abs : CaS K (fun xs H Q => ∃ i, xs = [.int i] ∧ Q (.int (if i < 0 then -i else i)) H) absD := by
  intro fr ρ σ H ds vs d Q hl S e q
  unfold absD at e
  split at e
  rotate_left
  · cases e
  · rename_i i
    obtain ⟨v, rfl⟩ := one_of hl rfl
    have S : Sim K fr (some (.int i) :: ρ) (some v :: σ) H := S
    cases e
    exact ⟨i, by rw [S.topF rfl], q _ H (S.drop.pushF rfl)⟩
theorem ed_max2 {p : Pos} (c : CF X K W k) (hg : ∀ i, Gl (X i) "max") (hm : K.mg "max" = none) (ha : AM X K W [a, b] g []) (he : ∀ i, starEach [a, b] (X i).env = (false, eval a (X i).env) :: starEach [b] (X i).env := by intro _; rfl) (hpl : ∀ i, (backTo pos (starEach [b] (X i).env)).any (·.1) = false := by intro _; rfl) :
    ED X K W (.Call (.Name "max" p) [a, b] [] pos) (eBi max2D g) := ed_bi c (fun i => call_max2 (c.calm i)) cas_max2 hg hm (by decide +kernel) ha (by decide) (by decide) he hpl
theorem ed_min2 {p : Pos} (c : CF X K W k) (hg : ∀ i, Gl (X i) "min") (hm : K.mg "min" = none) (ha : AM X K W [a, b] g []) (he : ∀ i, starEach [a, b] (X i).env = (false, eval a (X i).env) :: starEach [b] (X i).env := by intro _; rfl) (hpl : ∀ i, (backTo pos (starEach [b] (X i).env)).any (·.1) = false := by intro _; rfl) :
    ED X K W (.Call (.Name "min" p) [a, b] [] pos) (eBi min2D g) := ed_bi c (fun i => call_min2 (c.calm i)) cas_min2 hg hm (by decide +kernel) ha (by decide) (by decide) he hpl
theorem ed_abs {p : Pos} (c : CF X K W k) (hg : ∀ i, Gl (X i) "abs") (hm : K.mg "abs" = none) (ha : AM X K W [a] g []) (he : ∀ i, starEach [a] (X i).env = (false, eval a (X i).env) :: starEach [] (X i).env := by intro _; rfl) (hpl : ∀ i, (backTo pos (starEach [] (X i).env)).any (·.1) = false := by intro _; rfl) :
    ED X K W (.Call (.Name "abs" p) [a] [] pos) (eBi absD g) := ed_bi c (fun i => call_abs) cas_abs hg hm (by decide +kernel) ha (by decide) (by decide) he hpl
/-! lists of boolsL, of intsL -/
def boolsL : List D → Option (List Bool)
  | [] => some []
  | .bl b :: ds => (boolsL ds).map fun bs => b :: bs
  | _ => none
def intsL : List D → Option (List Int)
  | [] => some []
  | .int i :: ds => (intsL ds).map fun is => i :: is
  | _ => none
theorem bools_rep {F H : Hp} : ∀ {ds : List D} {bs : List Bool} {vs : List V} {A : List Addr}, boolsL ds = some bs → RepL K F H ds vs A → vs = bs.map V.bl
  | [], bs, vs, A, e, r => by cases e; exact r.1
  | d :: ds, bs, vs, A, e, r => by
    obtain ⟨v, ws, B, C, rfl, rfl, r1, r2⟩ := r
    cases d with
    | bl b =>
      unfold boolsL at e
      cases e1 : boolsL ds with
      | none => rw [e1] at e; cases e
      | some bs' =>
        rw [e1] at e
        cases e
        rw [r1.1, bools_rep e1 r2]
        rfl
    | _ => cases e
theorem ints_rep {F H : Hp} : ∀ {ds : List D} {bs : List Int} {vs : List V} {A : List Addr}, intsL ds = some bs → RepL K F H ds vs A → vs = bs.map V.int
  | [], bs, vs, A, e, r => by cases e; exact r.1
  | d :: ds, bs, vs, A, e, r => by
    obtain ⟨v, ws, B, C, rfl, rfl, r1, r2⟩ := r
    cases d with
    | int b =>
      unfold intsL at e
      cases e1 : intsL ds with
      | none => rw [e1] at e; cases e
      | some bs' =>
        rw [e1] at e
        cases e
        rw [r1.1, ints_rep e1 r2]
        rfl
    | _ => cases e
/-- a list's reps -/
theorem Sim.lstRep {fr : Fr} {ρ : Env} {σ : L2.St} {H : Hp} {o : Bool} {ds : List D} {v : V} (S : Sim K fr (some (.lst o ds) :: ρ) (some v :: σ) H) : ∃ a xs F B, v = .ref a ∧ H a = some (.lst xs) ∧ RepL K F H ds xs B := by
  obtain ⟨F, B, r, kk⟩ := S.top
  cases o with
  | false => obtain ⟨_, a, xs, rfl, s, r⟩ := r; exact ⟨a, xs, F, [], rfl, kk _ _ s, r⟩
  | true => obtain ⟨a, xs, B, rfl, _, s, r⟩ := r; exact ⟨a, xs, F, B, rfl, s, r⟩
def allD : List D → Option D
  | [.lst _ ds] => (boolsL ds).map fun bs => .bl (bs.all id)
  | _ => none
def anyD : List D → Option D
  | [.lst _ ds] => (boolsL ds).map fun bs => .bl (bs.any id)
  | _ => none
def sumD : List D → Option D
  | [.lst _ ds] => (intsL ds).map fun is => .int is.sum
  | _ => none
theorem cas_all : CaS K (rAll K.K) allD := by
  intro fr ρ σ H ds vs d Q hl S e q
  unfold allD at e
  split at e
  rotate_left
  · cases e
  · rename_i o xs
    obtain ⟨v, rfl⟩ := one_of hl rfl
    have S : Sim K fr (some (.lst o xs) :: ρ) (some v :: σ) H := S
    cases hb : boolsL xs with
    | none => rw [hb] at e; cases e
    | some bs =>
      rw [hb] at e
      cases e
      obtain ⟨a, us, F, B, rfl, s, r⟩ := S.lstRep
      rw [bools_rep hb r] at s
      exact ⟨a, bs, rfl, SqL.of s, q _ H (S.drop.pushF rfl)⟩
theorem cas_any : CaS K (rAny K.K) anyD := by
  intro fr ρ σ H ds vs d Q hl S e q
  unfold anyD at e
  split at e
  rotate_left
  · cases e
  · rename_i o xs
    obtain ⟨v, rfl⟩ := one_of hl rfl
    have S : Sim K fr (some (.lst o xs) :: ρ) (some v :: σ) H := S
    cases hb : boolsL xs with
    | none => rw [hb] at e; cases e
    | some bs =>
      rw [hb] at e
      cases e
      obtain ⟨a, us, F, B, rfl, s, r⟩ := S.lstRep
      rw [bools_rep hb r] at s
      exact ⟨a, bs, rfl, SqL.of s, q _ H (S.drop.pushF rfl)⟩
theorem cas_sum : CaS K (rSum K.K) sumD := by
  intro fr ρ σ H ds vs d Q hl S e q
  unfold sumD at e
  split at e
  rotate_left
  · cases e
  · rename_i o xs
    obtain ⟨v, rfl⟩ := one_of hl rfl
    have S : Sim K fr (some (.lst o xs) :: ρ) (some v :: σ) H := S
    cases hb : intsL xs with
    | none => rw [hb] at e; cases e
    | some bs =>
      rw [hb] at e
      cases e
      obtain ⟨a, us, F, B, rfl, s, r⟩ := S.lstRep
      rw [ints_rep hb r] at s
      exact ⟨a, bs, rfl, SqL.of s, q _ H (S.drop.pushF rfl)⟩
theorem ed_all {p : Pos} (c : CF X K W k) (hg : ∀ i, Gl (X i) "all") (hm : K.mg "all" = none) (ha : AM X K W [a] g []) (he : ∀ i, starEach [a] (X i).env = (false, eval a (X i).env) :: starEach [] (X i).env := by intro _; rfl) (hpl : ∀ i, (backTo pos (starEach [] (X i).env)).any (·.1) = false := by intro _; rfl) :
    ED X K W (.Call (.Name "all" p) [a] [] pos) (eBi allD g) := ed_bi (r := rAll K.K) c (fun i => by rw [← c.kk i]; exact cr_all (c.calm i)) cas_all hg hm (by decide +kernel) ha (by decide) (by decide) he hpl
theorem ed_any {p : Pos} (c : CF X K W k) (hg : ∀ i, Gl (X i) "any") (hm : K.mg "any" = none) (ha : AM X K W [a] g []) (he : ∀ i, starEach [a] (X i).env = (false, eval a (X i).env) :: starEach [] (X i).env := by intro _; rfl) (hpl : ∀ i, (backTo pos (starEach [] (X i).env)).any (·.1) = false := by intro _; rfl) :
    ED X K W (.Call (.Name "any" p) [a] [] pos) (eBi anyD g) := ed_bi (r := rAny K.K) c (fun i => by rw [← c.kk i]; exact cr_any (c.calm i)) cas_any hg hm (by decide +kernel) ha (by decide) (by decide) he hpl
theorem ed_sum {p : Pos} (c : CF X K W k) (hg : ∀ i, Gl (X i) "sum") (hm : K.mg "sum" = none) (ha : AM X K W [a] g []) (he : ∀ i, starEach [a] (X i).env = (false, eval a (X i).env) :: starEach [] (X i).env := by intro _; rfl) (hpl : ∀ i, (backTo pos (starEach [] (X i).env)).any (·.1) = false := by intro _; rfl) :
    ED X K W (.Call (.Name "sum" p) [a] [] pos) (eBi sumD g) := ed_bi (r := rSum K.K) c (fun i => by rw [← c.kk i]; exact cr_sum (c.calm i)) cas_sum hg hm (by decide +kernel) ha (by decide) (by decide) he hpl
/-! tuple(range(..)), list(range(..)) -/
def rgD (a b : Int) : List D := (List.range (b - a).toNat).map fun i => .int (a + (i : Nat))
def rgOk (a b : Int) : Bool := decide (-(2 ^ 62) ≤ a ∧ a < 2 ^ 62 ∧ -(2 ^ 62) ≤ b ∧ b < 2 ^ 62 ∧ (b - a).toNat ≤ 2 ^ 24)
/-- a range's ends -/
structure RD {ι : Type} (X : ι → Cx) (K : RC) (W : WX) (e : Expr) (f : M (Int × Int)) : Prop where
  ex : ∃ t, (∀ i, PRg (X i) e t) ∧ ∀ fr ρ σ H (Q : Int → Int → Hp → Prop), Sim K fr ρ σ H → QR K W fr σ (f ρ) (fun p ρ' => ∀ H', Sim K fr ρ' σ H' → Q p.1 p.2 H') → t σ H Q
def rg1 (f : M D) : M (Int × Int) := mbind f fun d => mbind (mlift (isI d)) fun n => mret (0, n)
def rg2 (f g : M D) : M (Int × Int) := mbind f fun d => mbind g fun d' => mbind (mlift (isI d)) fun m => mbind (mlift (isI d')) fun n => mret (m, n)
theorem isI_eq {d : D} {i : Int} (h : isI d = some i) : d = .int i := by
  cases d <;> simp [isI] at h
  rw [h]
theorem rd_1 {p : Pos} (c : CF X K W k) (hg : ∀ i, Gl (X i) "range") (hm : K.mg "range" = none) (ha : ED X K W a fa) (na : ∀ i, starEach [a] (X i).env = (false, eval a (X i).env) :: starEach [] (X i).env := by intro _; rfl) : RD X K W (.Call (.Name "range" p) [a] [] pos) (rg1 fa) := by
  obtain ⟨t, pa, s⟩ := ha.ex
  refine ⟨tRg1 t, (fun i => prg_1 (hg i) (by rw [c.mg i]; exact hm) (pa i) (na i)), fun fr ρ σ H Q S q => s fr ρ σ H _ S ((QR.bind q).mono fun d ρ1 q1 v H1 S1 => ?_)⟩
  obtain ⟨n, e, q2⟩ := QR.lift (QR.bind q1)
  have := isI_eq e
  subst this
  exact ⟨n, S1.topF rfl, q2 H1 S1.drop⟩
theorem rd_2 {p : Pos} (c : CF X K W k) (hg : ∀ i, Gl (X i) "range") (hm : K.mg "range" = none) (ha : ED X K W a fa) (hb : ED X K W b fb) (na : ∀ i, starEach [a, b] (X i).env = (false, eval a (X i).env) :: starEach [b] (X i).env := by intro _; rfl)
    (nb : ∀ i, starEach [b] (X i).env = (false, eval b (X i).env) :: starEach [] (X i).env := by intro _; rfl) (hp : ∀ i, (backTo pos (starEach [b] (X i).env)).any (·.1) = false := by intro _; rfl) : RD X K W (.Call (.Name "range" p) [a, b] [] pos) (rg2 fa fb) := by
  obtain ⟨t, pa, s⟩ := ha.ex
  obtain ⟨u, pb, s2⟩ := hb.ex
  refine ⟨tRg2 t u, (fun i => prg_2 (hg i) (by rw [c.mg i]; exact hm) (pa i) (pb i) (na i) (nb i) (hp i)), fun fr ρ σ H Q S q => s fr ρ σ H _ S ((QR.bind q).mono fun d ρ1 q1 v H1 S1 => ?_)⟩
  refine two S1 s2 (QR.bind q1) fun dy ρ2 vy H2 q2 S2 => ?_
  obtain ⟨m, e, q3⟩ := QR.lift (QR.bind q2)
  obtain ⟨n, e2, q4⟩ := QR.lift (QR.bind q3)
  have := isI_eq e
  subst this
  have := isI_eq e2
  subst this
  exact ⟨m, n, S2.drop.topF rfl, S2.topF rfl, q4 H2 S2.drop.drop⟩
theorem rgD_rep {F H : Hp} (a b : Int) : RepL K F H (rgD a b) (rgV a b) [] := by
  have go : ∀ l : List Nat, RepL K F H (l.map fun i => D.int (a + (i : Nat))) (l.map fun i => V.int (a + (i : Nat))) [] := fun l => by
    induction l with
    | nil => exact ⟨rfl, rfl⟩
    | cons n l ih => exact ⟨_, _, [], [], rfl, rfl, ⟨rfl, rfl⟩, ih⟩
  exact go _
theorem rgD_len (a b : Int) : (rgD a b).length = (b - a).toNat := by unfold rgD; rw [List.length_map, List.length_range]
theorem Sim.rgs {fr : Fr} {ρ : Env} {σ : L2.St} {H : Hp} (S : Sim K fr ρ σ H) (a b : Int) : Sim K fr ((rgD a b).map some ++ ρ) ((rgV a b).map some ++ σ) H := by
  obtain ⟨A, S⟩ := S
  exact ⟨A, Sl.app (rgD_rep a b).sl S.sl, S.nd, S.off, S.keep, S.tr⟩
def eTupRg (f : M (Int × Int)) : M D := mbind f fun p => if rgOk p.1 p.2 = true then mret (.tup (rgD p.1 p.2)) else mlift none
def eLstRg (f : M (Int × Int)) : M D := mbind f fun p => if rgOk p.1 p.2 = true then mret (.lst true (rgD p.1 p.2)) else mlift none
theorem frz_rg (K : RC) (a b : Int) : frzL (rgD a b) = rgD a b := RepL.frz_id (K := K) (F := fun _ => none) (H := fun _ => none) _ _ (rgD_rep a b)
theorem ed_tupRg {p : Pos} {f : M (Int × Int)} (c : CF X K W k) (hg : ∀ i, Gl (X i) "tuple") (hm : K.mg "tuple" = none) (h : RD X K W e f) (na : ∀ i, starEach [e] (X i).env = (false, eval e (X i).env) :: starEach [] (X i).env := by intro _; rfl) : ED X K W (.Call (.Name "tuple" p) [e] [] pos) (eTupRg f) := by
  obtain ⟨t, pa, s⟩ := h.ex
  refine ⟨tTupRg t, (fun i => pe_tupRg (c.calm i) (hg i) (by rw [c.mg i]; exact hm) (pa i) (na i)), fun fr ρ σ H Q S q => s fr ρ σ H _ S ((QR.bind q).mono fun pr ρ1 q1 H1 S1 => ?_)⟩
  by_cases ho : rgOk pr.1 pr.2 = true
  · rw [if_pos ho] at q1
    refine ⟨of_decide_eq_true (p := -(2 ^ 62) ≤ pr.1 ∧ pr.1 < 2 ^ 62 ∧ -(2 ^ 62) ≤ pr.2 ∧ pr.2 < 2 ^ 62 ∧ (pr.2 - pr.1).toNat ≤ 2 ^ 24) ho, fun l hl => q1 _ _ ?_⟩
    have z := (S1.rgs pr.1 pr.2).newT (by rw [rgV_length, rgD_len]) hl
    rw [frz_rg K] at z
    exact z
  · rw [if_neg ho] at q1
    exact q1.elim
theorem ed_lstRg {p : Pos} {f : M (Int × Int)} (c : CF X K W k) (hg : ∀ i, Gl (X i) "list") (hm : K.mg "list" = none) (h : RD X K W e f) (na : ∀ i, starEach [e] (X i).env = (false, eval e (X i).env) :: starEach [] (X i).env := by intro _; rfl) : ED X K W (.Call (.Name "list" p) [e] [] pos) (eLstRg f) := by
  obtain ⟨t, pa, s⟩ := h.ex
  refine ⟨tLstRg t, (fun i => pe_listRg (c.calm i) (hg i) (by rw [c.mg i]; exact hm) (pa i) (na i)), fun fr ρ σ H Q S q => s fr ρ σ H _ S ((QR.bind q).mono fun pr ρ1 q1 H1 S1 => ?_)⟩
  by_cases ho : rgOk pr.1 pr.2 = true
  · rw [if_pos ho] at q1
    exact ⟨of_decide_eq_true (p := -(2 ^ 62) ≤ pr.1 ∧ pr.1 < 2 ^ 62 ∧ -(2 ^ 62) ≤ pr.2 ∧ pr.2 < 2 ^ 62 ∧ (pr.2 - pr.1).toNat ≤ 2 ^ 24) ho, fun l hl => q1 _ _ ((S1.rgs pr.1 pr.2).newL (by rw [rgV_length, rgD_len]) hl)⟩
  · rw [if_neg ho] at q1
    exact q1.elim
end
end DL

set_option Elab.async false
set_option linter.all false
set_option maxRecDepth 100000
set_option maxHeartbeats 4000000
namespace DL
open PySem PySem.Spec L2
/-! ### what is walked -/
theorem RepL.get {K : RC} {F H : Hp} : ∀ {ds : List D} {xs : List V} {i : Nat} {d : D}, RepL K F H ds xs [] → ds[i]? = some d → ∃ x, xs[i]? = some x ∧ Rep K F H d x []
  | [], _, _, _, _, e => by simp at e
  | d :: ds, xs, i, d', r, e => by
    obtain ⟨v, ws, B, C, rfl, eA, r1, r2⟩ := r
    have e1 := (List.append_eq_nil_iff.mp eA.symm).1
    have e2 := (List.append_eq_nil_iff.mp eA.symm).2
    subst e1 e2
    cases i with
    | zero =>
      have : d = d' := by simpa using e
      subst this
      exact ⟨v, rfl, r1⟩
    | succ i =>
      obtain ⟨x, h1, h2⟩ := RepL.get (i := i) r2 (by simpa using e)
      exact ⟨x, by simpa using h1, h2⟩
section
variable {K : RC} {fr : Fr} {ds : List D} {xs : List V} {H0 : Hp} {a : Addr}
theorem Inv2.inj : True := trivial
theorem yields_list (hs : SqL K.K (VF fr) a xs) (r : RepL K (VF fr) H0 ds xs []) : Yields K (Itl K.K a) fr ds where
  go := fun i H ρ σ S hi => by
    obtain ⟨x, hx, _⟩ := r.get (List.getElem?_eq_getElem hi)
    exact ⟨xs, x, SqL.mono S.vfH hs, hx⟩
  stop := fun i H ρ σ S hi => ⟨xs, SqL.mono S.vfH hs, by rw [r.len]; exact hi⟩
  yld := fun i H x H' ρ σ d S e hy => by
    obtain ⟨rfl, h⟩ := hy
    obtain ⟨x', hx, q⟩ := r.get e
    have := h xs (SqL.mono S.vfH hs)
    rw [hx] at this
    cases this
    exact S.pushG q
theorem yields_tup (hs : SqT K.K (VF fr) a xs) (r : RepL K (VF fr) H0 ds xs []) : Yields K (Itt K.K a) fr ds where
  go := fun i H ρ σ S hi => by
    obtain ⟨x, hx, _⟩ := r.get (List.getElem?_eq_getElem hi)
    exact ⟨xs, x, SqT.mono S.vfH hs, hx⟩
  stop := fun i H ρ σ S hi => ⟨xs, SqT.mono S.vfH hs, by rw [r.len]; exact hi⟩
  yld := fun i H x H' ρ σ d S e hy => by
    obtain ⟨rfl, h⟩ := hy
    obtain ⟨x', hx, q⟩ := r.get e
    have := h xs (SqT.mono S.vfH hs)
    rw [hx] at this
    cases this
    exact S.pushG q
theorem rgD_get {a b : Int} {i : Nat} {d : D} (h : (rgD a b)[i]? = some d) : d = .int (a + (i : Nat)) := by
  unfold rgD at h
  rw [List.getElem?_map] at h
  cases e : (List.range (b - a).toNat)[i]? with
  | none => rw [e] at h; cases h
  | some n =>
    rw [e] at h
    obtain ⟨_, e⟩ := List.getElem?_eq_some_iff.mp e
    rw [List.getElem_range] at e
    subst e
    cases h
    rfl
theorem yields_rg (lo hi : Int) : Yields K (Itr lo (hi - lo).toNat) fr (rgD lo hi) where
  go := fun i H ρ σ S h => by rw [rgD_len] at h; exact h
  stop := fun i H ρ σ S h => by rw [rgD_len] at h; exact h
  yld := fun i H x H' ρ σ d S e hy => by
    obtain ⟨rfl, rfl⟩ := hy
    rw [rgD_get e]
    exact S.pushF rfl
end
/-- a frozen list or tuple, walked -/
def seqOf (d : D) : Option (List D) := items (frz d)
section
open PyProof.Rows in
theorem pi_seqA {X : Cx} {tg l : Expr} {tl : TE} (hl : PE X l tl) : PI X tg l (fun σ H R => tl σ H fun x H1 => (∃ a, x = .ref a ∧ (∃ xs, SqL X.K H1 a xs) ∧ R (Itl X.K a) H1) ∨ (∃ a, x = .ref a ∧ (∃ xs, SqT X.K H1 a xs) ∧ R (Itt X.K a) H1)) := by
  refine ⟨fun pins s σ H R I h => ?_⟩
  refine thn (hl.run pins s σ H _ I h) fun v s1 ⟨x, H1, I1, r1, q1⟩ => ?_
  rcases q1 with ⟨a, e, ⟨xs, hq⟩, q⟩ | ⟨a, e, ⟨xs, hq⟩, q⟩
  · subst e
    cases r1
    obtain ⟨its, rv, p, hz⟩ := I1.list hq
    refine wpAny_pyIter_list p.isList ?_
    refine ⟨s1.heap.objs.size, [s1.heap.objs.size], _, _, H1, rfl, I1.kept (t' := s1.toks) fun b o e => Heap.get?_push_of_some _ e, turn_list a _, ⟨_, Heap.get?_push_size _ rfl, rfl, rfl⟩, fun b hb => ?_, q⟩
    have e : b = s1.heap.objs.size := by simpa using hb
    subst e
    exact I1.fpOk (Nat.le_refl _) (I1.hok.fresh (Nat.le_refl _))
  · subst e
    cases r1
    obtain ⟨its, rv, p, hz⟩ := I1.tuple hq
    refine wpAny_pyIter_tuple (show s1.heap.IsTuple a its.toArray from p) ?_
    refine ⟨s1.heap.objs.size, [s1.heap.objs.size], _, _, H1, rfl, I1.kept (t' := s1.toks) fun b o e => Heap.get?_push_of_some _ e, turn_tuple a _, ⟨_, Heap.get?_push_size _ rfl, rfl, rfl⟩, fun b hb => ?_, q⟩
    have e : b = s1.heap.objs.size := by simpa using hb
    subst e
    exact I1.fpOk (Nat.le_refl _) (I1.hok.fresh (Nat.le_refl _))
end
theorem frz_frz_items {d : D} {ds : List D} (h : items (frz d) = some ds) : ∃ d', frz d = d' ∧ items d' = some ds := ⟨_, rfl, h⟩
def iSeq (f : M D) : M (List D) := mbind f fun d => mlift (seqOf d)
def iRg1 (g : M (List D)) : M (List D) := mbind g fun ds => match ds with
  | [.int j] => if -(2 ^ 62) ≤ j ∧ j < 2 ^ 62 then mret (rgD 0 j) else mlift none
  | _ => mlift none
def iRg2 (g : M (List D)) : M (List D) := mbind g fun ds => match ds with
  | [.int i, .int j] => if -(2 ^ 62) ≤ i ∧ i < 2 ^ 62 ∧ -(2 ^ 62) ≤ j ∧ j < 2 ^ 62 then mret (rgD i j) else mlift none
  | _ => mlift none
section
variable {ι : Type} {X : ι → Cx} {K : RC} {W : WX} {k : Nat} {e a b tg : Expr} {es : List Expr} {f fa fb : M D} {g : M (List D)} {pos : Pos} {pr : List Nat}
theorem id_seq (c : CF X K W k) (h : ED X K W e f) : ID X K W tg e (iSeq f) := by
  obtain ⟨t, p, s⟩ := h.ex
  refine ⟨fun σ H R => t σ H fun x H1 => (∃ a, x = .ref a ∧ (∃ xs, SqL K.K H1 a xs) ∧ R (Itl K.K a) H1) ∨ (∃ a, x = .ref a ∧ (∃ xs, SqT K.K H1 a xs) ∧ R (Itt K.K a) H1), (fun i => by rw [← c.kk i]; exact pi_seqA (p i)), fun fr ρ σ H R S q => s fr ρ σ H _ S ((QR.bind q).mono fun d ρ1 q1 v H1 S1 => ?_)⟩
  obtain ⟨ds, e1, q2⟩ := QR.lift q1
  obtain ⟨fr', S2, r, back⟩ := S1.frz.holdF (fro_frz d)
  unfold seqOf at e1
  cases ed : frz d with
  | tup es =>
    rw [ed] at e1 r
    cases e1
    obtain ⟨_, a, xs, rfl, hs, r⟩ := r
    exact .inr ⟨a, rfl, ⟨xs, SqT.mono S2.vfH (SqT.of hs)⟩, q2 _ H1 fr' S2 back (yields_tup (SqT.of hs) r)⟩
  | lst o es =>
    rw [ed] at e1 r
    cases e1
    cases o with
    | true =>
      have := fro_frz d
      rw [ed] at this
      cases this
    | false =>
      obtain ⟨_, a, xs, rfl, hs, r⟩ := r
      exact .inl ⟨a, rfl, ⟨xs, SqL.mono S2.vfH (SqL.of hs)⟩, q2 _ H1 fr' S2 back (yields_list (SqL.of hs) r)⟩
  | scr ns =>
    rw [ed] at e1 r
    cases e1
    obtain ⟨_, a, rfl, hs⟩ := r
    exact .inl ⟨a, rfl, ⟨_, SqL.mono S2.vfH hs⟩, q2 _ H1 fr' S2 back (yields_list (H0 := H1) hs (rep_ints ns))⟩
  | _ => rw [ed] at e1; cases e1
theorem id_rg1 {p : Pos} (c : CF X K W k) (hg : ∀ i, Gl (X i) "range") (hm : K.mg "range" = none) (ha : AM X K W [a] g []) (hs : ∀ i, starEach [a] (X i).env = [(false, eval a (X i).env)] := by intro _; rfl) : ID X K W tg (.Call (.Name "range" p) [a] [] pos) (iRg1 g) := by
  obtain ⟨t, pa, s⟩ := ha.ex
  refine ⟨iRng1 t, (fun i => pi_range1 (hg i) (by rw [c.mg i]; exact hm) (pa i) (hs i)), fun fr ρ σ H R S q => s fr ρ σ H _ S ((QR.bind q).mono fun ds ρ1 q1 vs H1 hl _ S1 => ?_)⟩
  split at q1
  · rename_i j
    obtain ⟨v, rfl⟩ := one_of hl rfl
    have S1 : Sim K fr (some (.int j) :: ρ1) (some v :: σ) H1 := S1
    by_cases hz : -(2 ^ 62) ≤ j ∧ j < 2 ^ 62
    · rw [if_pos hz] at q1
      refine ⟨j, by rw [S1.topF rfl], hz.1, hz.2, ?_⟩
      have z := q1 (Itr 0 (j - 0).toNat) H1 fr S1.drop (fun _ _ _ h => h) (yields_rg 0 j)
      rw [Int.sub_zero] at z
      exact z
    · rw [if_neg hz] at q1
      exact q1.elim
  · exact q1.elim
theorem id_rg2 {p : Pos} (c : CF X K W k) (hg : ∀ i, Gl (X i) "range") (hm : K.mg "range" = none) (ha : AM X K W [a, b] g []) (hs : ∀ i, starEach [a, b] (X i).env = [(false, eval a (X i).env), (false, eval b (X i).env)] := by intro _; rfl) (hs2 : ∀ i, starEach [b] (X i).env = [(false, eval b (X i).env)] := by intro _; rfl) : ID X K W tg (.Call (.Name "range" p) [a, b] [] pos) (iRg2 g) := by
  obtain ⟨t, pa, s⟩ := ha.ex
  refine ⟨iRng2 t, (fun i => pi_range2 (hg i) (by rw [c.mg i]; exact hm) (pa i) (hs i) (hs2 i)), fun fr ρ σ H R S q => s fr ρ σ H _ S ((QR.bind q).mono fun ds ρ1 q1 vs H1 hl _ S1 => ?_)⟩
  split at q1
  · rename_i i j
    obtain ⟨rfl, S2⟩ := two_ints hl S1
    by_cases hz : -(2 ^ 62) ≤ i ∧ i < 2 ^ 62 ∧ -(2 ^ 62) ≤ j ∧ j < 2 ^ 62
    · rw [if_pos hz] at q1
      exact ⟨i, j, rfl, hz, q1 _ H1 fr S2 (fun _ _ _ h => h) (yields_rg i j)⟩
    · rw [if_neg hz] at q1
      exact q1.elim
  · exact q1.elim
/-! ### a list of one's own: append, a store -/
def eApp (i : Nat) (f : M D) : M D := fun ρ => match ρ[i]? with
  | some (some (.lst true _)) => mbind f (fun d ρ1 => match ρ1[i]? with
    | some (some (.lst true ds)) => if ds.length < sizeLine then .ok .non (ρ1.set i (some (.lst true (ds ++ [d])))) else .stuck
    | _ => .stuck) ρ
  | _ => .stuck
theorem own_get {ρ : Env} {i : Nat} {P : List D → Prop} (h : match ρ[i]? with | some (some (.lst true ds)) => P ds | _ => False) : ∃ ds, ρ[i]? = some (some (.lst true ds)) ∧ P ds := by
  split at h
  · rename_i ds e
    exact ⟨ds, e, h⟩
  · exact h.elim
theorem Sim.lst_at {fr : Fr} {ρ : Env} {σ : L2.St} {H : Hp} {i : Nat} {ds : List D} (S : Sim K fr ρ σ H) (e : ρ[i]? = some (some (.lst true ds))) : ∃ p xs, σ[i]? = some (some (.ref p)) ∧ H p = some (.lst xs) ∧ xs.length = ds.length := by
  obtain ⟨v, hv, S1⟩ := S.move e
  obtain ⟨F, B, r, _⟩ := S1.top
  obtain ⟨p, xs, B', rfl, _, hx, r⟩ := r
  exact ⟨p, xs, hv, hx, r.len⟩
theorem ed_app (i : Nat) {x : Str} {p0 apos cpos : Pos} (h : ∀ j, PE (X j) (.Name x p0) (tVar i)) (ha : ED X K W e f) (c : CF X K W k)
    (hs : ∀ i, starEach [e] (X i).env = (false, eval e (X i).env) :: starEach [] (X i).env := by intro _; rfl) (hline : (apos.endLine == cpos.line) = true := by rfl)
    (hfew : ∀ i, ((backTo cpos (starEach [e] (X i).env)).all (fun x => !x.1) && (backToKw cpos (keywordEach [] (X i).env)).all (fun x => x.1.isSome) && decide ([e].length + ([] : List Keyword).length + (if ([] : List Keyword).isEmpty then 0 else 1) < 30)) = true := by intro _; rfl) :
    ED X K W (.Call (.Attribute (.Name x p0) "append" apos) [e] [] cpos) (eApp i f) := by
  obtain ⟨t, pa, s⟩ := ha.ex
  refine ⟨tBM K.K "list" rAppend (tVar i) (tCons t tNil), (fun j => ?_), fun fr ρ σ H Q S q => ?_⟩
  · rw [← c.kk j]
    exact pe_bm PySem.F.plainAttrs_list PySem.F.slot_list_append PySem.F.type_list_append mt_append (h j) (pa_cons (pa j) pa_nil (hs j)) rfl (hfew j) hline (hs j) rfl
  · unfold eApp at q
    split at q
    · rename_i ds0 e0
      obtain ⟨p, xs, hv, hx, _⟩ := S.lst_at e0
      refine ⟨.ref p, hv, .inl ⟨rfl, xs, SqL.of hx⟩, ?_⟩
      refine s fr ρ σ H _ S ((QR.bind q).mono fun d ρ1 q1 v1 H1 S1 => ?_)
      split at q1
      · rename_i ds e1
        by_cases hz : ds.length < sizeLine
        · rw [if_pos hz] at q1
          obtain ⟨v, hv2, S2⟩ := S1.move (i := i + 1) (show (some d :: ρ1)[i + 1]? = _ from by simpa using e1)
          have hv3 : σ[i]? = some (some v) := by simpa using hv2
          rw [hv] at hv3
          cases hv3
          have S2 : Sim K fr (some (.lst true ds) :: some d :: ρ1.set i none) (some (.ref p) :: some v1 :: σ) H1 := S2
          obtain ⟨ys, hy, hl, S3⟩ := S2.append
          have S4 := S3.back hv
          rw [set_set_] at S4
          exact ⟨p, ys, v1, rfl, rfl, hy, by omega, q1 _ _ (S4.pushF rfl)⟩
        · rw [if_neg hz] at q1
          exact q1.elim
      · exact q1.elim
    · exact q.elim
/-- x[j] = .. of a list of one's own -/
def gItem (i : Nat) (fj : M D) : D → Env → Option Env := fun d ρ => match ρ[i]? with
  | some (some (.lst true _)) => match fj ρ with
    | .ok (.int j) ρ1 => match ρ1[i]? with
      | some (some (.lst true ds)) => if ρ1.length = ρ.length then (ixN ds.length j).map fun n => ρ1.set i (some (.lst true (ds.set n d))) else none
      | _ => none
    | _ => none
  | _ => none
theorem Sim.put {fr : Fr} {ρ : Env} {σ : L2.St} {H : Hp} {ds : List D} {d : D} {p : Addr} {v : V} {n : Nat} (S : Sim K fr (some (.lst true ds) :: some d :: ρ) (some (.ref p) :: some v :: σ) H) (hn : n < ds.length) :
    ∃ xs, H p = some (.lst xs) ∧ xs.length = ds.length ∧ Sim K fr (some (.lst true (ds.set n d)) :: ρ) (some (.ref p) :: σ) (upd H p (.lst (xs.set n v))) := by
  obtain ⟨A, S⟩ := S
  obtain ⟨s1, τ1, B1, C1, e1, rfl, ⟨v1, ev, r1⟩, r2⟩ := S.sl
  injection e1 with e1 e2
  subst e1 e2
  cases ev
  obtain ⟨s2, τ2, B2, C2, e3, rfl, ⟨v2, ev, r3⟩, r4⟩ := r2
  injection e3 with e3 e4
  subst e3 e4
  cases ev
  obtain ⟨a, xs, B, ea, rfl, hx, r1⟩ := r1
  cases ea
  obtain ⟨s0, A1, B0, A2, es, rfl, ⟨v0, _, r0⟩, put⟩ := r1.sl.at (i := n) (x := some ds[n]) (by rw [List.getElem?_map, List.getElem?_eq_getElem hn]; rfl)
  refine ⟨xs, hx, r1.len, p :: (A1 ++ (B2 ++ A2)) ++ C2, ?_⟩
  have sub : ∀ a ∈ p :: (A1 ++ (B2 ++ A2)) ++ C2, a ∈ p :: (A1 ++ (B0 ++ A2)) ++ (B2 ++ C2) ∨ H a = none := fun a z => .inl (by
    simp only [List.cons_append, List.append_assoc, List.mem_cons, List.mem_append] at z ⊢
    rcases z with z | z | z | z | z
    · exact .inl z
    · exact .inr (.inl z)
    · exact .inr (.inr (.inr (.inr (.inl z))))
    · exact .inr (.inr (.inr (.inl z)))
    · exact .inr (.inr (.inr (.inr (.inr z)))))
  have nd0 := S.nd
  have pn : p ∉ (A1 ++ (B0 ++ A2)) ++ (B2 ++ C2) := by
    rw [List.cons_append] at nd0
    exact (List.nodup_cons.mp nd0).1
  have nd : (p :: (A1 ++ (B2 ++ A2)) ++ C2).Nodup := by
    have h1 : ((A1 ++ (B0 ++ A2)) ++ (B2 ++ C2)).Nodup := by
      rw [List.cons_append] at nd0
      exact (List.nodup_cons.mp nd0).2
    rw [List.cons_append]
    refine List.nodup_cons.mpr ⟨fun z => pn ?_, ?_⟩
    · simp only [List.append_assoc, List.mem_append] at z ⊢
      rcases z with z | z | z | z
      · exact .inl z
      · exact .inr (.inr (.inr (.inl z)))
      · exact .inr (.inr (.inl z))
      · exact .inr (.inr (.inr (.inr z)))
    · have h2 : ((A1 ++ A2) ++ (B2 ++ C2)).Nodup := by
        refine List.Nodup.sublist ?_ h1
        refine List.Sublist.append ?_ (List.Sublist.refl _)
        exact (List.append_sublist_append_left A1).mpr (List.sublist_append_right B0 A2)
      have pm : ((A1 ++ A2) ++ (B2 ++ C2)).Perm ((A1 ++ (B2 ++ A2)) ++ C2) := by
        have q1 : (A2 ++ (B2 ++ C2)).Perm (B2 ++ (A2 ++ C2)) := List.perm_append_comm_assoc A2 B2 C2
        have q2 := List.Perm.append_left A1 q1
        simpa [List.append_assoc] using q2
      exact pm.nodup h2
  have kp : ∀ a o, a ≠ p → H a = some o → upd H p (.lst (xs.set n v)) a = some o := fun a o n e => by rw [upd_ne n]; exact e
  have kpA : ∀ a o, a ∉ p :: (A1 ++ (B0 ++ A2)) ++ (B2 ++ C2) → H a = some o → upd H p (.lst (xs.set n v)) a = some o := fun a o n e => kp a o (fun z => n (by simp [z])) e
  have f := S.fro sub (H' := upd H p (.lst (xs.set n v))) kpA
  have ne : ∀ a, a ∈ (A1 ++ (B0 ++ A2)) ++ (B2 ++ C2) → a ≠ p := fun a z e => pn (e ▸ z)
  have q := put (x' := some d) (s' := some v) (B' := B2) f (fun a z o e => kp a o (ne a (by
    rcases List.mem_append.mp z with z | z
    · simp [z]
    · simp [z])) e) ⟨v, rfl, Rep.mono f _ _ _ (fun a z o e => kp a o (ne a (by simp [z])) e) r3⟩
  have q' : RepL K (hid (p :: (A1 ++ (B2 ++ A2)) ++ C2 ++ fr.N) (upd H p (.lst (xs.set n v)))) (upd H p (.lst (xs.set n v))) (ds.set n d) (xs.set n v) (A1 ++ (B2 ++ A2)) := by
    refine Sl.repL ?_
    rw [← List.map_set, ← List.map_set] at q
    exact q
  exact S.next sub nd kpA ⟨some (.ref p), _, p :: (A1 ++ (B2 ++ A2)), C2, rfl, rfl, ⟨.ref p, rfl, p, xs.set n v, _, rfl, rfl, upd_same, q'⟩, r4.mono f fun a z o e => kp a o (ne a (by simp [z])) e⟩
theorem gd_item (i : Nat) {x : Str} {p0 : Pos} {je : Expr} {fj : M D} (c : CF X K W k) (h : ∀ j, PE (X j) (.Name x p0) (tVar i)) (hj : ED X K W0 je fj)
    (ha : ∀ i v, assign (.Subscript (.Name x p0) je pos) (X i).env v = (do
      let ov ← holding [v] (eval (.Name x p0) (X i).env)
      let iv ← holding [v, ov] (eval je (X i).env)
      standAt pos
      holding [v, ov, iv] (setItem ov iv v)
      release [v, ov, iv] []) := by intro _ _; rfl) : GD X K pr (.Subscript (.Name x p0) je pos) (gItem i fj) := by
  obtain ⟨t, pj, s⟩ := hj.ex
  refine ⟨⟨gSub (tVar i) t rSetL, (fun j => pg_sub (h j) (pj j) set_list (ha j)), fun fr ρ σ H d v ρ' Q S e q => ?_⟩, fun d ρ ρ' e => ?_⟩
  · unfold gItem at e
    split at e
    rotate_left
    · cases e
    rename_i ds0 e0
    split at e
    rotate_left
    · cases e
    rename_i j ρ1 e1
    split at e
    rotate_left
    · cases e
    rename_i ds e2
    by_cases hlen : ρ1.length = ρ.length
    · rw [if_pos hlen] at e
      cases hn : ixN ds.length j with
      | none => rw [hn] at e; cases e
      | some n =>
        rw [hn] at e
        cases e
        -- the value is held while the index is asked
        obtain ⟨fr', S1, back⟩ := S.hold
        have hn2 : n < ds.length := by
          unfold ixN at hn
          split at hn
          · split at hn
            · cases hn; omega
            · cases hn
          · split at hn
            · cases hn; omega
            · cases hn
        obtain ⟨p, _, hv0, _, _⟩ := S1.lst_at e0
        refine ⟨.ref p, hv0, ?_⟩
        refine s fr' ρ σ H _ S1 ?_
        rw [e1]
        intro v2 H2 S2
        have S3 := back _ _ _ S2.drop
        obtain ⟨u, hu, S4⟩ := S3.move (i := i + 1) (show (some d :: ρ1)[i + 1]? = _ from by simpa using e2)
        have hu : σ[i]? = some (some u) := by simpa using hu
        rw [hv0] at hu
        cases hu
        have S4 : Sim K fr (some (.lst true ds) :: some d :: ρ1.set i none) (some (.ref p) :: some v :: σ) H2 := S4
        obtain ⟨ys, hy, hl2, S5⟩ := S4.put hn2
        have S6 := S5.back hv0
        rw [set_set_] at S6
        exact ⟨p, ys, j, n, rfl, S2.topF rfl, hy, by rw [hl2]; exact hn, q σ _ .refl S6⟩
    · rw [if_neg hlen] at e
      cases e
  · unfold gItem at e
    split at e
    rotate_left
    · cases e
    split at e
    rotate_left
    · cases e
    split at e
    rotate_left
    · cases e
    rename_i ρ1 _ _ ds _
    split at e
    · rename_i hlen
      cases hn : ixN ds.length _ with
      | none => rw [hn] at e; cases e
      | some n =>
        rw [hn] at e
        cases e
        rw [List.length_set, hlen]
    · cases e
end
end DL

set_option Elab.async false
set_option linter.all false
set_option maxRecDepth 100000
set_option maxHeartbeats 4000000
namespace DL
open PySem PySem.Spec L2
/-! ### products -/
instance {i j : Int} : Decidable (CMulX i j) := by unfold CMulX; exact inferInstance
def repD (k : Int) (ds : List D) : List D := (List.replicate k.toNat ds).flatten
def mulD : D → D → Option D
  | .int i, .int j => if CMulX i j then some (.int (i * j)) else none
  | .lst _ ds, .int k => if -(2 ^ 63) ≤ k ∧ k < 2 ^ 63 ∧ ds.length * k.toNat ≤ sizeLine then some (.lst true (repD k (frzL ds))) else none
  | .tup ds, .int k => if ds ≠ [] ∧ 2 ≤ k ∧ k ≤ 1000 ∧ ds.length ≤ 1000 then some (.tup (repD k ds)) else none
  | _, _ => none
def rMulA (K : PySem.W.Frag) : R2 := fun x y H Q => rI CMulX (fun i j => .int (i * j)) x y H Q ∨ (rRep x y H Q ∨ rRepT K x y H Q)
theorem op_mulA {X : Cx} : OpR X (binaryOp .Mult) (rMulA X.K) := OpR.or op_mulX (OpR.or op_rep op_repT)
theorem repL_rep {K : RC} {F H : Hp} {ds : List D} {vs : List V} (r : RepL K F H ds vs []) : ∀ n : Nat, RepL K F H (List.replicate n ds).flatten (List.replicate n vs).flatten []
  | 0 => ⟨rfl, rfl⟩
  | n + 1 => by
    rw [List.replicate_succ, List.replicate_succ, List.flatten_cons, List.flatten_cons]
    exact RepL.app (A := []) (B := []) r (repL_rep r n)
theorem frzL_len : ∀ ds : List D, (frzL ds).length = ds.length
  | [] => rfl
  | d :: ds => by show (frz d :: frzL ds).length = _; rw [List.length_cons, frzL_len ds]; rfl
theorem frzL_rep (ds : List D) : ∀ n : Nat, frzL (List.replicate n ds).flatten = (List.replicate n (frzL ds)).flatten
  | 0 => rfl
  | n + 1 => by rw [List.replicate_succ, List.replicate_succ, List.flatten_cons, List.flatten_cons, frzL_app, frzL_rep ds n]
section
variable {K : RC} {fr : Fr} {ρ : Env} {σ : L2.St} {H : Hp}
/-- frozen items, several times -/
theorem Sim.times {d : D} {v : V} {ds : List D} (S : Sim K fr (some d :: ρ) (some v :: σ) H) (hf : fro d = true) (e : items d = some ds) : ∃ p xs, v = .ref p ∧ xs.length = ds.length ∧ (if isL d = true then SqL K.K H p xs else SqT K.K H p xs) ∧ (∀ o es, d = .lst o es → H p = some (.lst xs)) ∧
    ∀ n : Nat, Sim K fr ((List.replicate n ds).flatten.map some ++ ρ) ((List.replicate n xs).flatten.map some ++ σ) H := by
  obtain ⟨A, S⟩ := S
  obtain ⟨s', τ, B, C, e0, rfl, ⟨v', e1, r1⟩, r2⟩ := S.sl
  injection e0 with e2 e3
  subst e2 e3
  cases e1
  have := fro_rep hf r1
  subst this
  have hH : ∀ a o, hid ([] ++ C ++ fr.N) H a = some o → H a = some o := fun a o e => (hid_some.mp e).2
  have go : ∀ xs, RepL K (hid ([] ++ C ++ fr.N) H) H ds xs [] → ∀ n : Nat, Sim K fr ((List.replicate n ds).flatten.map some ++ ρ) ((List.replicate n xs).flatten.map some ++ σ) H := fun xs r n =>
    ⟨C, Sl.app (A1 := []) (repL_rep r n).sl r2, S.nd, S.off, S.keep, S.tr⟩
  cases d with
  | tup es =>
    cases e
    obtain ⟨_, a, xs, rfl, s, r⟩ := r1
    exact ⟨a, xs, rfl, r.len, SqT.mono hH (SqT.of s), (fun _ _ z => nomatch z), go xs r⟩
  | lst o es =>
    cases e
    cases o with
    | false =>
      obtain ⟨_, a, xs, rfl, s, r⟩ := r1
      exact ⟨a, xs, rfl, r.len, SqL.of (hH _ _ s), (fun _ _ _ => hH _ _ s), go xs r⟩
    | true => cases hf
  | scr ns =>
    cases e
    obtain ⟨_, a, rfl, s⟩ := r1
    exact ⟨a, _, rfl, by simp, SqL.mono hH s, (fun _ _ z => nomatch z), go _ (rep_ints ns)⟩
  | _ => cases e
theorem ops_mul : OpS K (rMulA K.K) mulD := by
  intro fr ρ σ H dx dy vx vy d Q S e q
  cases dx with
  | int i => cases dy with
    | int j =>
      unfold mulD at e
      by_cases hc : CMulX i j
      · simp only [hc, if_true] at e
        cases e
        exact .inl ⟨i, j, S.drop.topF rfl, S.topF rfl, hc, q _ H (S.drop.drop.pushF rfl)⟩
      · simp only [hc, if_false] at e
        cases e
    | _ => cases e
  | lst o ds => cases dy with
    | int k =>
      unfold mulD at e
      by_cases hc : -(2 ^ 63) ≤ k ∧ k < 2 ^ 63 ∧ ds.length * k.toNat ≤ sizeLine
      · simp only [hc, and_self, if_true] at e
        cases e
        have hk := S.topF rfl
        subst hk
        obtain ⟨p, xs, rfl, h2, _, h4, g⟩ := S.drop.frz.times (fro_frz _) (ds := frzL ds) rfl
        have hl2 := frzL_len ds
        refine .inr (.inl ⟨p, k, xs, rfl, rfl, h4 _ _ rfl, hc.1, hc.2.1, by rw [h2, hl2]; exact hc.2.2, fun l hl => q _ _ ?_⟩)
        exact (g k.toNat).newL (by simp [List.length_flatten, h2]) hl
      · simp only [hc, if_false] at e
        cases e
    | _ => cases e
  | tup ds => cases dy with
    | int k =>
      have e : (if ds ≠ [] ∧ 2 ≤ k ∧ k ≤ 1000 ∧ ds.length ≤ 1000 then some (D.tup (repD k ds)) else none) = some d := e
      by_cases hc : ds ≠ [] ∧ 2 ≤ k ∧ k ≤ 1000 ∧ ds.length ≤ 1000
      · rw [if_pos hc] at e
        cases e
        have hk := S.topF rfl
        subst hk
        have hz := S.drop.tup_frz
        obtain ⟨p, xs, rfl, h2, h3, _, g⟩ := S.drop.times (ds := ds) rfl rfl
        refine .inr (.inr ⟨p, k, xs, rfl, rfl, h3, fun e => hc.1 (List.length_eq_zero_iff.mp (by rw [← h2, e]; rfl)), hc.2.1, hc.2.2.1, by rw [h2]; exact hc.2.2.2, fun l hl => q _ _ ?_⟩)
        have z := (g k.toNat).newT (by simp [List.length_flatten, h2]) hl
        rw [frzL_rep, hz] at z
        exact z
      · rw [if_neg hc] at e
        cases e
    | _ => cases e
  | _ => cases e
end
section
variable {ι : Type} {X : ι → Cx} {K : RC} {W : WX} {k : Nat} {e a b : Expr} {f fa fb : M D} {pos : Pos} {pr : List Nat}
theorem rMulA_K {X : Cx} (h : X.K = K.K) : OpR X (binaryOp .Mult) (rMulA K.K) := by rw [← h]; exact op_mulA
theorem ed_mul (c : CF X K W k) (ha : ED X K W a fa) (hb : ED X K W b fb) : ED X K W (.BinOp a .Mult b pos) (e2 mulD fa fb) := ed_op (fun i => rMulA_K (c.kk i)) ops_mul ha hb
/-! ### raise -/
structure ExF (K : RC) (c : Str) : Prop where
  ex : ∃ C, K.mg c = some (.ref C) ∧ PySem.W.excIn K.K C He.veBase "ValueError.__new__" = true ∧ PySem.W.keepIn K.K (.ref C) = true ∧ PySem.W.subIn K.K (.ref C) (.type "BaseException") = some true ∧ PySem.W.typeIn K.K (.ref C) = some (.type "type")
def sRaise (c : Str) : SF := fun ρ => .exc c [] ρ
theorem sd_raise0 {x : Str} {p pos' : Pos} (c : CF X K W k) (h : ExF K x) (hg : ∀ i, Gl (X i) x) (hdb : (x == ("__debug__" : Str)) = false := by decide) : SD X K W pr (.Raise (some (.Call (.Name x p) [] [] pos)) none pos') (sRaise x) := by
  obtain ⟨C, hm, h1, h2, h3, h4⟩ := h.ex
  refine ⟨_, (fun i => ps_raise (c.calm i) (c.tk i) (pmk_own0 PySem.F.excBase_ValueError (by rw [c.kk i]; exact h1) (by rw [c.mg i]; exact hm) (by rw [c.kk i]; exact h2) (raises_own (by rw [c.kk i]; exact h3) (by rw [c.kk i]; exact h4)) (hg i) hdb)), fun fr ρ σ H Dn S q => ?_⟩
  exact q _ _ σ H .refl ⟨C, hm, rfl, .inl ⟨rfl, rfl⟩⟩ S
/-! ### try -/
abbrev TrI {ι : Type} (X : ι → Cx) (W' : WX) : Type := { j : ι × List (Addr × Obj) × (Value → Shared → Prop) // Takes ((X j.1).tr j.2.1 j.2.2) W' ∧ PassesOwn (model (X j.1).prog (X j.1).w) (X j.1).A (X j.1).env j.2.2 }
abbrev trF {ι : Type} (X : ι → Cx) (W' : WX) : TrI X W' → Cx := fun j => (X j.1.1).tr j.1.2.1 j.1.2.2
abbrev SuI {ι : Type} (X : ι → Cx) (C : Addr) (d : Option Addr) : Type := { j : ι × Obj × List (Addr × Obj) // Zc (.ref C) d j.2.1 ∧ ∃ vs, j.2.1.data = .fields vs }
abbrev suF {ι : Type} (X : ι → Cx) (a C : Addr) (d : Option Addr) : SuI X C d → Cx := fun j => (X j.1.1).suite a ((a, j.1.2.1) :: j.1.2.2)
theorem CF.tr (c : CF X K W k) (W' : WX) : CF (trF X W') K W' k where
  K := fun j => c.K j.1.1
  calm := fun j => c.calm j.1.1
  room := fun j => c.room j.1.1
  tk := fun j => j.2.1
  nd := fun j => c.nd j.1.1
/-- the class that an except clause names: whether it takes an exception of class c -/
def ExmF (K : RC) (x : Str) (m : Str → Option Bool) : Prop := ∀ c b, m c = some b → ∃ C Y, K.mg c = some (.ref C) ∧ K.mg x = some (.ref Y) ∧ PySem.W.exmOne K.K (.ref C) (.ref Y) = some b
def clr (i : Nat) : RS → RS
  | .nx ρ => .nx (ρ.set i none)
  | .ret d ρ => .ret d (ρ.set i none)
  | .brk ρ => .brk (ρ.set i none)
  | .cnt ρ => .cnt (ρ.set i none)
  | .exc _ _ _ => .stuck
  | .stuck => .stuck
open Classical in
noncomputable def suite (i : Nat) (G : Addr → SF) (ρ : Env) : RS := if h : ∃ r, ∀ a, clr i (G a (ρ.set i (some (.adr a)))) = r then h.choose else .stuck
theorem suite_eq {i : Nat} {G : Addr → SF} {ρ : Env} {r : RS} (h : ∀ a, clr i (G a (ρ.set i (some (.adr a)))) = r) : suite i G ρ = r := by
  have ex : ∃ r, ∀ a, clr i (G a (ρ.set i (some (.adr a)))) = r := ⟨r, h⟩
  unfold suite
  rw [dif_pos ex, ← ex.choose_spec 0, h 0]
noncomputable def sTryAs (F : SF) (m : Str → Option Bool) (i : Nat) (G : Str → List (Str × D) → Addr → SF) : SF := fun ρ => match F ρ with
  | .exc c fs ρ' => (match m c with
    | some true => if i < ρ'.length then suite i (G c fs) ρ' else .stuck
    | some false => .exc c fs ρ'
    | none => .stuck)
  | r => r
theorem Sim.slot {K : RC} {fr : Fr} {ρ : Env} {σ : L2.St} {H : Hp} {i : Nat} {d : D} {v : V} (S : Sim K fr ρ σ H) (hf : flat d = some v) (hi : i < ρ.length) : Sim K fr (ρ.set i (some d)) (σ.set i (some v)) H := (S.pushF hf).store hi
theorem Sim.clear0 {K : RC} {fr : Fr} {ρ : Env} {σ : L2.St} {H : Hp} {i : Nat} (S : Sim K fr ρ σ H) : Sim K fr (ρ.set i none) σ H := by
  cases e : σ[i]? with
  | none =>
    have z := S.clear (i := i) none
    rw [List.set_eq_of_length_le (l := σ) (by
      rw [List.getElem?_eq_none_iff] at e
      exact e)] at z
    exact z
  | some s =>
    have z := S.clear (i := i) s
    rw [set_self e] at z
    exact z
theorem pss_ex {X : Cx} {sts : List Stmt} {P : Type} {t : P → TS} (h : ∀ p, PSs X sts (t p)) : PSs X sts (fun D σ H => ∃ p, t p D σ H) := ⟨fun pins s σ H D I ⟨p, q⟩ => (h p).run pins s σ H D I q⟩
def ErrD (fs : List (Str × D)) (d : Option Addr) : Prop := (fs = [] ∧ d = none) ∨ (fs ≠ [] ∧ ∃ a, d = some a)
theorem sd_try_as {x n : Str} {i : Nat} {body suite : List Stmt} {b₀ : Stmt} {np pos' : Pos} {F : SF} {m : Str → Option Bool} {G : Str → List (Str × D) → Addr → SF} (c : CF X K W k) (hs : ∀ j, (X j).stack = (X j).env :: (X j).outer) (hfr : ∀ j, (X j).env.frame = some (X j).env.locals)
    (hi : ∀ j, (X j).N[i]? = some n) (hln : ∀ j, (X j).env.kindOf n = some .local) (hg : ∀ j, Gl (X j) x) (hm : ExmF K x m) {Y : Addr} (hY : K.mg x = some (.ref Y)) (hp : i ∉ pr)
    (hb : ∀ W', SDs (trF X W') K W' pr body F) (hsu : ∀ c fs a C d, K.mg c = some (.ref C) → ErrD fs d → SDs (suF X a C d) K W0 pr (b₀ :: suite) (G c fs a)) (hdb : (x == ("__debug__" : Str)) = false := by decide) :
    SD X K W pr (.Try body [.ExceptHandler (some (.Name x np)) (some n) (b₀ :: suite) pos'] [] [] pos) (sTryAs F m i G) := by
  let ts : Addr → Value → Option Addr → TS := fun a cls d Dn σ H => ∃ p : { p : Str × List (Str × D) × Addr // cls = .ref p.2.2 ∧ K.mg p.1 = some (.ref p.2.2) ∧ ErrD p.2.1 d }, (hsu p.1.1 p.1.2.1 a p.1.2.2 d p.2.2.1 p.2.2.2).ex.choose Dn σ H
  let tb : WX → TS := fun W' => (hb W').ex.choose
  refine ⟨fun D σ H => tb (wAs K.K (.ref Y) i ts W D) D σ H, (fun j => ?_), fun fr ρ σ H Dn S q => ?_⟩
  · rw [← c.kk j]
    refine ps_try_as (tb := tb) (ts := ts) (hs j) (hfr j) (c.nd j) (hi j) (hln j) ⟨hg j, hdb, .inl (by rw [c.mg j]; exact hY)⟩ (c.tk j) (fun W' pn xe tk po => ?_) (fun a oe cls d pn hz hf => ?_)
    · exact (hb W').ex.choose_spec.1 ⟨(j, pn, xe), tk, po⟩
    · refine pss_ex fun p => ?_
      obtain ⟨⟨c', fs, C⟩, h1, h2, h3⟩ := p
      dsimp only at h1 h2 h3 ⊢
      subst h1
      exact (hsu c' fs a C d h2 h3).ex.choose_spec.1 ⟨(j, oe, pn), hz, hf⟩
  · refine (hb _).ex.choose_spec.2 fr ρ σ H _ S ?_
    unfold sTryAs at q
    cases e : F ρ with
    | exc c' fs ρ' =>
      rw [e] at q
      intro cls dd σ' H' ks hx S'
      obtain ⟨C, h1, h2, h3⟩ := hx
      cases em : m c' with
      | none => simp only [em] at q; exact q.elim
      | some b =>
        obtain ⟨C', Y', h4, h5, h6⟩ := hm c' b em
        rw [h1] at h4
        cases h4
        rw [hY] at h5
        cases h5
        subst h2
        refine ⟨b, h6, fun hbt a ha => ?_, fun hbf => ?_⟩
        · subst hbt
          simp only [em] at q
          by_cases hil : i < ρ'.length
          · rw [if_pos hil] at q
            have hE : ErrD fs dd := by
              rcases h3 with h3 | ⟨hn, a, h3, _⟩
              · exact .inl h3
              · exact .inr ⟨hn, a, h3⟩
            refine ⟨⟨(c', fs, C), rfl, h1, hE⟩, ?_⟩
            refine (hsu c' fs a C dd h1 hE).ex.choose_spec.2 fr _ _ H' _ (S'.slot (d := .adr a) rfl hil) ?_
            by_cases hex : ∃ r, ∀ a, clr i (G c' fs a (ρ'.set i (some (.adr a)))) = r
            · obtain ⟨r, hr⟩ := hex
              rw [suite_eq hr] at q
              have hra := hr a
              have kk : KeepS pr σ (σ'.set i (some (.ref a))) := ks.trans (KeepS.set hp)
              cases eg : G c' fs a (ρ'.set i (some (.adr a))) with
              | nx ρ2 =>
                rw [eg] at hra
                subst hra
                exact fun σ2 H2 k2 S2 => q _ H2 ((kk.trans k2).trans (KeepS.set hp)) (S2.clear none)
              | brk ρ2 =>
                rw [eg] at hra
                subst hra
                exact fun σ2 H2 k2 S2 => q _ H2 ((kk.trans k2).trans (KeepS.set hp)) (S2.clear none)
              | cnt ρ2 =>
                rw [eg] at hra
                subst hra
                exact fun σ2 H2 k2 S2 => q _ H2 ((kk.trans k2).trans (KeepS.set hp)) (S2.clear none)
              | ret d ρ2 =>
                rw [eg] at hra
                subst hra
                exact fun v σ2 H2 k2 S2 => q v σ2 H2 (kk.trans k2) (S2.clear0 (i := i + 1))
              | exc _ _ _ =>
                rw [eg] at hra
                subst hra
                exact q.elim
              | stuck =>
                rw [eg] at hra
                subst hra
                exact q.elim
            · unfold DL.suite at q
              rw [dif_neg hex] at q
              exact q.elim
          · rw [if_neg hil] at q
            exact q.elim
        · subst hbf
          simp only [em] at q
          exact q _ _ σ' H' ks ⟨C, h1, rfl, h3⟩ S'
    | nx ρ' => rw [e] at q; exact q
    | ret d ρ' => rw [e] at q; exact q
    | brk ρ' => rw [e] at q; exact q
    | cnt ρ' => rw [e] at q; exact q
    | stuck => rw [e] at q; exact q.elim
/-! ### isinstance of the exception at hand -/
structure IsF (K : RC) (y : Str) (m : Str → Option Bool) : Prop where
  is_ : ∀ c b, m c = some b → ∃ C Y, K.mg c = some (.ref C) ∧ K.mg y = some (.ref Y) ∧ ExcC K.K C ∧ PySem.W.kitOne K.K (.ref C) (.ref Y) = some b
def eIsE (a : Addr) (o : Option Bool) (f : M D) : M D := match o with
  | some b => mbind f fun d => match d with
    | .adr a' => if a' = a then mret (.bl b) else mlift none
    | _ => mlift none
  | none => fun _ => .stuck
theorem ed_isE {y : Str} {m : Str → Option Bool} {p p2 : Pos} {a' C : Addr} {cn : Str} {fs : List (Str × D)} {d : Option Addr} (c : CF X K W k) (h : IsF K y m) (hC : K.mg cn = some (.ref C)) (hE : ErrD fs d) (hg : ∀ i, Gl (X i) "isinstance") (hm : K.mg "isinstance" = none) (hg2 : ∀ i, Gl (X i) y)
    (ha : ED (suF X a' C d) K W0 a fa) (hdb : (y == ("__debug__" : Str)) = false := by decide) (he : ∀ i : SuI X C d, starEach (a :: [.Name y p2]) (suF X a' C d i).env = (false, eval a (suF X a' C d i).env) :: starEach [.Name y p2] (suF X a' C d i).env := by intro _; rfl) (he2 : ∀ i : SuI X C d, starEach [.Name y p2] (suF X a' C d i).env = (false, eval (.Name y p2) (suF X a' C d i).env) :: starEach [] (suF X a' C d i).env := by intro _; rfl)
    (hpl : ∀ i : SuI X C d, (backTo pos (starEach [.Name y p2] (suF X a' C d i).env)).any (·.1) = false := by intro _; rfl) : ED (suF X a' C d) K W0 (.Call (.Name "isinstance" p) [a, .Name y p2] [] pos) (eIsE a' (if fs = [] then m cn else none) fa) := by
  obtain ⟨t, pa, s⟩ := ha.ex
  by_cases hf : fs = []
  · rw [if_pos hf]
    cases hb : m cn with
    | none => exact ⟨fun _ _ _ => False, (fun i => ⟨fun _ _ _ _ _ _ z => z.elim⟩), fun fr ρ σ H Q S q => q.elim⟩
    | some b =>
      have hd : d = none := by
        rcases hE with ⟨_, e⟩ | ⟨e, _⟩
        · exact e
        · exact absurd hf e
      obtain ⟨C', Y, h1, h2, h3, h4⟩ := h.is_ cn b hb
      rw [hC] at h1
      cases h1
      subst hd
      refine ⟨tCB (rIsE K.K C a') (tCons t (tCons (tC (.ref Y)) tNil)), (fun i => ?_), fun fr ρ σ H Q S q => s fr ρ σ H _ S ((QR.bind q).mono fun dv ρ1 q1 v H1 S1 => ?_)⟩
      · have h := pe_callB (X := suF X a' C none i) (p := p) (pos := pos) (call_isE (X := X i.1.1) (a := a') (pn := i.1.2.2) (C := by rw [c.kk]; exact h3) i.2.1 i.2.2) (hg i.1.1) (by rw [c.mg]; exact hm) (by decide +kernel) (pa_cons (pa i) (pa_cons (pe_glob (X := suF X a' C none i) (pos := p2) (hg2 i.1.1) (by rw [c.mg]; exact h2) (show RelV (.ref Y) (.ref Y) from rfl) hdb) pa_nil (he2 i)) (he i)) (by decide) (by decide) (he i) (hpl i)
        rw [c.kk] at h
        exact h
      · split at q1
        · rename_i a2
          by_cases ha2 : a2 = a'
          · rw [if_pos ha2] at q1
            subst ha2
            have := S1.topF rfl
            subst this
            exact ⟨.ref Y, .ref Y, b, rfl, (fun u r => r), h4, q1 _ H1 (S1.drop.pushF rfl)⟩
          · rw [if_neg ha2] at q1
            exact q1.elim
        · exact q1.elim
  · rw [if_neg hf]
    exact ⟨fun _ _ _ => False, (fun i => ⟨fun _ _ _ _ _ _ z => z.elim⟩), fun fr ρ σ H Q S q => q.elim⟩
end
end DL

set_option Elab.async false
set_option linter.all false
set_option maxRecDepth 100000
set_option maxHeartbeats 4000000
namespace DL
open PySem PySem.Spec L2
def ALen (g : M (List D)) (n : Nat) : Prop := ∀ ρ ds ρ', g ρ = .ok ds ρ' → ds.length = n
theorem al_nil : ALen aNil 0 := fun ρ ds ρ' e => by cases e; rfl
theorem al_cons {f : M D} {g : M (List D)} {n : Nat} (h : ALen g n) : ALen (aCons f g) (n + 1) := fun ρ ds ρ' e => by
  obtain ⟨d, ρ1, e1, e2⟩ := mbind_ok e
  obtain ⟨ds', ρ2, e3, e4⟩ := mbind_ok e2
  cases e4
  rw [List.length_cons, h _ _ _ e3]
section
variable {ι : Type} {X : ι → Cx} {K : RC} {W : WX} {k : Nat} {e a b : Expr} {es : List Expr} {f fa fb : M D} {g : M (List D)} {rs : List (Nat × Nat)} {pos : Pos} {pr : List Nat}
theorem ed_gint {x : Str} {i : Int} (c : CF X K W k) (h : ∃ t, K.mg x = some (.int i t)) (hg : ∀ j, Gl (X j) x) (hd : (x == ("__debug__" : Str)) = false := by decide) : ED X K W (.Name x pos) (eC (.int i)) := by
  obtain ⟨t, h⟩ := h
  exact ed_const rfl fun j => pe_glob (hg j) (by rw [c.mg j]; exact h) ⟨t, rfl⟩ hd
theorem ed_fn {j n m : Nat} {x : Str} {F : List D → Res D} {dfl : List D} {p : Pos} (c : CF X K W k) (h : ∀ i, FnX (X i) j x n dfl F) (hj : j ≤ k) (hg : ∀ i, Gl (X i) x) (ha : AM X K W (e :: es) g rs)
    (hl : ALen g m) (hn : m + dfl.length = n := by rfl) (hdb : (x == ("__debug__" : Str)) = false := by decide) (hd : ∀ d ∈ dfl, (flat d).isSome = true := by simp [flat])
    (he : ∀ i, starEach (e :: es) (X i).env = (false, eval e (X i).env) :: starEach es (X i).env := by intro _; rfl) (hpl : ∀ i, (backTo pos (starEach es (X i).env)).any (·.1) = false := by intro _; rfl) : ED X K W (.Call (.Name x p) (e :: es) [] pos) (eCall F g dfl rs) :=
  ed_call h c.K (fun i => (c.room i).mono hj) hg c.tk ha (fun ρ ds ρ' e => by rw [List.length_append, hl _ _ _ e]; exact hn) hdb hd he hpl
theorem ed_fn0 {j n : Nat} {x : Str} {F : List D → Res D} {dfl : List D} {p : Pos} (c : CF X K W k) (h : ∀ i, FnX (X i) j x n dfl F) (hj : j ≤ k) (hg : ∀ i, Gl (X i) x)
    (hn : dfl.length = n := by rfl) (hdb : (x == ("__debug__" : Str)) = false := by decide) (hd : ∀ d ∈ dfl, (flat d).isSome = true := by simp [flat]) : ED X K W (.Call (.Name x p) [] [] pos) (eCall F aNil dfl []) :=
  ed_call0 h c.K (fun i => (c.room i).mono hj) hg c.tk hn hdb hd
end
section
variable {P : Program} {w : World} {K : PySem.W.Frag} {mg : Str → Option Value} {base : Heap} {f : Addr} {fd : FuncData} {x y qual : Str} {params : Arguments} {body : List Stmt} {scope : Scope} {dvs : List V} {kws : List (Str × V)} {ps : List Str} {k : Nat} {Fn : List D → Res D}
theorem fnd_n (F : FunD K x qual params body scope dvs kws f fd) (hm : mg y = some (.ref f)) (b : Binds K fd ps []) (ok : FnOk P w K mg base (L2.CX P w) k f fd ps (spD ⟨K, mg⟩ ps.length Fn)) : FnD P w K mg base k y ps.length [] Fn :=
  ⟨f, fd, ps, [], hm, F.kp, b, .nil, (fun _ z => nomatch z), rfl, ok⟩
theorem fnd_d (F : FunD K x qual params body scope dvs kws f fd) (hm : mg y = some (.ref f)) (dfl : List D) {j : Nat} (b : ∃ ds, Vals (dvs.drop j) ds ∧ Binds K fd ps ds) (hd : dfl.map toV = dvs.drop j) (hf : ∀ d ∈ dfl, (flat d).isSome = true) (ok : FnOk P w K mg base (L2.CX P w) k f fd ps (spD ⟨K, mg⟩ ps.length Fn)) : FnD P w K mg base k y ps.length dfl Fn := by
  obtain ⟨ds, h1, h2⟩ := b
  exact ⟨f, fd, ps, ds, hm, F.kp, h2, by rw [hd]; exact h1, hf, rfl, ok⟩
/-- a def's context -/
theorem cf_of {N : List Str} {f : Addr} {cdv : Value} {A : Around} {outer : List PySem.Env} {s : Shared} {H : Hp} {E : XK} {ps : List Str} (S : FnScope N ps scope) (hr : Room k (A.deeper (PyProof.Rows.envOfC qual scope s.heap.objs.size f cdv))) :
    CF (fun _ : Unit => cxOf (L2.CX P w) P w K mg base N qual scope f cdv A outer s H E) ⟨K, mg⟩ (fun cls d _ H => E cls d H) k where
  K := fun _ => rfl
  calm := fun _ => rfl
  room := fun _ => hr
  tk := fun _ => takes_of rfl rfl rfl rfl
  nd := fun _ => S.nd
end
/-! ### facts of the text -/
theorem exf_of {K : PySem.W.Frag} {h : Heap} {mg : Str → Option Value} {x : Str} (X : K.In h) (G : h.Ns mainGlobals mg) (g : (He.Fa.glo x).ok K = true) (e : (He.Fa.exc x).ok K = true) : ExF ⟨K, mg⟩ x :=
  ⟨_, He.glo_ok X G g, He.exc_ok e⟩
def inL {α : Type} (P : α → Prop) : List α → Prop
  | [] => True
  | a :: l => P a ∧ inL P l
theorem inL_mem {α : Type} {P : α → Prop} {a : α} : ∀ {l : List α}, inL P l → a ∈ l → P a
  | b :: l, h, z => by
    rcases List.mem_cons.mp z with z | z
    · subst z; exact h.1
    · exact inL_mem h.2 z
theorem look_mem {l : List (Str × Bool)} {c : Str} {b : Bool} (h : l.lookup c = some b) : (c, b) ∈ l := by
  induction l with
  | nil => cases h
  | cons p l ih =>
    obtain ⟨x, y⟩ := p
    unfold List.lookup at h
    split at h
    · rename_i e
      cases h
      rw [beq_iff_eq.mp e]
      exact List.mem_cons_self
    · exact List.mem_cons_of_mem _ (ih h)
/-- the class y against the classes of l -/
def exmB (K : PySem.W.Frag) (y : Str) (l : List (Str × Bool)) : Bool := He.Fa.ok K (.glo y) && l.all fun p => He.Fa.ok K (.glo p.1) && He.Fa.ok K (.exm p.1 y p.2)
theorem exmF_of {K : PySem.W.Frag} {h : Heap} {mg : Str → Option Value} {y : Str} {l : List (Str × Bool)} (X : K.In h) (G : h.Ns mainGlobals mg) (e : exmB K y l = true) : ExmF ⟨K, mg⟩ y (fun c => l.lookup c) := fun c b hb => by
  obtain ⟨h1, h2⟩ := He.ba e
  have h3 := List.all_eq_true.mp h2 (c, b) (look_mem hb)
  obtain ⟨h4, h5⟩ := He.ba h3
  exact ⟨_, _, He.glo_ok X G h4, He.glo_ok X G h1, He.exm_ok h5⟩
def excC (K : PySem.W.Frag) (D : Addr) : Bool := decide (PySem.W.findIn K (.ref D) "__getattribute__" = some (some (.builtin "BaseException.__getattribute__"))) && (decide (PySem.W.findIn K (.ref D) "__getattr__" = some none) && (decide (PySem.W.subIn K (.ref D) (.type "BaseException") = some true) && (PySem.W.hasDictIn K D &&
  (decide (PySem.W.findIn K (.ref D) "__class__" = some (some (.builtin "object.__class__"))) && (decide (PySem.W.specialIn K (.builtin "object.__class__") "__get__" = some (some (.builtin "getset_descriptor.__get__"))) && (decide (PySem.W.takesIn K (.builtin "object.__class__") = some true) && decide (PySem.W.mroIn K D (.type "object") = some true)))))))
theorem excC_ok {K : PySem.W.Frag} {D : Addr} (h : excC K D = true) : ExcC K D := by
  obtain ⟨h1, h⟩ := He.ba h
  obtain ⟨h2, h⟩ := He.ba h
  obtain ⟨h3, h⟩ := He.ba h
  obtain ⟨h4, h⟩ := He.ba h
  obtain ⟨h5, h⟩ := He.ba h
  obtain ⟨h6, h⟩ := He.ba h
  obtain ⟨h7, h8⟩ := He.ba h
  exact ⟨of_decide_eq_true h1, of_decide_eq_true h2, of_decide_eq_true h3, h4, of_decide_eq_true h5, of_decide_eq_true h6, of_decide_eq_true h7, of_decide_eq_true h8⟩
def isB1 (K : PySem.W.Frag) (y : Str) (l : List (Str × Bool)) : Bool := He.Fa.ok K (.glo y) && l.all fun p => He.Fa.ok K (.glo p.1) && (excC K (He.ga K p.1) && decide (PySem.W.kitOne K (.ref (He.ga K p.1)) (.ref (He.ga K y)) = some p.2))
theorem isF_of {K : PySem.W.Frag} {h : Heap} {mg : Str → Option Value} {y : Str} {l : List (Str × Bool)} (X : K.In h) (G : h.Ns mainGlobals mg) (e : isB1 K y l = true) : IsF ⟨K, mg⟩ y (fun c => l.lookup c) := ⟨fun c b hb => by
  obtain ⟨h1, h2⟩ := He.ba e
  have h3 := List.all_eq_true.mp h2 (c, b) (look_mem hb)
  obtain ⟨h4, h5⟩ := He.ba h3
  obtain ⟨h6, h7⟩ := He.ba h5
  exact ⟨_, _, He.glo_ok X G h4, He.glo_ok X G h1, excC_ok h6, of_decide_eq_true h7⟩⟩
/-! ### the head with one more Bool -/
abbrev AlE : Type := He.AlD × Bool
def obsE (fa : List He.Fa) (fn : List He.DefD) (ex : PySem.W.Frag → Bool) (K : PySem.W.Frag) : AlE := (He.obsD fa fn K, ex K)
def SaysE (fa : List He.Fa) (fn : List He.DefD) (ex : PySem.W.Frag → Bool) (K : PySem.W.Frag) : Prop := obsE fa fn ex K = (He.valD fn, true)
def obsEG (n : Nat) (fa : List He.Fa) (fn : List He.DefD) (ex : PySem.W.Frag → Bool) (g : Addr → Option Obj) : AlE := obsE fa fn ex (He.frG g (He.asD g n))
def hookE (n : Nat) (fa : List He.Fa) (fn : List He.DefD) (ex : PySem.W.Frag → Bool) : PySem.W.Hook where
  α := AlE
  obs := fun s => obsEG n fa fn ex s.heap.get?
  val := fun _ => (He.valD fn, true)
  says := fun _ h => ∃ K : PySem.W.Frag, K.In h ∧ SaysE fa fn ex K
  of := fun _ _ e => ⟨_, He.frG_in, e⟩
  keeps := fun _ _ _ ⟨K, hK, c⟩ k => ⟨K, PySem.W.Frag.In.keeps hK k, c⟩
theorem obsEG_eq {n : Nat} {fa : List He.Fa} {fn : List He.DefD} {ex : PySem.W.Frag → Bool} {g : Addr → Option Obj} {s : Shared} (h : ∀ a, g a = s.heap.get? a) : obsEG n fa fn ex g = (hookE n fa fn ex).obs s := by
  have e : g = s.heap.get? := funext h
  rw [e] <;> rfl
section
variable {fa : List He.Fa} {fn : List He.DefD} {ex : PySem.W.Frag → Bool} {K : PySem.W.Frag}
theorem SaysE.d (c : SaysE fa fn ex K) : He.SaysD fa fn K := congrArg Prod.fst c
theorem SaysE.e (c : SaysE fa fn ex K) : ex K = true := congrArg Prod.snd c
end
/-! ### the end of a law -/
theorem spLaw_of {K : PySem.W.Frag} {mg : Str → Option Value} {F : List D → Res D} {n : Nat} (h : ∀ ns : List Int, ns.length ≤ n → ∃ os, F [.scr ns] = .ok (.bl true) os) (H : Hp) (a : Addr) (ns : List Int) (hl : ns.length ≤ n) (hS : SqL K H a (ns.map V.int)) :
    spD ⟨K, mg⟩ 1 F [.ref a] H (fun v _ => v = .bl true) fun _ _ _ => False := by
  obtain ⟨os, e⟩ := h ns hl
  refine ⟨⟨H, []⟩, [.scr ns], rfl, rfl, ⟨[], ⟨some (.ref a), [], [], [], rfl, rfl, ⟨.ref a, rfl, rfl, a, rfl, ?_⟩, rfl, rfl⟩, .nil, (fun _ z => nomatch z), (fun _ _ e => e), fun _ z => nomatch z⟩, ?_⟩
  · refine SqL.mono (fun b o e => ?_) hS
    exact hid_some.mpr ⟨(fun z => nomatch z), e⟩
  · rw [e]
    exact fun v H' S => S.topF rfl
end DL

set_option Elab.async false
set_option linter.all false
set_option maxRecDepth 100000
set_option maxHeartbeats 4000000
namespace DL
open PySem PySem.Spec L2
/-! ### an item of a variable that stays -/
theorem RepL.getA {K : RC} {F H : Hp} : ∀ {ds : List D} {xs : List V} {A : List Addr} {i : Nat} {d : D}, RepL K F H ds xs A → ds[i]? = some d → ∃ x B, xs[i]? = some x ∧ Rep K F H d x B
  | [], _, _, _, _, _, e => by simp at e
  | d :: ds, xs, A, i, d', r, e => by
    obtain ⟨v, ws, B, C, rfl, eA, r1, r2⟩ := r
    cases i with
    | zero =>
      have : d = d' := by simpa using e
      subst this
      exact ⟨v, B, rfl, r1⟩
    | succ i =>
      obtain ⟨x, B', h1, h2⟩ := RepL.getA (i := i) r2 (by simpa using e)
      exact ⟨x, B', by simpa using h1, h2⟩
section
variable {K : RC} {fr : Fr} {ρ : Env} {σ : L2.St} {H : Hp}
theorem Sim.pushB {i : Nat} {d : D} {x : V} (S : Sim K fr ρ σ H) {A : List Addr} (T : SimA K fr ρ σ H A) (r : Rep K (hid (A ++ fr.N) H) H d x []) : Sim K fr (some d :: ρ) (some x :: σ) H :=
  ⟨A, T.next (fun a z => .inl z) T.nd (fun a o _ e => e) ⟨some x, σ, [], A, rfl, rfl, ⟨x, rfl, r⟩, T.sl⟩⟩
theorem Sim.look {i j : Nat} {d e : D} {ds : List D} (S : Sim K fr ρ σ H) (h : ρ[i]? = some (some d)) (hi : items d = some ds) (hj : ds[j]? = some e) (hf : fro e = true) :
    ∃ p xs v, σ[i]? = some (some (.ref p)) ∧ (if isL d = true then SqL K.K H p xs else SqT K.K H p xs) ∧ xs.length = ds.length ∧ xs[j]? = some v ∧ Sim K fr (some e :: ρ) (some v :: σ) H := by
  obtain ⟨A, T⟩ := id S
  obtain ⟨s, A1, B, A2, e1, eA, ⟨v, rfl, r⟩, _⟩ := T.sl.at h
  have hH : ∀ a o, hid (A ++ fr.N) H a = some o → H a = some o := fun a o e => (hid_some.mp e).2
  have go : ∀ xs B', RepL K (hid (A ++ fr.N) H) H ds xs B' → ∃ v, xs[j]? = some v ∧ Sim K fr (some e :: ρ) (some v :: σ) H := fun xs B' r => by
    obtain ⟨x, B'', h1, h2⟩ := r.getA hj
    have := fro_rep hf h2
    subst this
    exact ⟨x, h1, S.pushB (i := i) T h2⟩
  cases d with
  | tup es =>
    cases hi
    obtain ⟨_, a, xs, rfl, s, r⟩ := r
    obtain ⟨x, h1, h2⟩ := go xs _ r
    exact ⟨a, xs, x, e1, SqT.mono hH (SqT.of s), r.len, h1, h2⟩
  | lst o es =>
    cases hi
    cases o with
    | false =>
      obtain ⟨_, a, xs, rfl, s, r⟩ := r
      obtain ⟨x, h1, h2⟩ := go xs _ r
      exact ⟨a, xs, x, e1, SqL.of (hH _ _ s), r.len, h1, h2⟩
    | true =>
      obtain ⟨a, xs, B1, rfl, _, s, r⟩ := r
      obtain ⟨x, h1, h2⟩ := go xs _ r
      exact ⟨a, xs, x, e1, SqL.of s, r.len, h1, h2⟩
  | scr ns =>
    cases hi
    obtain ⟨_, a, rfl, s⟩ := r
    obtain ⟨x, h1, h2⟩ := go _ _ (rep_ints ns)
    exact ⟨a, _, x, e1, SqL.mono hH s, by simp, h1, h2⟩
  | _ => cases hi
end
def eVix (i : Nat) (fj : M D) : M D := fun ρ => match ρ[i]? with
  | some (some _) => mbind fj (fun y ρ1 => match y with
    | .int j => (match ρ1[i]? with
      | some (some d) => (match (items d).bind fun ds => atI ds j with
        | some e => if fro e = true then .ok e ρ1 else .stuck
        | none => .stuck)
      | _ => .stuck)
    | _ => .stuck) ρ
  | _ => .stuck
section
variable {ι : Type} {X : ι → Cx} {K : RC} {W : WX} {k : Nat} {b : Expr} {fb : M D} {pos : Pos}
theorem Sim.slotV {fr : Fr} {ρ : Env} {σ : L2.St} {H : Hp} {i : Nat} {d : D} (S : Sim K fr ρ σ H) (h : ρ[i]? = some (some d)) : ∃ v, σ[i]? = some (some v) := by
  obtain ⟨v, e, _⟩ := S.move h
  exact ⟨v, e⟩
theorem ed_vix (i : Nat) {x : Str} {p0 : Pos} (c : CF X K W k) (h : ∀ j, PE (X j) (.Name x p0) (tVar i)) (hb : ED X K W b fb) (hs : PlainIx b := by exact fun _ _ => rfl) : ED X K W (.Subscript (.Name x p0) b pos) (eVix i fb) := by
  obtain ⟨tb, pb, sb⟩ := hb.ex
  refine ⟨tOp (rIx K.K) (tVar i) tb, (fun j => pe_ix (by rw [← c.kk j]; exact ix_seq) (h j) (pb j) hs), fun fr ρ σ H Q S q => ?_⟩
  unfold eVix at q
  split at q
  rotate_left
  · exact q.elim
  rename_i d0 e0
  obtain ⟨v0, hv0⟩ := S.slotV e0
  refine ⟨v0, hv0, ?_⟩
  refine sb fr ρ σ H _ S ((QR.bind q).mono fun y ρ1 q1 vy H1 S1 => ?_)
  split at q1
  rotate_left
  · exact q1.elim
  rename_i j
  split at q1
  rotate_left
  · exact q1.elim
  rename_i d e1
  have hy := S1.topF rfl
  subst hy
  cases hit : items d with
  | none => rw [hit] at q1; exact q1.elim
  | some ds =>
    rw [hit] at q1
    simp only [Option.bind_some] at q1
    cases ha : atI ds j with
    | none => rw [ha] at q1; exact q1.elim
    | some e =>
      rw [ha] at q1
      by_cases hf : fro e = true
      · simp only [hf, if_true] at q1
        have hj : ∃ n : Nat, ds[n]? = some e := by
          unfold atI at ha
          cases hn : ixN ds.length j with
          | none => rw [hn] at ha; cases ha
          | some n => rw [hn] at ha; exact ⟨n, ha⟩
        obtain ⟨n, hn, hx⟩ : ∃ n : Nat, ds[n]? = some e ∧ ∀ (α : Type) (xs : List α) (x : α), xs.length = ds.length → xs[n]? = some x → atI xs j = some x := by
          unfold atI at ha ⊢
          cases hn : ixN ds.length j with
          | none => rw [hn] at ha; cases ha
          | some n => rw [hn] at ha; exact ⟨n, ha, fun α xs x hl hx => by rw [hl, hn]; exact hx⟩
        obtain ⟨p, xs, v, h1, h2, h3, h4, S2⟩ := S1.drop.look e1 hit hn hf
        rw [hv0] at h1
        cases h1
        have hL := hx V xs v h3 h4
        by_cases hk : isL d = true
        · rw [if_pos hk] at h2
          exact .inl ⟨p, xs, j, v, rfl, rfl, h2, hL, q1 v H1 S2⟩
        · rw [if_neg hk] at h2
          exact .inr (.inl ⟨p, xs, j, v, rfl, rfl, h2, hL, q1 v H1 S2⟩)
      · simp only [hf] at q1
        exact q1.elim
end
end DL

set_option Elab.async false
set_option linter.all false
set_option maxRecDepth 100000
set_option maxHeartbeats 4000000
namespace DL
open PySem PySem.Spec L2
/-! ### dict displays, constant keys -/
theorem putK_new {k : Key} {v : V} {kvs : List (Key × V)} (h : k ∉ kvs.map Prod.fst) : putK kvs k v = kvs ++ [(k, v)] := by
  unfold putK
  rw [if_neg]
  intro h'
  obtain ⟨kv, h1, h2⟩ := List.any_eq_true.mp h'
  exact h (List.mem_map.mpr ⟨kv, h1, of_decide_eq_true h2⟩)
theorem mergeK_app : ∀ {more kvs : List (Key × V)}, (kvs.map Prod.fst ++ more.map Prod.fst).Nodup → mergeK kvs more = kvs ++ more
  | [], kvs, _ => by rw [List.append_nil]; rfl
  | (k, v) :: r, kvs, h => by
    show mergeK (putK kvs k v) r = _
    have hk : k ∉ kvs.map Prod.fst := fun z => (List.nodup_append.mp h).2.2 k z k List.mem_cons_self rfl
    rw [putK_new hk, mergeK_app (by
      rw [List.map_append, List.append_assoc]
      exact h), List.append_assoc]
    rfl
section
variable {K : RC} {fr : Fr} {ρ : Env} {σ : L2.St} {H : Hp} {ds : List D} {vs : List V} {ks : List Key} {p : Addr}
theorem Sim.newDk (S : Sim K fr ρ σ H) (hp : H p = none) : Sim K fr (some (.dk true [] []) :: ρ) (some (.ref p) :: σ) (upd H p (.dK [])) := by
  obtain ⟨A, S⟩ := S
  have tr := S.sl.tr
  have sub : ∀ a ∈ p :: A, a ∈ A ∨ H a = none := fun a z => by
    rcases List.mem_cons.mp z with z | z
    · subst z; exact .inr hp
    · exact .inl z
  have kp : ∀ a o, H a = some o → upd H p (.dK []) a = some o := fun a o e => by rw [upd_ne (ne_of_none e hp)]; exact e
  have f := S.fro sub (H' := upd H p (.dK [])) fun a o _ e => kp a o e
  exact ⟨p :: A, S.next sub (nodup_cons_fresh S.nd hp tr) (fun a o _ e => kp a o e) ⟨some (.ref p), σ, [p], A, rfl, rfl, ⟨.ref p, rfl, p, [], [], rfl, rfl, upd_same, rfl, rfl, rfl⟩, S.sl.mono f fun a _ o e => kp a o e⟩⟩
theorem zip_fst : ∀ {ks : List Key} {vs : List V}, ks.length = vs.length → (ks.zip vs).map Prod.fst = ks
  | [], [], _ => rfl
  | k :: ks, v :: vs, h => by
    show k :: ((ks.zip vs).map Prod.fst) = _
    rw [zip_fst (by simpa using h)]
theorem zip_snd : ∀ {ks : List Key} {vs : List V}, ks.length = vs.length → (ks.zip vs).map Prod.snd = vs
  | [], [], _ => rfl
  | k :: ks, v :: vs, h => by
    show v :: ((ks.zip vs).map Prod.snd) = _
    rw [zip_snd (by simpa using h)]
theorem Sim.fillD (S : Sim K fr (some (.dk true [] []) :: (ds.map some ++ ρ)) (some (.ref p) :: (vs.map some ++ σ)) H) (hl : vs.length = ds.length) (hk : ks.length = ds.length) : H p = some (.dK []) ∧ Sim K fr (some (.dk true ks ds) :: ρ) (some (.ref p) :: σ) (upd H p (.dK (ks.zip vs))) := by
  obtain ⟨A, S⟩ := S
  obtain ⟨s1, τ1, B1, C1, e1, rfl, ⟨v1, ev, r1⟩, r2⟩ := S.sl
  injection e1 with e1 e2
  subst e1 e2
  cases ev
  obtain ⟨a, kvs, B, ea, rfl, hx, hks, r1⟩ := r1
  cases ea
  have hkv : kvs = [] := by simpa using hks
  subst hkv
  have hB : B = [] := r1.2
  subst hB
  obtain ⟨A1, A2, rfl, q1, q2⟩ := Sl.cut (by simpa using hl) r2
  refine ⟨hx, p :: (A1 ++ A2), ?_⟩
  have sub : ∀ b ∈ p :: (A1 ++ A2), b ∈ p :: [] ++ (A1 ++ A2) ∨ H b = none := fun b z => .inl z
  have nd0 : (p :: (A1 ++ A2)).Nodup := S.nd
  have pn : p ∉ A1 ++ A2 := (List.nodup_cons.mp nd0).1
  have kp : ∀ b o, b ≠ p → H b = some o → upd H p (.dK (ks.zip vs)) b = some o := fun b o n e => by rw [upd_ne n]; exact e
  have kpA : ∀ b o, b ∉ p :: [] ++ (A1 ++ A2) → H b = some o → upd H p (.dK (ks.zip vs)) b = some o := fun b o n e => kp b o (fun z => n (by simp [z])) e
  have f := S.fro sub (H' := upd H p (.dK (ks.zip vs))) kpA
  have ne : ∀ b, b ∈ A1 ++ A2 → b ≠ p := fun b z e => pn (e ▸ z)
  have hlk : ks.length = vs.length := by rw [hk, hl]
  refine S.next sub nd0 kpA ⟨some (.ref p), _, p :: A1, A2, rfl, rfl, ⟨.ref p, rfl, p, ks.zip vs, A1, rfl, rfl, upd_same, zip_fst hlk, ?_⟩, q2.mono f fun b z o e => kp b o (ne b (by simp [z])) e⟩
  rw [zip_snd hlk]
  exact q1.repL.mono f _ _ _ fun b z o e => kp b o (ne b (by simp [z])) e
end
structure PD {ι : Type} (X : ι → Cx) (K : RC) (W : WX) (pos : Pos) (keys : List (Option Expr)) (values : List Expr) (ks : List Key) (f : M (List D)) : Prop where
  ex : ∃ trs, (∀ i, PPs (X i) pos keys values trs) ∧ ∀ fr ρ σ H Q, Sim K fr ρ σ H → QR K W fr σ (f ρ) (fun ds ρ' => ∀ vs H', vs.length = ds.length → ks.length = ds.length → Sim K fr (ds.map some ++ ρ') (vs.map some ++ σ) H' → Q ((ks.zip vs).map fun kv => (kV kv.1, kv.2)) H') → tPairs trs σ H Q
def eDict (ks : List Key) (f : M (List D)) : M D := mbind f fun ds => if ks.Nodup ∧ ks.length ≤ 15 then mret (.dk true ks ds) else mlift none
section
variable {ι : Type} {X : ι → Cx} {K : RC} {W : WX} {k : Nat} {e : Expr} {f : M D} {g : M (List D)} {pos : Pos} {ks : List Key} {keys : List (Option Expr)} {values : List Expr}
theorem pd_nil : PD X K W pos [] [] [] aNil := ⟨[], (fun _ => pps_nil), fun fr ρ σ H Q S q => q [] H rfl rfl S⟩
theorem pd_cons {ke : Expr} {y : Key} (hk : ∀ i, PE (X i) ke (tC (kV y))) (h : ED X K W e f) (hr : PD X K W pos keys values ks g) : PD X K W pos (some ke :: keys) (e :: values) (y :: ks) (aCons f g) := by
  obtain ⟨t, p, s⟩ := h.ex
  obtain ⟨u, p2, s2⟩ := hr.ex
  refine ⟨(tC (kV y), t) :: u, (fun i => pps_cons (hk i) (p i) (p2 i)), fun fr ρ σ H Q S q => ?_⟩
  refine s fr ρ σ H _ S ((QR.bind q).mono fun d ρ1 q1 v H1 S1 => ?_)
  obtain ⟨fr', S', back⟩ := S1.hold
  refine s2 fr' ρ1 σ H1 _ S' (((QR.bind q1).frame fun ρ H s => (back ρ σ H s).drop).mono fun ds ρ2 q2 vs H2 hl hk S2 => ?_)
  exact q2 (v :: vs) H2 (by simp [hl]) (by simp [hk]) (back _ _ H2 S2)
theorem ed_dict0 : ED X K W (.Dict [] [] pos) (eC (.dk true [] [])) := ⟨tDNewK, (fun _ => pe_dnewK), fun fr ρ σ H Q S q p hp => q _ _ (S.newDk hp)⟩
theorem ed_dict {y : Key} {ke : Option Expr} (h : PD X K W pos (ke :: keys) values (y :: ks) g) (hall : (ke :: keys).all (·.isSome) = true := by rfl) (hl : (ke :: keys).length = values.length := by rfl) (h15 : (ke :: keys).length ≤ 15 := by decide) : ED X K W (.Dict (ke :: keys) values pos) (eDict (y :: ks) g) := by
  obtain ⟨u, p, s⟩ := h.ex
  refine ⟨tDisp u, (fun i => pe_disp (p i) hall hl (by intro z; cases z) h15), fun fr ρ σ H Q S q a ha => ?_⟩
  have S1 := S.newDk ha
  obtain ⟨fr', S', back⟩ := S1.hold
  refine s fr' ρ σ _ _ S' (((QR.bind q).frame fun ρ H s => (back ρ σ H s).drop).mono fun ds ρ2 q2 vs H2 hlv hk S2 => ?_)
  by_cases hz : (y :: ks).Nodup ∧ (y :: ks).length ≤ 15
  · rw [if_pos hz] at q2
    obtain ⟨h1, h2⟩ := (back _ _ _ S2).fillD hlv hk
    have hlk : (y :: ks).length = vs.length := by rw [hk, hlv]
    refine ⟨h1, (y :: ks).zip vs, rfl, by rw [List.length_zip, hlk, Nat.min_self, ← hlk]; exact hz.2, ?_⟩
    rw [mergeK_app (kvs := []) (by
      rw [List.map_nil, List.nil_append, zip_fst hlk]
      exact hz.1)]
    exact q2 _ _ h2
  · rw [if_neg hz] at q2
    exact q2.elim
end
def tBor (f : M Bool) : M Bool := fun ρ => match f (ρ.map (Option.map frz)) with
  | .ok b _ => .ok b ρ
  | .exc c fs _ => .exc c fs ρ
  | .stuck => .stuck
def keepsW : True := trivial
theorem CF.w0 {ι : Type} {X : ι → Cx} {K : RC} {W : WX} {k : Nat} (c : CF X K W k) : CF X K W0 k := ⟨c.K, c.calm, c.room, (fun _ => takes0), c.nd⟩
end DL

set_option Elab.async false
set_option linter.all false
set_option maxRecDepth 100000
set_option maxHeartbeats 4000000
namespace DL
open PySem PySem.Spec L2
theorem walk_ofEW {l : PySem.W.OpenLaw} {n k : Nat} {q : Program} {loose : List Str} {XP : (Str → Option Value) → Heap → Prop} {YP : World → Heap → Prop} {d : DefRec} {CX : World → CXT} {x : Str}
    (hn : l.most = some n) (hn2 : n ≤ sizeLine) (hdf : d.params.defaults = []) (hr : Room k callerA)
    (F : ∀ (w : World) (mg : Str → Option Value) (fa : Addr) (h : Heap), YP w h → h.Ns mainGlobals mg → mg d.name = some (.ref fa) →
      ∃ (K : PySem.W.Frag) (fd : FuncData) (sp : Sp), K.In h ∧ (∀ (s : Shared) (u : Value), BindsTo s fd ⟨[u], []⟩ [(x, u)]) ∧
        (∀ (H : Hp) (a : Addr) (ns : List Int), ns.length ≤ n → Only H → SqL K H a (ns.map V.int) → sp [.ref a] H (fun v _ => v = .bl true) fun _ _ _ => False) ∧
        ∀ base : Heap, K.In base → base.Ns mainGlobals mg → FnOk l.prog w K mg base (CX w) k fa fd [x] sp)
    (hCX : ∀ (w : World) (H : Hp) (s : Shared) (e : Value) (s' : Shared), CX w [] H s (fun _ _ _ => False) e s' → False) :
    PySem.W.WalkO q loose XP YP l.row.toRowW d [] (fun f vs => PySem.call f vs) := by
  refine Att.attach_call hn hdf fun w s₀ s₁ mg mb fa o pm cd doc a vs ns G Y ho hd hcd hmg hobj hints hlen hg => ?_
  obtain ⟨K, fd, sp, KX, hb, hsp, hF⟩ := F w mg fa _ Y G.T.g hmg
  exact law_call KX G.T.g G.T.b G.T.builtins G.T.nolimit hg hobj hints (Nat.le_trans hlen hn2) hr hF hb (fun H hO hS => hsp H a ns hlen hO hS) fun H e s' => hCX w H s₁ e s'
theorem cx_no {P : Program} (w : World) (H : Hp) (s : Shared) (e : Value) (s' : Shared) (x : L2.CX P w [] H s (fun _ _ _ => False) e s') : False := by
  obtain ⟨a, B, H', cls, d, _, _, _, _, _, _, _, z⟩ := x
  exact z
end DL

set_option Elab.async false
set_option linter.all false
set_option maxRecDepth 100000
set_option maxHeartbeats 4000000
set_option exponentiation.threshold 9000
namespace DL
open PySem PySem.Spec L2
/-! ## plain evaluation of readings -/
theorem eqv_ii (i j : Int) : PyData.eqv (.int i) (.int j) = (i == j) := by rw [PyData.eqv]
theorem shaped_int (i : Int) : SeqAt.shaped (.int i) = true := by rfl
theorem eqB_int (i j : Int) : eqB (.int i) (.int j) = some (decide (i = j)) := by
  unfold eqB
  simp only [toPy, Option.bind_some, shaped_int, and_self, if_true, eqv_ii]
  by_cases h : i = j <;> simp [h]
theorem lt300 {n b : Nat} (hb : b ≤ 300) (h : n < 2 ^ b) : n < 2 ^ 300 := Nat.lt_of_lt_of_le h (Nat.pow_le_pow_right (by decide) hb)
theorem mulD_ok {i j : Int} (hi : i.natAbs < 2 ^ 300) (hj : j.natAbs < 2 ^ 300) : mulD (.int i) (.int j) = some (.int (i * j)) := by
  have := mulx_ok hi hj (by decide)
  simp [mulD, this]
theorem mulD_ok2 {i j : Int} (hi : -(2 ^ 80 : Int) < i ∧ i < 2 ^ 80) (hj : -(2 ^ 80 : Int) < j ∧ j < 2 ^ 80) : mulD (.int i) (.int j) = some (.int (i * j)) :=
  mulD_ok (lt300 (b := 80) (by decide) (by omega)) (lt300 (b := 80) (by decide) (by omega))
theorem fdivD_ok {i j : Int} (h1 : 0 < j) (h2 : j < 2 ^ 62) : fdivD (.int i) (.int j) = some (.int (i / j)) := by
  have : j.natAbs < 2 ^ 8000 := Nat.lt_trans (show j.natAbs < 2 ^ 62 by omega) (by decide)
  simp [fdivD, ii, h1, this]
theorem modD_ok {i j : Int} (h1 : 0 < j) : modD (.int i) (.int j) = some (.int (i % j)) := by simp [modD, ii, h1]
theorem powD_ok {i j : Int} (h1 : 0 ≤ j) (h2 : j ≤ 1000000) (h3 : i.natAbs < 2 ^ 64) : powD (.int i) (.int j) = some (.int (i ^ j.toNat)) := by simp [powD, ii, h1, h2, h3]
section
variable {α β : Type} {m : M α} {F G : SF} {ρ ρ1 ρ2 ρ3 : DL.Env} {f fa fb fc : M D} {g : M (List D)} {d x y z : D} {ds os : _} {c c2 : M Bool} {i j : Int}
theorem mbind_of {m : M α} {k : α → M β} {a : α} (h : m ρ = .ok a ρ1) : mbind m k ρ = k a ρ1 := by unfold mbind; rw [h]
theorem sE_of {m : M α} {k : α → SF} {a : α} (h : m ρ = .ok a ρ1) : sE m k ρ = k a ρ1 := by unfold sE; rw [h]
theorem e2_ok {op : D → D → Option D} (h1 : fa ρ = .ok x ρ1) (h2 : fb ρ1 = .ok y ρ2) (h3 : op x y = some d) : e2 op fa fb ρ = .ok d ρ2 := by
  unfold e2; rw [mbind_of h1, mbind_of h2, h3]; rfl
theorem e1_ok {op : D → Option D} (h1 : fa ρ = .ok x ρ1) (h3 : op x = some d) : e1 op fa ρ = .ok d ρ1 := by
  unfold e1; rw [mbind_of h1, h3]; rfl
theorem eBi_ok {op : List D → Option D} {ds : List D} (h1 : g ρ = .ok ds ρ1) (h3 : op ds = some d) : eBi op g ρ = .ok d ρ1 := by
  unfold eBi; rw [mbind_of h1, h3]; rfl
theorem aCons_ok {ds : List D} (h1 : f ρ = .ok d ρ1) (h2 : g ρ1 = .ok ds ρ2) : aCons f g ρ = .ok (d :: ds) ρ2 := by
  unfold aCons; rw [mbind_of h1, mbind_of h2]; rfl
theorem eFrz_ok (h1 : f ρ = .ok d ρ1) : eFrz f ρ = .ok (frz d) ρ1 := by
  unfold eFrz; rw [mbind_of h1]; rfl
theorem eFrz_int (h1 : f ρ = .ok (.int i) ρ1) : eFrz f ρ = .ok (.int i) ρ1 := eFrz_ok h1
theorem eBor_int (h1 : f (ρ.map (Option.map frz)) = .ok (.int i) ρ1) : eBor f ρ = .ok (.int i) ρ := by
  unfold eBor; rw [h1]; rfl
theorem eBor_bl {b : Bool} (h1 : f (ρ.map (Option.map frz)) = .ok (.bl b) ρ1) : eBor f ρ = .ok (.bl b) ρ := by
  unfold eBor; rw [h1]; rfl
theorem tBor_ok {b : Bool} (h1 : c (ρ.map (Option.map frz)) = .ok b ρ1) : tBor c ρ = .ok b ρ := by
  unfold tBor; rw [h1]
theorem sAsg_ok {k : D → DL.Env → Option DL.Env} (h1 : f ρ = .ok d ρ1) (h2 : k d ρ1 = some ρ2) : sAsg f k ρ = .nx ρ2 := by
  unfold sAsg; rw [sE_of h1]; simp only [h2]
theorem sRet_ok (h1 : f ρ = .ok d ρ1) : sRet f ρ = .ret d ρ1 := by
  unfold sRet; rw [sE_of h1]
theorem sDrop_ok (h1 : f ρ = .ok d ρ1) : sDrop f ρ = .nx ρ1 := by
  unfold sDrop; rw [sE_of h1]
theorem sIf_t (h1 : c ρ = .ok true ρ1) : sIf c F G ρ = F ρ1 := by
  unfold sIf; rw [sE_of h1]; rfl
theorem sIf_f (h1 : c ρ = .ok false ρ1) : sIf c F G ρ = G ρ1 := by
  unfold sIf; rw [sE_of h1]; rfl
theorem seq_nx (h : F ρ = .nx ρ1) : sSeq F G ρ = G ρ1 := by unfold sSeq; rw [h]
theorem seq_ret (h : F ρ = .ret d ρ1) : sSeq F G ρ = .ret d ρ1 := by unfold sSeq; rw [h]
theorem seq_exc {cn : Str} {fs : List (Str × D)} (h : F ρ = .exc cn fs ρ1) : sSeq F G ρ = .exc cn fs ρ1 := by unfold sSeq; rw [h]
theorem eCall_ok {Fn : List D → Res D} {dfl : List D} {rs : List (Nat × Nat)} {ds : List D} {os : DL.Env} (h1 : g ρ = .ok ds ρ1) (h2 : Fn (ds ++ dfl) = .ok d os) : eCall Fn g dfl rs ρ = .ok d (restore rs os ρ1) := by
  unfold eCall; rw [mbind_of h1, h2]
theorem eCall_exc {Fn : List D → Res D} {dfl : List D} {rs : List (Nat × Nat)} {ds : List D} {os : DL.Env} {cn : Str} {fs : List (Str × D)} (h1 : g ρ = .ok ds ρ1) (h2 : Fn (ds ++ dfl) = .exc cn fs os) : eCall Fn g dfl rs ρ = .exc cn fs (restore rs os ρ1) := by
  unfold eCall; rw [mbind_of h1, h2]
theorem eCall_of {Fn : List D → Res D} {dfl : List D} {rs : List (Nat × Nat)} {ds es : List D} {os : DL.Env} (h1 : g ρ = .ok ds ρ1) (hd : ds ++ dfl = es) (h2 : Fn es = .ok d os) (h3 : restore rs os ρ1 = ρ2) : eCall Fn g dfl rs ρ = .ok d ρ2 := by subst hd h3; exact eCall_ok h1 h2
theorem eCall_xof {Fn : List D → Res D} {dfl : List D} {rs : List (Nat × Nat)} {ds es : List D} {os : DL.Env} {cn : Str} {fs : List (Str × D)} (h1 : g ρ = .ok ds ρ1) (hd : ds ++ dfl = es) (h2 : Fn es = .exc cn fs os) (h3 : restore rs os ρ1 = ρ2) : eCall Fn g dfl rs ρ = .exc cn fs ρ2 := by subst hd h3; exact eCall_exc h1 h2
theorem run_ok {pr : List Nat} {n L : Nat} {b : SF} {ds : List D} {os ρ0 : DL.Env} (h : b ρ0 = .ret d ρ) (h0 : ds.map some ++ List.replicate (L - ds.length) none = ρ0) (hl : n ≤ ρ.length) (ho : outs pr n ρ = os) : runS pr n L b ds = .ok d os := by
  subst h0 ho
  unfold runS; rw [h]; exact if_pos hl
theorem run_nx {pr : List Nat} {n L : Nat} {b : SF} {ds : List D} {os ρ0 : DL.Env} (h : b ρ0 = .nx ρ) (h0 : ds.map some ++ List.replicate (L - ds.length) none = ρ0) (hl : n ≤ ρ.length) (ho : outs pr n ρ = os) : runS pr n L b ds = .ok .non os := by
  subst h0 ho
  unfold runS; rw [h]; exact if_pos hl
theorem run_exc {pr : List Nat} {n L : Nat} {b : SF} {ds : List D} {os ρ0 : DL.Env} {cn : Str} {fs : List (Str × D)} (h : b ρ0 = .exc cn fs ρ) (h0 : ds.map some ++ List.replicate (L - ds.length) none = ρ0) (hl : n ≤ ρ.length) (ho : outs pr n ρ = os) : runS pr n L b ds = .exc cn fs os := by
  subst h0 ho
  unfold runS; rw [h]; exact if_pos hl
theorem eFrz_exc {cn : Str} {fs : List (Str × D)} (h1 : f ρ = .exc cn fs ρ1) : eFrz f ρ = .exc cn fs ρ1 := by unfold eFrz mbind; rw [h1]
theorem sAsg_exc {k : D → DL.Env → Option DL.Env} {cn : Str} {fs : List (Str × D)} (h1 : f ρ = .exc cn fs ρ1) : sAsg f k ρ = .exc cn fs ρ1 := by unfold sAsg sE; rw [h1]
theorem sTry_exc {m : Str → Option Bool} {i : Nat} {G : Str → List (Str × D) → Addr → SF} {cn : Str} {fs : List (Str × D)} {r : RS} (h : F ρ = .exc cn fs ρ1) (hm : m cn = some true) (hi : i < ρ1.length) (hs : ∀ a, clr i (G cn fs a (ρ1.set i (some (.adr a)))) = r) : sTryAs F m i G ρ = r := by
  unfold sTryAs; rw [h]; simp only [hm, hi, if_true]; exact suite_eq hs
theorem sTry_nx {m : Str → Option Bool} {i : Nat} {G : Str → List (Str × D) → Addr → SF} (h : F ρ = .nx ρ1) : sTryAs F m i G ρ = .nx ρ1 := by
  unfold sTryAs; rw [h]
theorem sTry_ret {m : Str → Option Bool} {i : Nat} {G : Str → List (Str × D) → Addr → SF} (h : F ρ = .ret d ρ1) : sTryAs F m i G ρ = .ret d ρ1 := by
  unfold sTryAs; rw [h]
theorem eIsE_ok {a : Addr} {b : Bool} (h : f ρ = .ok (.adr a) ρ1) : eIsE a (some b) f ρ = .ok (.bl b) ρ1 := by
  unfold eIsE; simp only [mbind_of h, if_true]; rfl
theorem len_scr (ns : List Int) : lenD [.scr ns] = some (.int ns.length) := by simp [lenD, items]
theorem ix_scr {ns : List Int} {k : Int} (h0 : 0 ≤ k) (h1 : k < ns.length) : ∃ x, ixD (.scr ns) (.int k) = some (.int x) := by
  have hk : k.toNat < ns.length := by omega
  refine ⟨ns[k.toNat], ?_⟩
  simp [ixD, items, atI, ixN, h0, h1, hk]
theorem map_mem {α β : Type} {l : List α} {f g : α → β} (h : l.map f = l.map g) : ∀ a ∈ l, f a = g a := List.map_inj_left.mp h
theorem eB_ok {b : Bool} (h1 : f ρ = .ok (.bl b) ρ1) : eB f ρ = .ok b ρ1 := by
  unfold eB; rw [mbind_of h1]; rfl
theorem mAnd_t {b : Bool} (h1 : c ρ = .ok true ρ1) (h2 : c2 ρ1 = .ok b ρ2) : mAnd c c2 ρ = .ok b ρ2 := by
  unfold mAnd; rw [mbind_of h1, if_pos rfl, h2]
theorem mAnd_f (h1 : c ρ = .ok false ρ1) : mAnd c c2 ρ = .ok false ρ1 := by
  unfold mAnd; rw [mbind_of h1]; rfl
theorem mOr_f {b : Bool} (h1 : c ρ = .ok false ρ1) (h2 : c2 ρ1 = .ok b ρ2) : mOr c c2 ρ = .ok b ρ2 := by
  unfold mOr; rw [mbind_of h1, if_neg Bool.false_ne_true, h2]
theorem mOr_t (h1 : c ρ = .ok true ρ1) : mOr c c2 ρ = .ok true ρ1 := by
  unfold mOr; rw [mbind_of h1]; rfl
theorem mNot_ok {b : Bool} (h1 : c ρ = .ok b ρ1) : mNot c ρ = .ok (!b) ρ1 := by
  unfold mNot; rw [mbind_of h1]; rfl
theorem eAnd_t (h1 : fa ρ = .ok (.bl true) ρ1) (h2 : fb ρ1 = .ok d ρ2) : eAnd fa fb ρ = .ok d ρ2 := by
  unfold eAnd; rw [mbind_of h1]; exact h2
theorem eAnd_f (h1 : fa ρ = .ok (.bl false) ρ1) : eAnd fa fb ρ = .ok (.bl false) ρ1 := by
  unfold eAnd; rw [mbind_of h1]; rfl
theorem eOr_f (h1 : fa ρ = .ok (.bl false) ρ1) (h2 : fb ρ1 = .ok d ρ2) : eOr fa fb ρ = .ok d ρ2 := by
  unfold eOr; rw [mbind_of h1]; exact h2
theorem eOr_t (h1 : fa ρ = .ok (.bl true) ρ1) : eOr fa fb ρ = .ok (.bl true) ρ1 := by
  unfold eOr; rw [mbind_of h1]; rfl
theorem eNot_ok {b : Bool} (h1 : fa ρ = .ok (.bl b) ρ1) : eNot fa ρ = .ok (.bl !b) ρ1 := by
  unfold eNot; rw [mbind_of h1]; rfl
theorem eIf_t (h1 : c ρ = .ok true ρ1) (h2 : fa ρ1 = .ok d ρ2) : eIf c fa fb ρ = .ok d ρ2 := by
  unfold eIf; rw [mbind_of h1, if_pos rfl, h2]
theorem eIf_f (h1 : c ρ = .ok false ρ1) (h2 : fb ρ1 = .ok d ρ2) : eIf c fa fb ρ = .ok d ρ2 := by
  unfold eIf; rw [mbind_of h1, if_neg Bool.false_ne_true, h2]
theorem eTup_ok {ds : List D} (h1 : g ρ = .ok ds ρ1) (h : ds.length ≤ 1000) : eTup g ρ = .ok (.tup (frzL ds)) ρ1 := by
  unfold eTup; rw [mbind_of h1, if_pos (Nat.le_trans h (by rw [sizeLine_eq]; decide))]; rfl
theorem eLst_ok {ds : List D} (h1 : g ρ = .ok ds ρ1) (h : ds.length ≤ 1000) : eLst g ρ = .ok (.lst true ds) ρ1 := by
  unfold eLst; rw [mbind_of h1, if_pos (Nat.le_trans h (by rw [sizeLine_eq]; decide))]; rfl
theorem eInst_ok {T : Ty} {b : Bool} (h1 : f ρ = .ok d ρ1) (h : instB T d = some b) : eInst T f ρ = .ok (.bl b) ρ1 := by
  unfold eInst; rw [mbind_of h1, h]; rfl
theorem add_ok (h1 : fa ρ = .ok (.int i) ρ1) (h2 : fb ρ1 = .ok (.int j) ρ2) : e2 addD fa fb ρ = .ok (.int (i + j)) ρ2 := e2_ok h1 h2 rfl
theorem sub_ok (h1 : fa ρ = .ok (.int i) ρ1) (h2 : fb ρ1 = .ok (.int j) ρ2) : e2 subD fa fb ρ = .ok (.int (i - j)) ρ2 := e2_ok h1 h2 rfl
theorem mul_ok {k : Int} (h1 : fa ρ = .ok (.int i) ρ1) (h2 : fb ρ1 = .ok (.int j) ρ2) (h3 : mulD (.int i) (.int j) = some (.int k)) : e2 mulD fa fb ρ = .ok (.int k) ρ2 := e2_ok h1 h2 h3
theorem mod_ok {k : Int} (h1 : fa ρ = .ok (.int i) ρ1) (h2 : fb ρ1 = .ok (.int j) ρ2) (h3 : modD (.int i) (.int j) = some (.int k)) : e2 modD fa fb ρ = .ok (.int k) ρ2 := e2_ok h1 h2 h3
theorem fdiv_ok {k : Int} (h1 : fa ρ = .ok (.int i) ρ1) (h2 : fb ρ1 = .ok (.int j) ρ2) (h3 : fdivD (.int i) (.int j) = some (.int k)) : e2 fdivD fa fb ρ = .ok (.int k) ρ2 := e2_ok h1 h2 h3
theorem ix_int (h1 : fa ρ = .ok x ρ1) (h2 : fb ρ1 = .ok y ρ2) (h3 : ixD x y = some (.int i)) : e2 ixD fa fb ρ = .ok (.int i) ρ2 := e2_ok h1 h2 h3
theorem int_ok (h1 : g ρ = .ok [.int i] ρ1) : eBi intD g ρ = .ok (.int i) ρ1 := eBi_ok h1 rfl
/-! tests of ints -/
theorem lt_ok (h1 : fa ρ = .ok (.int i) ρ1) (h2 : fb ρ1 = .ok (.int j) ρ2) {b : Bool} (h : decide (i < j) = b) : e2 ltD fa fb ρ = .ok (.bl b) ρ2 := e2_ok h1 h2 (by rw [← h]; rfl)
theorem gt_ok (h1 : fa ρ = .ok (.int i) ρ1) (h2 : fb ρ1 = .ok (.int j) ρ2) {b : Bool} (h : decide (j < i) = b) : e2 gtD fa fb ρ = .ok (.bl b) ρ2 := e2_ok h1 h2 (by rw [← h]; rfl)
theorem le_ok (h1 : fa ρ = .ok (.int i) ρ1) (h2 : fb ρ1 = .ok (.int j) ρ2) {b : Bool} (h : decide (i ≤ j) = b) : e2 lebD fa fb ρ = .ok (.bl b) ρ2 := e2_ok h1 h2 (by rw [← h]; rfl)
theorem ge_ok (h1 : fa ρ = .ok (.int i) ρ1) (h2 : fb ρ1 = .ok (.int j) ρ2) {b : Bool} (h : decide (j ≤ i) = b) : e2 geD fa fb ρ = .ok (.bl b) ρ2 := e2_ok h1 h2 (by rw [← h]; rfl)
theorem eqi_ok (h1 : fa ρ = .ok (.int i) ρ1) (h2 : fb ρ1 = .ok (.int j) ρ2) {b : Bool} (h : decide (i = j) = b) : e2 eqD fa fb ρ = .ok (.bl b) ρ2 := e2_ok h1 h2 (by unfold eqD; rw [eqB_int, ← h]; rfl)
theorem nei_ok (h1 : fa ρ = .ok (.int i) ρ1) (h2 : fb ρ1 = .ok (.int j) ρ2) {b : Bool} (h : (!decide (i = j)) = b) : e2 neD fa fb ρ = .ok (.bl b) ρ2 := e2_ok h1 h2 (by unfold neD; rw [eqB_int, ← h]; rfl)
/-- a range of tests a <= x <= b -/
theorem chain_ok {k l : Int} (h1 : fa ρ = .ok (.int i) ρ1) (h2 : fb ρ1 = .ok (.int j) ρ2) (h3 : fc ρ2 = .ok (.int k) ρ3) (hp : ρ3 = ρ2) {b : Bool} (h : decide (i ≤ j ∧ j ≤ k) = b) : eChain lebD lebD fa fb fc ρ = .ok (.bl b) ρ2 := by
  subst hp
  unfold eChain
  rw [mbind_of h1, mbind_of h2]
  by_cases c1 : i ≤ j
  · have e : lebD (.int i) (.int j) = some (.bl true) := by simp [lebD, ii, c1]
    rw [e]
    show mbind fc (fun z => mlift (lebD (.int j) z)) _ = _
    rw [mbind_of h3, ← h]
    simp [lebD, ii, mlift, c1]
  · have e : lebD (.int i) (.int j) = some (.bl false) := by simp [lebD, ii, c1]
    rw [e, ← h]
    simp [mbind, mlift, isB, mret, c1]
theorem forGo_inv {k : D → DL.Env → Option DL.Env} {b : SF} (I : DL.Env → Prop) : ∀ (ds : List D) (ρ : DL.Env), (∀ d ∈ ds, ∀ ρ, I ρ → ∃ ρ1 ρ2, k d ρ = some ρ1 ∧ b ρ1 = .nx ρ2 ∧ I ρ2) → I ρ → ∃ ρ', forGo k b ds ρ = .nx ρ' ∧ I ρ'
  | [], ρ, _, hI => ⟨ρ, rfl, hI⟩
  | d :: ds, ρ, h, hI => by
    obtain ⟨ρ1, ρ2, e1, e2, hI2⟩ := h d List.mem_cons_self ρ hI
    obtain ⟨ρ', e3, hI3⟩ := forGo_inv I ds ρ2 (fun d hd => h d (List.mem_cons_of_mem _ hd)) hI2
    refine ⟨ρ', ?_, hI3⟩
    unfold forGo
    simp only [e1, e2, e3]
theorem sFor_inv {fi : M (List D)} {k : D → DL.Env → Option DL.Env} {b : SF} {ds : List D} (I : DL.Env → Prop) (h1 : fi ρ = .ok ds ρ1) (h0 : I ρ1) (h : ∀ d ∈ ds, ∀ ρ, I ρ → ∃ ρ1 ρ2, k d ρ = some ρ1 ∧ b ρ1 = .nx ρ2 ∧ I ρ2) : ∃ ρ', sFor fi k b ρ = .nx ρ' ∧ I ρ' := by
  unfold sFor
  rw [sE_of h1]
  exact forGo_inv I ds ρ1 h h0
theorem for_then {fi : M (List D)} {k : D → DL.Env → Option DL.Env} {b : SF} {ds : List D} (I : DL.Env → Prop) (h1 : fi ρ = .ok ds ρ1) (h0 : I ρ1) (h : ∀ d ∈ ds, ∀ ρ, I ρ → ∃ ρ1 ρ2, k d ρ = some ρ1 ∧ b ρ1 = .nx ρ2 ∧ I ρ2) (h2 : ∀ ρ', I ρ' → ∃ ρ2, G ρ' = .ret d ρ2 ∧ I ρ2) : ∃ ρ2, sSeq (sFor fi k b) G ρ = .ret d ρ2 ∧ I ρ2 := by
  obtain ⟨ρ', e, hI⟩ := sFor_inv I h1 h0 h
  obtain ⟨ρ2, e2, hI2⟩ := h2 ρ' hI
  exact ⟨ρ2, (seq_nx e).trans e2, hI2⟩
theorem rgD_mem {a b : Int} {d : D} (h : d ∈ rgD a b) : ∃ i : Int, d = .int i ∧ a ≤ i ∧ i < b := by
  unfold rgD at h
  obtain ⟨n, hn, rfl⟩ := List.mem_map.mp h
  have := List.mem_range.mp hn
  exact ⟨_, rfl, by omega, by omega⟩
end
end DL

set_option Elab.async false
set_option linter.all false
set_option maxRecDepth 100000
set_option maxHeartbeats 4000000
namespace DL
open PySem PySem.Spec L2
section
variable {K : RC} {fr : Fr} {ρ : DL.Env} {σ : L2.St} {H : Hp}
theorem Sim.frzN : ∀ {ds : List D} {vs : List V} {ρ : DL.Env} {fr : Fr}, vs.length = ds.length → Sim K fr (ds.map some ++ ρ) (vs.map some ++ σ) H → Sim K fr ((frzL ds).map some ++ ρ) (vs.map some ++ σ) H
  | [], [], ρ, fr, _, S => S
  | d :: ds, v :: vs, ρ, fr, hl, S => by
    have S1 : Sim K fr (some d :: (ds.map some ++ ρ)) (some v :: (vs.map some ++ σ)) H := S
    obtain ⟨fr', S2, back⟩ := S1.frz.hold
    exact back _ _ _ (Sim.frzN (by simpa using hl) S2)
theorem repL_frz {F H : Hp} : ∀ {ds : List D} {vs : List V} {A : List Addr}, RepL K F H (frzL ds) vs A → A = []
  | [], vs, A, r => r.2
  | d :: ds, vs, A, r => by
    obtain ⟨v, ws, B, C, rfl, rfl, r1, r2⟩ := r
    rw [fro_rep (fro_frz d) r1, repL_frz r2]
    rfl
theorem Sim.holdFL {ds : List D} {vs : List V} (hl : vs.length = ds.length) (S0 : Sim K fr (ds.map some ++ ρ) (vs.map some ++ σ) H) : ∃ fr', Sim K fr' ρ σ H ∧ RepL K (VF fr') H (frzL ds) vs [] ∧ ∀ ρ' σ' H', Sim K fr' ρ' σ' H' → Sim K fr ρ' σ' H' := by
  obtain ⟨A, S⟩ := S0.frzN hl
  obtain ⟨A1, C, rfl, q1, r2⟩ := Sl.cut (by simp [hl, frzL_len]) S.sl
  have r1 := q1.repL
  have := repL_frz r1
  subst this
  refine ⟨⟨hid C H, fr.N⟩, ⟨C, r2, S.nd, fun a z => ⟨(S.off a z).1, by show hid C H a = none; unfold hid; rw [if_pos z]⟩, fun a o e => (hid_some.mp e).2, fun a z => ?_⟩, ?_, ?_⟩
  · obtain ⟨o, e⟩ := S.tr a z
    exact ⟨o, hid_some.mpr ⟨fun w => (S.off a w).1 z, S.keep a o e⟩⟩
  · refine RepL.mono (fun a o e => ?_) _ _ [] (fun _ z => nomatch z) r1
    obtain ⟨n, e⟩ := hid_some.mp e
    exact hid_some.mpr ⟨fun z => n (List.mem_append_right _ z), hid_some.mpr ⟨fun z => n (List.mem_append_left _ z), e⟩⟩
  · rintro ρ' σ' H' ⟨A', U⟩
    refine ⟨A', U.sl, U.nd, fun a z => ⟨(U.off a z).1, ?_⟩, fun a o e => ?_, S.tr⟩
    · cases g : fr.G a with
      | none => rfl
      | some o =>
        have q : hid C H a = none := (U.off a z).2
        have nC : a ∉ C := fun w => by rw [(S.off a w).2] at g; cases g
        rw [show hid C H a = some o from hid_some.mpr ⟨nC, S.keep a o g⟩] at q
        cases q
    · have nC : a ∉ C := fun w => by rw [(S.off a w).2] at e; cases e
      exact U.keep a o (hid_some.mpr ⟨nC, S.keep a o e⟩)
/-! ### reversed -/
theorem yields_revL {ds : List D} {xs : List V} {H0 : Hp} {a : Addr} (hs : SqL K.K (VF fr) a xs) (r : RepL K (VF fr) H0 ds xs []) : Yields K (Itv K.K a xs.length) fr ds.reverse where
  go := fun i H ρ σ S hi => by
    have hl := r.len
    rw [List.length_reverse] at hi
    refine ⟨by omega, xs, xs[xs.length - 1 - i]'(by omega), SqL.mono S.vfH hs, List.getElem?_eq_getElem _⟩
  stop := fun i H ρ σ S hi => by
    have hl := r.len
    rw [List.length_reverse] at hi
    show xs.length ≤ i
    omega
  yld := fun i H x H' ρ σ d S e hy => by
    obtain ⟨rfl, h⟩ := hy
    have hl := r.len
    have hi : i < ds.reverse.length := (List.getElem?_eq_some_iff.mp e).1
    rw [List.length_reverse] at hi
    rw [List.getElem?_reverse hi, ← hl] at e
    obtain ⟨x', hx, q⟩ := r.get e
    have := h xs (SqL.mono S.vfH hs)
    rw [hx] at this
    cases this
    exact S.pushG q
theorem yields_revT {ds : List D} {xs : List V} {H0 : Hp} {a : Addr} (hs : SqT K.K (VF fr) a xs) (r : RepL K (VF fr) H0 ds xs []) : Yields K (RT.ItvT K.K a xs.length) fr ds.reverse where
  go := fun i H ρ σ S hi => by
    have hl := r.len
    rw [List.length_reverse] at hi
    refine ⟨by omega, xs, xs[xs.length - 1 - i]'(by omega), SqT.mono S.vfH hs, List.getElem?_eq_getElem _⟩
  stop := fun i H ρ σ S hi => by
    have hl := r.len
    rw [List.length_reverse] at hi
    show xs.length ≤ i
    omega
  yld := fun i H x H' ρ σ d S e hy => by
    obtain ⟨rfl, h⟩ := hy
    have hl := r.len
    have hi : i < ds.reverse.length := (List.getElem?_eq_some_iff.mp e).1
    rw [List.length_reverse] at hi
    rw [List.getElem?_reverse hi, ← hl] at e
    obtain ⟨x', hx, q⟩ := r.get e
    have := h xs (SqT.mono S.vfH hs)
    rw [hx] at this
    cases this
    exact S.pushG q
/-! ### zip of two lists, of two tuples -/
def zipD : List D → List D → List D
  | x :: xs, y :: ys => .tup [x, y] :: zipD xs ys
  | _, _ => []
theorem zipD_get : ∀ {xs ys : List D} {i : Nat} {d : D}, (zipD xs ys)[i]? = some d → ∃ x y, xs[i]? = some x ∧ ys[i]? = some y ∧ d = .tup [x, y]
  | [], ys, i, d, h => by simp [zipD] at h
  | x :: xs, [], i, d, h => by simp [zipD] at h
  | x :: xs, y :: ys, 0, d, h => by
    have : D.tup [x, y] = d := by simpa [zipD] using h
    exact ⟨x, y, rfl, rfl, this.symm⟩
  | x :: xs, y :: ys, i + 1, d, h => by
    obtain ⟨a, b, h1, h2, h3⟩ := zipD_get (xs := xs) (ys := ys) (i := i) (d := d) (by simpa [zipD] using h)
    exact ⟨a, b, by simpa using h1, by simpa using h2, h3⟩
theorem zipD_len : ∀ xs ys : List D, (zipD xs ys).length = min xs.length ys.length
  | [], ys => by simp [zipD]
  | x :: xs, [] => by simp [zipD]
  | x :: xs, y :: ys => by simp [zipD, zipD_len xs ys]
theorem zip_yld {d1 d2 : D} {x y : V} {T : Addr} {ρ : DL.Env} {σ : L2.St} {H H0 : Hp} (S : Sim K fr ρ σ H) (r1 : Rep K (VF fr) H0 d1 x []) (r2 : Rep K (VF fr) H0 d2 y []) (hT : H T = none) : Sim K fr (some (.tup [d1, d2]) :: ρ) (some (.ref T) :: σ) (upd H T (.tup [x, y])) := by
  have S1 : Sim K fr ([d1, d2].map some ++ ρ) ([x, y].map some ++ σ) H := (S.pushG r2).pushG r1
  have z := S1.newT rfl hT
  have e1 := Rep.frz_id d1 x r1
  have e2 := Rep.frz_id d2 y r2
  rw [show frzL [d1, d2] = [frz d1, frz d2] from rfl, e1, e2] at z
  exact z
theorem yields_zipL {ds es : List D} {xs ys : List V} {H0 : Hp} {a b : Addr} (hs : SqL K.K (VF fr) a xs) (r : RepL K (VF fr) H0 ds xs []) (hs2 : SqL K.K (VF fr) b ys) (r2 : RepL K (VF fr) H0 es ys []) : Yields K (Itz K.K a b) fr (zipD ds es) where
  go := fun i H ρ σ S hi => by
    obtain ⟨x, y, h1, h2, _⟩ := zipD_get (List.getElem?_eq_getElem hi)
    obtain ⟨u, hu, _⟩ := r.get h1
    obtain ⟨v, hv, _⟩ := r2.get h2
    exact ⟨xs, ys, u, v, SqL.mono S.vfH hs, SqL.mono S.vfH hs2, hu, hv⟩
  stop := fun i H ρ σ S hi => by
    rw [zipD_len, ← r.len, ← r2.len] at hi
    exact ⟨xs, ys, SqL.mono S.vfH hs, SqL.mono S.vfH hs2, by omega⟩
  yld := fun i H x H' ρ σ d S e hy => by
    obtain ⟨T, u, v, rfl, hT, rfl, h1, h2⟩ := hy
    obtain ⟨p, q, hp, hq, rfl⟩ := zipD_get e
    obtain ⟨u', hu, ru⟩ := r.get hp
    obtain ⟨v', hv, rv⟩ := r2.get hq
    have e1 := h1 xs (SqL.mono S.vfH hs)
    have e2 := h2 ys (SqL.mono S.vfH hs2)
    rw [hu] at e1
    rw [hv] at e2
    cases e1
    cases e2
    exact zip_yld S ru rv hT
theorem yields_zipT {ds es : List D} {xs ys : List V} {H0 : Hp} {a b : Addr} (hs : SqT K.K (VF fr) a xs) (r : RepL K (VF fr) H0 ds xs []) (hs2 : SqT K.K (VF fr) b ys) (r2 : RepL K (VF fr) H0 es ys []) : Yields K (RZ.ItzT K.K a b) fr (zipD ds es) where
  go := fun i H ρ σ S hi => by
    obtain ⟨x, y, h1, h2, _⟩ := zipD_get (List.getElem?_eq_getElem hi)
    obtain ⟨u, hu, _⟩ := r.get h1
    obtain ⟨v, hv, _⟩ := r2.get h2
    exact ⟨xs, ys, u, v, SqT.mono S.vfH hs, SqT.mono S.vfH hs2, hu, hv⟩
  stop := fun i H ρ σ S hi => by
    rw [zipD_len, ← r.len, ← r2.len] at hi
    exact ⟨xs, ys, SqT.mono S.vfH hs, SqT.mono S.vfH hs2, by omega⟩
  yld := fun i H x H' ρ σ d S e hy => by
    obtain ⟨T, u, v, rfl, hT, rfl, h1, h2⟩ := hy
    obtain ⟨p, q, hp, hq, rfl⟩ := zipD_get e
    obtain ⟨u', hu, ru⟩ := r.get hp
    obtain ⟨v', hv, rv⟩ := r2.get hq
    have e1 := h1 xs (SqT.mono S.vfH hs)
    have e2 := h2 ys (SqT.mono S.vfH hs2)
    rw [hu] at e1
    rw [hv] at e2
    cases e1
    cases e2
    exact zip_yld S ru rv hT
/-! ### enumerate of a list -/
def enumD : Nat → List D → List D
  | _, [] => []
  | n, x :: xs => .tup [.int (n : Nat), x] :: enumD (n + 1) xs
theorem enumD_get : ∀ {xs : List D} {n i : Nat} {d : D}, (enumD n xs)[i]? = some d → ∃ x, xs[i]? = some x ∧ d = .tup [.int ((n + i : Nat) : Int), x]
  | [], n, i, d, h => by simp [enumD] at h
  | x :: xs, n, 0, d, h => by
    have : D.tup [.int (n : Nat), x] = d := by simpa [enumD] using h
    exact ⟨x, rfl, this.symm⟩
  | x :: xs, n, i + 1, d, h => by
    obtain ⟨a, h1, h2⟩ := enumD_get (xs := xs) (n := n + 1) (i := i) (d := d) (by simpa [enumD] using h)
    refine ⟨a, by simpa using h1, ?_⟩
    rw [h2, show n + 1 + i = n + (i + 1) by omega]
theorem enumD_len : ∀ (n : Nat) (xs : List D), (enumD n xs).length = xs.length
  | _, [] => rfl
  | n, x :: xs => by simp [enumD, enumD_len (n + 1) xs]
theorem yields_enum {ds : List D} {xs : List V} {H0 : Hp} {a : Addr} (hs : SqL K.K (VF fr) a xs) (r : RepL K (VF fr) H0 ds xs []) : Yields K (Ite K.K a) fr (enumD 0 ds) where
  go := fun i H ρ σ S hi => by
    obtain ⟨x, h1, _⟩ := enumD_get (List.getElem?_eq_getElem hi)
    obtain ⟨u, hu, _⟩ := r.get h1
    exact ⟨xs, u, SqL.mono S.vfH hs, hu⟩
  stop := fun i H ρ σ S hi => by
    rw [enumD_len, ← r.len] at hi
    exact ⟨xs, SqL.mono S.vfH hs, hi⟩
  yld := fun i H x H' ρ σ d S e hy => by
    obtain ⟨T, u, rfl, hT, rfl, h1⟩ := hy
    obtain ⟨p, hp, rfl⟩ := enumD_get e
    obtain ⟨u', hu, ru⟩ := r.get hp
    have e1 := h1 xs (SqL.mono S.vfH hs)
    rw [hu] at e1
    cases e1
    rw [Nat.zero_add]
    exact zip_yld S (show Rep K (VF fr) H0 (.int ((i : Nat) : Int)) (.int ((i : Nat) : Int)) [] from ⟨rfl, rfl⟩) ru hT
end
/-! ### the walks -/
def iRevD (f : M D) : M (List D) := mbind f fun d => mlift ((seqOf d).map List.reverse)
def zipOf : D → D → Option (List D)
  | .tup xs, .tup ys => some (zipD xs ys)
  | .lst _ xs, .lst _ ys => some (zipD xs ys)
  | _, _ => none
def enumOf : D → Option (List D)
  | .lst _ xs => some (enumD 0 xs)
  | .scr ns => some (enumD 0 (ns.map D.int))
  | _ => none
def zip2 : List D → Option (List D)
  | [x, y] => zipOf (frz x) (frz y)
  | _ => none
def enum1 : List D → Option (List D)
  | [x] => enumOf (frz x)
  | _ => none
theorem zip2_two {ds l : List D} (h : zip2 ds = some l) : ∃ x y, ds = [x, y] ∧ zipOf (frz x) (frz y) = some l := by
  unfold zip2 at h
  split at h
  · exact ⟨_, _, rfl, h⟩
  · cases h
theorem enum1_one {ds l : List D} (h : enum1 ds = some l) : ∃ x, ds = [x] ∧ enumOf (frz x) = some l := by
  unfold enum1 at h
  split at h
  · exact ⟨_, rfl, h⟩
  · cases h
theorem zipOf_cases {x y : D} {l : List D} (h : zipOf x y = some l) : (∃ xs ys, x = .tup xs ∧ y = .tup ys ∧ l = zipD xs ys) ∨ (∃ o xs o2 ys, x = .lst o xs ∧ y = .lst o2 ys ∧ l = zipD xs ys) := by
  unfold zipOf at h
  split at h
  · cases h; exact .inl ⟨_, _, rfl, rfl, rfl⟩
  · cases h; exact .inr ⟨_, _, _, _, rfl, rfl, rfl⟩
  · cases h
theorem enumOf_cases {x : D} {l : List D} (h : enumOf x = some l) : (∃ o xs, x = .lst o xs ∧ l = enumD 0 xs) ∨ (∃ ns, x = .scr ns ∧ l = enumD 0 (ns.map D.int)) := by
  unfold enumOf at h
  split at h
  · cases h; exact .inl ⟨_, _, rfl, rfl⟩
  · cases h; exact .inr ⟨_, rfl, rfl⟩
  · cases h
def iZipD (g : M (List D)) : M (List D) := mbind g fun ds => mlift (zip2 ds)
def iEnumD (g : M (List D)) : M (List D) := mbind g fun ds => mlift (enum1 ds)
section
variable {ι : Type} {X : ι → Cx} {K : RC} {W : WX} {k : Nat} {e a b tg : Expr} {es : List Expr} {f fa fb : M D} {g : M (List D)} {pos : Pos} {pr : List Nat}
theorem id_rev {p : Pos} (c : CF X K W k) (hg : ∀ i, Gl (X i) "reversed") (hm : K.mg "reversed" = none) (h : ED X K W e f) (hs : ∀ i, starEach [e] (X i).env = (false, eval e (X i).env) :: starEach [] (X i).env := by intro _; rfl) : ID X K W tg (.Call (.Name "reversed" p) [e] [] pos) (iRevD f) := by
  obtain ⟨t, pp, s⟩ := h.ex
  refine ⟨RT.iRevA K.K t, (fun i => by rw [← c.kk i]; exact RT.pi_revA (hg i) (by rw [c.mg i]; exact hm) (pp i) (hs i)), fun fr ρ σ H R S q => s fr ρ σ H _ S ((QR.bind q).mono fun d ρ1 q1 v H1 S1 => ?_)⟩
  obtain ⟨ds, e1, q2⟩ := QR.lift q1
  obtain ⟨fr', S2, r, back⟩ := S1.frz.holdF (fro_frz d)
  unfold seqOf at e1
  cases ed : frz d with
  | tup es =>
    rw [ed] at e1 r
    cases e1
    obtain ⟨_, a, xs, rfl, hs, r⟩ := r
    exact ⟨a, xs, rfl, .inr ⟨SqT.mono S2.vfH (SqT.of hs), q2 _ H1 fr' S2 back (yields_revT (SqT.of hs) r)⟩⟩
  | lst o es =>
    rw [ed] at e1 r
    cases e1
    cases o with
    | true =>
      have := fro_frz d
      rw [ed] at this
      cases this
    | false =>
      obtain ⟨_, a, xs, rfl, hs, r⟩ := r
      exact ⟨a, xs, rfl, .inl ⟨SqL.mono S2.vfH (SqL.of hs), q2 _ H1 fr' S2 back (yields_revL (SqL.of hs) r)⟩⟩
  | scr ns =>
    rw [ed] at e1 r
    cases e1
    obtain ⟨_, a, rfl, hs⟩ := r
    exact ⟨a, _, rfl, .inl ⟨SqL.mono S2.vfH hs, q2 _ H1 fr' S2 back (yields_revL (H0 := H1) hs (rep_ints ns))⟩⟩
  | _ => rw [ed] at e1; cases e1
theorem id_zip {p tpos : Pos} {elts : List Expr} {kk : Nat} (c : CF X K W k) (hg : ∀ i, Gl (X i) "zip") (hm : K.mg "zip" = none) (ha : AM X K W [a, b] g []) (hs : ∀ i, starEach [a, b] (X i).env = (false, eval a (X i).env) :: starEach [b] (X i).env := by intro _; rfl) (hpl : ∀ i, (backTo pos (starEach [b] (X i).env)).any (·.1) = false := by intro _; rfl) :
    ID X K W (.Tuple elts kk tpos) (.Call (.Name "zip" p) [a, b] [] pos) (iZipD g) := by
  obtain ⟨t, pa, s⟩ := ha.ex
  refine ⟨RZ.iZipA K.K t, (fun i => by rw [← c.kk i]; exact RZ.pi_zipA (hg i) (by rw [c.mg i]; exact hm) (pa i) (hs i) (hpl i)), fun fr ρ σ H R S q => s fr ρ σ H _ S ((QR.bind q).mono fun ds ρ1 q1 vs H1 hl _ S1 => ?_)⟩
  obtain ⟨l, el, q1⟩ := QR.lift q1
  obtain ⟨x, y, rfl, el⟩ := zip2_two el
  match vs, hl with
  | [vx, vy], _ =>
    obtain ⟨fr', S2, r, back⟩ := Sim.holdFL (ds := [x, y]) (vs := [vx, vy]) rfl S1
    obtain ⟨v1, w1, B, C, e1, e2, r1, v2, w2, B2, C2, e3, e4, r2, e5, e6⟩ := r
    cases e1
    cases e3
    have eB := (List.append_eq_nil_iff.mp e2.symm).1
    subst eB
    have eC := (List.append_eq_nil_iff.mp e2.symm).2
    subst eC
    have eB2 := (List.append_eq_nil_iff.mp e4.symm).1
    subst eB2
    rcases zipOf_cases el with ⟨xs, ys, h1, h2, rfl⟩ | ⟨o, xs, o2, ys, h1, h2, rfl⟩
    · rw [h1] at r1
      rw [h2] at r2
      obtain ⟨_, p, us, rfl, hs, rr⟩ := r1
      obtain ⟨_, p2, us2, rfl, hs2, rr2⟩ := r2
      exact ⟨p, p2, us, us2, rfl, .inr ⟨SqT.mono S2.vfH (SqT.of hs), SqT.mono S2.vfH (SqT.of hs2), q1 _ H1 fr' S2 back (yields_zipT (SqT.of hs) rr (SqT.of hs2) rr2)⟩⟩
    · rw [h1] at r1
      rw [h2] at r2
      have f1 := fro_frz x
      have f2 := fro_frz y
      rw [h1] at f1
      rw [h2] at f2
      cases o with
      | true => cases f1
      | false =>
        cases o2 with
        | true => cases f2
        | false =>
          obtain ⟨_, p, us, rfl, hs, rr⟩ := r1
          obtain ⟨_, p2, us2, rfl, hs2, rr2⟩ := r2
          exact ⟨p, p2, us, us2, rfl, .inl ⟨SqL.mono S2.vfH (SqL.of hs), SqL.mono S2.vfH (SqL.of hs2), q1 _ H1 fr' S2 back (yields_zipL (SqL.of hs) rr (SqL.of hs2) rr2)⟩⟩
theorem id_enum {p tpos : Pos} {elts : List Expr} {kk : Nat} (c : CF X K W k) (hg : ∀ i, Gl (X i) "enumerate") (hm : K.mg "enumerate" = none) (ha : AM X K W [a] g []) (hs : ∀ i, starEach [a] (X i).env = [(false, eval a (X i).env)] := by intro _; rfl) :
    ID X K W (.Tuple elts kk tpos) (.Call (.Name "enumerate" p) [a] [] pos) (iEnumD g) := by
  obtain ⟨t, pa, s⟩ := ha.ex
  refine ⟨iEnum K.K t, (fun i => by rw [← c.kk i]; exact pi_enum (hg i) (by rw [c.mg i]; exact hm) (pa i) (hs i)), fun fr ρ σ H R S q => s fr ρ σ H _ S ((QR.bind q).mono fun ds ρ1 q1 vs H1 hl _ S1 => ?_)⟩
  obtain ⟨l, el, q1⟩ := QR.lift q1
  obtain ⟨x, rfl, el⟩ := enum1_one el
  obtain ⟨v, rfl⟩ := one_of hl rfl
  have S1 : Sim K fr (some x :: ρ1) (some v :: σ) H1 := S1
  obtain ⟨fr', S2, r, back⟩ := S1.frz.holdF (fro_frz x)
  rcases enumOf_cases el with ⟨o, xs, h1, rfl⟩ | ⟨ns, h1, rfl⟩
  · rw [h1] at r
    have f1 := fro_frz x
    rw [h1] at f1
    cases o with
    | true => cases f1
    | false =>
      obtain ⟨_, p, us, rfl, hs, rr⟩ := r
      exact ⟨p, us, rfl, SqL.mono S2.vfH (SqL.of hs), q1 _ H1 fr' S2 back (yields_enum (SqL.of hs) rr)⟩
  · rw [h1] at r
    obtain ⟨_, p, rfl, hs⟩ := r
    exact ⟨p, _, rfl, SqL.mono S2.vfH hs, q1 _ H1 fr' S2 back (yields_enum (H0 := H1) hs (rep_ints ns))⟩
/-! ### tuple(reversed(x)), x a list -/
def eTupRev (f : M D) : M D := mbind f fun d => match d with
  | .lst _ ds => mret (.tup (frzL ds).reverse)
  | _ => mlift none
theorem frzL_rev (ds : List D) : frzL ds.reverse = (frzL ds).reverse := by
  induction ds with
  | nil => rfl
  | cons d ds ih => rw [List.reverse_cons, frzL_app, ih]; show _ = (frz d :: frzL ds).reverse; rw [List.reverse_cons]; rfl
/-! ### x op= e of ints -/
theorem ip_mulX {X : Cx} : PIp X .Mult (fun x y H Q => ∃ i j, x = .int i ∧ y = .int j ∧ CMulX i j ∧ Q (.int (i * j)) H) := by
  intro pins s σ H x y v u Q I r1 r2 h
  obtain ⟨i, j, e1, e2, hc, q⟩ := h
  subst e1; subst e2
  obtain ⟨t, rfl⟩ := r1
  obtain ⟨t', rfl⟩ := r2
  exact PyProof.Rows.imul_int ⟨.int _, H, I.tok _, ⟨_, rfl⟩, q⟩ hc.ok
def sAug (i : Nat) (F : D → D → Option D) (f : M D) : SF := fun ρ => match ρ[i]? with
  | some (some (.int n)) => sE f (fun y ρ1 => match F (.int n) y with
    | some d => if i < ρ1.length then .nx (ρ1.set i (some d)) else .stuck
    | none => .stuck) ρ
  | _ => .stuck
theorem sd_aug {op : Operator} {ti : TIp} {F : D → D → Option D} {i : Nat} {x : Str} {pos' : Pos} (hN : ∀ j, (X j).N.Nodup) (hi : ∀ j, (X j).N[i]? = some x) (hx : ∀ j, Loc (X j).env.scope x) (hf : ∀ j, (X j).fn x = true ∨ (X j).env.scope.names.lookup x = some .local) (ho : ∀ j, PIp (X j) op ti) (hp : i ∉ pr)
    (hs : ∀ n m d Q H, F (.int n) (.int m) = some d → (∃ w, flat d = some w ∧ Q w H) → ti (.int n) (.int m) H Q) (hI : ∀ n y d, F (.int n) y = some d → ∃ m, y = .int m) (hF : ∀ n m d, F (.int n) (.int m) = some d → (flat d).isSome = true) (h : ED X K W e f) : SD X K W pr (.AugAssign (.Name x pos') op e pos) (sAug i F f) := by
  obtain ⟨t, p, s⟩ := h.ex
  refine ⟨tAug i t ti, (fun j => ps_aug (hN j) (hi j) (hx j) (p j) (ho j) (hf j)), fun fr ρ σ H Dn S q => ?_⟩
  unfold sAug at q
  split at q
  rotate_left
  · exact q.elim
  rename_i n e0
  obtain ⟨v, hv, S0⟩ := S.dup e0 rfl
  have := S0.topF rfl
  subst this
  refine ⟨_, hv, s fr ρ σ H _ S (q.ofE.mono fun y ρ1 q1 vy H1 S1 => ?_)⟩
  cases ey : F (.int n) y with
  | none => rw [ey] at q1; exact q1.elim
  | some d =>
    rw [ey] at q1
    obtain ⟨m, rfl⟩ := hI n y d ey
    have := S1.topF rfl
    subst this
    obtain ⟨w, hw⟩ := Option.isSome_iff_exists.mp (hF n m d ey)
    refine hs n m d _ H1 ey ⟨w, hw, ?_⟩
    by_cases hil : i < ρ1.length
    · simp only [hil, if_true] at q1
      exact q1 _ H1 (KeepS.set hp) ((S1.drop.pushF hw).store hil)
    · simp only [hil, if_false] at q1
      exact q1.elim
end
end DL

set_option Elab.async false
set_option linter.all false
set_option maxRecDepth 100000
set_option maxHeartbeats 4000000
namespace DL
open PySem PySem.Spec L2
theorem RepL.rev {K : RC} {F H : Hp} : ∀ {ds : List D} {vs : List V}, RepL K F H ds vs [] → RepL K F H ds.reverse vs.reverse []
  | [], vs, r => by
    obtain ⟨rfl, _⟩ := r
    exact ⟨rfl, rfl⟩
  | d :: ds, vs, r => by
    obtain ⟨v, ws, B, C, rfl, e, r1, r2⟩ := r
    have e1 := (List.append_eq_nil_iff.mp e.symm).1
    have e2 := (List.append_eq_nil_iff.mp e.symm).2
    subst e1 e2
    rw [List.reverse_cons, List.reverse_cons]
    exact RepL.app (A := []) (B := []) (RepL.rev r2) ⟨v, [], [], [], rfl, rfl, r1, rfl, rfl⟩
section
variable {ι : Type} {X : ι → Cx} {K : RC} {W : WX} {k : Nat} {e : Expr} {f : M D} {pos : Pos} {pr : List Nat}
theorem ed_tupRev {p p2 pos2 : Pos} (c : CF X K W k) (hg : ∀ i, Gl (X i) "tuple") (hm : K.mg "tuple" = none) (hg2 : ∀ i, Gl (X i) "reversed") (hm2 : K.mg "reversed" = none) (h : ED X K W e f) (hs : ∀ i, starEach [e] (X i).env = (false, eval e (X i).env) :: starEach [] (X i).env := by intro _; rfl)
    (hs2 : ∀ i, starEach [.Call (.Name "reversed" p2) [e] [] pos2] (X i).env = (false, eval (.Call (.Name "reversed" p2) [e] [] pos2) (X i).env) :: starEach [] (X i).env := by intro _; rfl) :
    ED X K W (.Call (.Name "tuple" p) [.Call (.Name "reversed" p2) [e] [] pos2] [] pos) (eTupRev f) := by
  obtain ⟨t, pp, s⟩ := h.ex
  refine ⟨RT.tTupRev K.K t, (fun i => by rw [← c.kk i]; exact RT.pe_tupRev (c.calm i) (hg i) (by rw [c.mg i]; exact hm) (hg2 i) (by rw [c.mg i]; exact hm2) (pp i) (hs i) (hs2 i)), fun fr ρ σ H Q S q => s fr ρ σ H _ S ((QR.bind q).mono fun d ρ1 q1 v H1 S1 => ?_)⟩
  cases d with
  | lst o ds =>
    have S2 := S1.frz
    obtain ⟨A, T⟩ := S2
    obtain ⟨s', τ, B, C, e0, rfl, ⟨v', e1, r1⟩, r2⟩ := T.sl
    injection e0 with e2 e3
    subst e2 e3
    cases e1
    obtain ⟨hB, a, xs, rfl, hx, r⟩ := r1
    subst hB
    have hH : H1 a = some (.lst xs) := (hid_some.mp hx).2
    refine ⟨a, xs, rfl, SqL.of hH, fun l hl => q1 _ _ ?_⟩
    have S3 : Sim K fr ((frzL ds).reverse.map some ++ ρ1) (xs.reverse.map some ++ σ) H1 := ⟨C, Sl.app (A1 := []) (r.rev).sl r2, T.nd, T.off, T.keep, T.tr⟩
    have z := S3.newT (by simp [r.len]) hl
    have ef : frzL (frzL ds).reverse = (frzL ds).reverse := by rw [frzL_rev, RepL.frz_id _ _ r]
    rw [ef] at z
    exact z
  | _ => exact q1.elim
theorem sd_augA {i : Nat} {x : Str} {pos' : Pos} (hN : ∀ j, (X j).N.Nodup) (hi : ∀ j, (X j).N[i]? = some x) (hx : ∀ j, Loc (X j).env.scope x) (hf : ∀ j, (X j).fn x = true ∨ (X j).env.scope.names.lookup x = some .local) (hp : i ∉ pr) (h : ED X K W e f) : SD X K W pr (.AugAssign (.Name x pos') .Add e pos) (sAug i (ii (fun _ _ => true) fun i j => .int (i + j)) f) :=
  sd_aug hN hi hx hf (fun _ => ip_add) hp (fun n m d Q H e ⟨w, hw, q⟩ => by cases e; cases hw; exact ⟨n, m, rfl, rfl, q⟩) (fun n y d e => by
    cases y with
    | int m => exact ⟨m, rfl⟩
    | _ => cases e) (fun n m d e => by cases e; rfl) h
theorem sd_augS {i : Nat} {x : Str} {pos' : Pos} (hN : ∀ j, (X j).N.Nodup) (hi : ∀ j, (X j).N[i]? = some x) (hx : ∀ j, Loc (X j).env.scope x) (hf : ∀ j, (X j).fn x = true ∨ (X j).env.scope.names.lookup x = some .local) (hp : i ∉ pr) (h : ED X K W e f) : SD X K W pr (.AugAssign (.Name x pos') .Sub e pos) (sAug i subD f) :=
  sd_aug hN hi hx hf (fun _ => ip_sub) hp (fun n m d Q H e ⟨w, hw, q⟩ => by cases e; cases hw; exact ⟨n, m, rfl, rfl, q⟩) (fun n y d e => by
    cases y with
    | int m => exact ⟨m, rfl⟩
    | _ => cases e) (fun n m d e => by cases e; rfl) h
def mulI : D → D → Option D := ii (fun i j => decide (CMulX i j)) fun i j => .int (i * j)
theorem sd_augM {i : Nat} {x : Str} {pos' : Pos} (hN : ∀ j, (X j).N.Nodup) (hi : ∀ j, (X j).N[i]? = some x) (hx : ∀ j, Loc (X j).env.scope x) (hf : ∀ j, (X j).fn x = true ∨ (X j).env.scope.names.lookup x = some .local) (hp : i ∉ pr) (h : ED X K W e f) : SD X K W pr (.AugAssign (.Name x pos') .Mult e pos) (sAug i mulI f) :=
  sd_aug hN hi hx hf (fun _ => ip_mulX) hp (fun n m d Q H e ⟨w, hw, q⟩ => by
    have e : (if decide (CMulX n m) = true then some (D.int (n * m)) else none) = some d := e
    by_cases hc : CMulX n m
    · rw [if_pos (decide_eq_true hc)] at e
      cases e
      cases hw
      exact ⟨n, m, rfl, rfl, hc, q⟩
    · rw [if_neg (by simp [hc])] at e
      cases e) (fun n y d e => by
    cases y with
    | int m => exact ⟨m, rfl⟩
    | _ => cases e) (fun n m d e => by
    have e : (if decide (CMulX n m) = true then some (D.int (n * m)) else none) = some d := e
    by_cases hc : CMulX n m
    · rw [if_pos (decide_eq_true hc)] at e
      cases e
      rfl
    · rw [if_neg (by simp [hc])] at e
      cases e) h
end
end DL

set_option Elab.async false
set_option linter.all false
set_option maxRecDepth 100000
set_option maxHeartbeats 4000000
namespace DL
open PySem PySem.Spec L2
/-! ### in, not in: a list or a tuple of data -/
def seqP : PyData → Option (List PyData)
  | .list qs => some qs
  | .tuple qs => some qs
  | _ => none
def rInA (K : PySem.W.Frag) (neg : Bool) : R2 := fun x y H Q => ∃ d e ds, Dp K H x d ∧ Dp K H y e ∧ seqP e = some ds ∧ SeqAt.shaped d = true ∧ SeqAt.shaped e = true ∧ Q (.bl (if neg then !(ds.any fun z => PyData.eqv z d) else ds.any fun z => PyData.eqv z d)) H
theorem room_inS {A : Around} {xs : List PyData} {d : PyData} (hd : SeqAt.shaped d = true) (hu : A.units + 65 < cLine) : A.units + 1 + min (PyData.depthAll xs) d.depth < cLine := by
  have h1 := SeqAt.depth_of_shaped hd
  have h2 : min (PyData.depthAll xs) d.depth ≤ d.depth := Nat.min_le_right _ _
  omega
theorem op_inA {X : Cx} (hu : X.A.units + 65 < cLine) : OpR X (compareOp .In) (rInA X.K false) := by
  intro pins s σ H x y v u Q I rx ry h
  obtain ⟨d, e, ds, hd, he, hs, sd, se, q⟩ := h
  obtain ⟨as, r1⟩ := Dp.reads I d x v hd rx
  obtain ⟨bs, r2⟩ := Dp.reads I e y u he ry
  cases e with
  | list qs => cases hs; exact SeqAt.in_list_reads r2 r1 (SeqAt.canLay_of_shaped se) (SeqAt.canLay_of_shaped sd) (room_inS sd hu) ⟨.bl _, H, I, rfl, q⟩
  | tuple qs => cases hs; exact SeqAt.in_tuple_reads r2 r1 (SeqAt.canLay_of_shaped se) (SeqAt.canLay_of_shaped sd) (room_inS sd hu) ⟨.bl _, H, I, rfl, q⟩
  | _ => cases hs
theorem op_ninA {X : Cx} (hu : X.A.units + 65 < cLine) : OpR X (compareOp .NotIn) (rInA X.K true) := by
  intro pins s σ H x y v u Q I rx ry h
  obtain ⟨d, e, ds, hd, he, hs, sd, se, q⟩ := h
  obtain ⟨as, r1⟩ := Dp.reads I d x v hd rx
  obtain ⟨bs, r2⟩ := Dp.reads I e y u he ry
  cases e with
  | list qs => cases hs; exact SeqAt.notIn_list_reads r2 r1 (SeqAt.canLay_of_shaped se) (SeqAt.canLay_of_shaped sd) (room_inS sd hu) ⟨.bl _, H, I, rfl, q⟩
  | tuple qs => cases hs; exact SeqAt.notIn_tuple_reads r2 r1 (SeqAt.canLay_of_shaped se) (SeqAt.canLay_of_shaped sd) (room_inS sd hu) ⟨.bl _, H, I, rfl, q⟩
  | _ => cases hs
def inB (x y : D) : Option Bool := (toPy x).bind fun p => (toPy y).bind fun q => (seqP q).bind fun qs => if SeqAt.shaped p = true ∧ SeqAt.shaped q = true then some (qs.any fun z => PyData.eqv z p) else none
def inD (x y : D) : Option D := (inB x y).map D.bl
def ninD (x y : D) : Option D := (inB x y).map fun b => D.bl !b
theorem inB_some {x y : D} {b : Bool} (h : inB x y = some b) : ∃ p q qs, toPy x = some p ∧ toPy y = some q ∧ seqP q = some qs ∧ SeqAt.shaped p = true ∧ SeqAt.shaped q = true ∧ (qs.any fun z => PyData.eqv z p) = b := by
  unfold inB at h
  cases e1 : toPy x with
  | none => rw [e1] at h; cases h
  | some p =>
    cases e2 : toPy y with
    | none => rw [e1, e2] at h; cases h
    | some q =>
      cases e3 : seqP q with
      | none => rw [e1, e2] at h; simp [e3] at h
      | some qs =>
        rw [e1, e2] at h
        simp only [Option.bind_some, e3] at h
        by_cases hz : SeqAt.shaped p = true ∧ SeqAt.shaped q = true
        · rw [if_pos hz] at h
          exact ⟨p, q, qs, rfl, rfl, e3, hz.1, hz.2, Option.some.inj h⟩
        · rw [if_neg hz] at h
          cases h
section
variable {ι : Type} {X : ι → Cx} {K : RC} {W : WX} {k : Nat} {a b : Expr} {fa fb : M D} {pos : Pos}
theorem ops_in : OpS K (rInA K.K false) inD := by
  intro fr ρ σ H dx dy vx vy d Q S e q
  unfold inD at e
  cases e1 : inB dx dy with
  | none => rw [e1] at e; cases e
  | some b =>
    rw [e1] at e
    cases e
    obtain ⟨p, r, rs, h1, h2, h6, h3, h4, h5⟩ := inB_some e1
    obtain ⟨F1, B1, r1, k1⟩ := S.drop.top
    obtain ⟨F2, B2, r2, k2⟩ := S.top
    refine ⟨p, r, rs, rep_dp k1 _ _ _ _ r1 h1, rep_dp k2 _ _ _ _ r2 h2, h6, h3, h4, ?_⟩
    rw [h5]
    exact q _ H (S.drop.drop.pushF rfl)
theorem ops_nin : OpS K (rInA K.K true) ninD := by
  intro fr ρ σ H dx dy vx vy d Q S e q
  unfold ninD at e
  cases e1 : inB dx dy with
  | none => rw [e1] at e; cases e
  | some b =>
    rw [e1] at e
    cases e
    obtain ⟨p, r, rs, h1, h2, h6, h3, h4, h5⟩ := inB_some e1
    obtain ⟨F1, B1, r1, k1⟩ := S.drop.top
    obtain ⟨F2, B2, r2, k2⟩ := S.top
    refine ⟨p, r, rs, rep_dp k1 _ _ _ _ r1 h1, rep_dp k2 _ _ _ _ r2 h2, h6, h3, h4, ?_⟩
    rw [h5]
    exact q _ H (S.drop.drop.pushF rfl)
theorem CF.inD (c : CF X K W k) (i : ι) : OpR (X i) (compareOp .In) (rInA K.K false) := by rw [← c.kk i]; exact op_inA (by have := (c.room i).un; omega)
theorem CF.ninD (c : CF X K W k) (i : ι) : OpR (X i) (compareOp .NotIn) (rInA K.K true) := by rw [← c.kk i]; exact op_ninA (by have := (c.room i).un; omega)
theorem ed_in (c : CF X K W k) (ha : ED X K W a fa) (hb : ED X K W b fb) (hm : behindInMarks .In b = false := by rfl) : ED X K W (.Compare a [.In] [b] pos) (e2 inD fa fb) := ed_cmp (fun i => c.inD i) ops_in ha hb hm
theorem ed_nin (c : CF X K W k) (ha : ED X K W a fa) (hb : ED X K W b fb) (hm : behindInMarks .NotIn b = false := by rfl) : ED X K W (.Compare a [.NotIn] [b] pos) (e2 ninD fa fb) := ed_cmp (fun i => c.ninD i) ops_nin ha hb hm
theorem td_in (c : CF X K W k) (ha : ED X K W a fa) (hb : ED X K W b fb) (hm : behindInMarks .In b = false := by rfl) : TD X K W (.Compare a [.In] [b] pos) (eB (e2 inD fa fb)) := td_cmp (fun i => c.inD i) ops_in ha hb hm
theorem td_nin (c : CF X K W k) (ha : ED X K W a fa) (hb : ED X K W b fb) (hm : behindInMarks .NotIn b = false := by rfl) : TD X K W (.Compare a [.NotIn] [b] pos) (eB (e2 ninD fa fb)) := td_cmp (fun i => c.ninD i) ops_nin ha hb hm
end
end DL

set_option Elab.async false
set_option linter.all false
set_option maxRecDepth 100000
set_option maxHeartbeats 4000000
namespace DL
open PySem PySem.Spec L2
/-! ### slices of lists and tuples -/
def cutD (ds : List D) (lo hi : Option Int) : List D := (ds.drop (HT.sIx ds.length 0 lo)).take (HT.sIx ds.length ds.length hi - HT.sIx ds.length 0 lo)
def slD (d : D) (lo hi : Option Int) : Option D := match d with
  | .tup ds => some (.tup (cutD ds lo hi))
  | .lst _ ds => some (.lst true (cutD ds lo hi))
  | .scr ns => some (.lst true (cutD (ns.map D.int) lo hi))
  | _ => none
section
variable {K : RC} {fr : Fr} {ρ : DL.Env} {σ : L2.St} {H : Hp} {ds : List D} {vs : List V}
theorem Sim.cutS (S : Sim K fr (ds.map some ++ ρ) (vs.map some ++ σ) H) (hl : vs.length = ds.length) (a b : Nat) : Sim K fr (((ds.drop a).take b).map some ++ ρ) (((vs.drop a).take b).map some ++ σ) H := by
  have S1 : Sim K fr ((ds.take a).map some ++ ((ds.drop a).map some ++ ρ)) ((vs.take a).map some ++ ((vs.drop a).map some ++ σ)) H := by
    rw [← List.append_assoc, ← List.append_assoc, ← List.map_append, ← List.map_append, List.take_append_drop, List.take_append_drop]
    exact S
  have S2 := S1.dropN (by simp [hl])
  have S3 : Sim K fr (((ds.drop a).take b).map some ++ (((ds.drop a).drop b).map some ++ ρ)) (((vs.drop a).take b).map some ++ (((vs.drop a).drop b).map some ++ σ)) H := by
    rw [← List.append_assoc, ← List.append_assoc, ← List.map_append, ← List.map_append, List.take_append_drop, List.take_append_drop]
    exact S2
  obtain ⟨fr', S4, back⟩ := S3.holdN (by simp [hl])
  exact back _ _ _ (S4.dropN (by simp [hl]))
end
structure POD {ι : Type} (X : ι → Cx) (K : RC) (W : WX) (o : Option Expr) (f : M (Option Int)) : Prop where
  ex : ∃ t, (∀ i, PO (X i) o t) ∧ ∀ fr ρ σ H (Q : Option Int → Hp → Prop), Sim K fr ρ σ H → QR K W fr σ (f ρ) (fun p ρ' => ∀ H', Sim K fr ρ' σ H' → Q p H') → t σ H Q
def pNone : M (Option Int) := mret none
def pSome (f : M D) : M (Option Int) := mbind f fun d => mbind (mlift (isI d)) fun i => mret (some i)
def eSl (fa : M D) (fl fu : M (Option Int)) : M D := mbind fa fun x => mbind fl fun l => mbind fu fun u => mlift (slD x l u)
theorem frzL_take (ds : List D) : ∀ n, frzL (ds.take n) = (frzL ds).take n := by
  induction ds with
  | nil => intro n; simp [frzL]
  | cons d ds ih =>
    intro n
    cases n with
    | zero => simp [frzL]
    | succ n => simp [frzL, ih]
theorem frzL_drop (ds : List D) : ∀ n, frzL (ds.drop n) = (frzL ds).drop n := by
  induction ds with
  | nil => intro n; simp [frzL]
  | cons d ds ih =>
    intro n
    cases n with
    | zero => simp
    | succ n => simp [frzL, ih]
section
variable {ι : Type} {X : ι → Cx} {K : RC} {W : WX} {k : Nat} {a b : Expr} {fa fb : M D} {pos p2 : Pos} {lo hi : Option Expr} {fl fu : M (Option Int)}
theorem pod_none : POD X K W none pNone := ⟨tNoPart, (fun _ => po_none), fun fr ρ σ H Q S q => q H S⟩
theorem pod_some (h : ED X K W a fa) : POD X K W (some a) (pSome fa) := by
  obtain ⟨t, p, s⟩ := h.ex
  refine ⟨tPart t, (fun i => po_some (p i)), fun fr ρ σ H Q S q => s fr ρ σ H _ S ((QR.bind q).mono fun d ρ1 q1 v H1 S1 => ?_)⟩
  obtain ⟨n, e, q2⟩ := QR.lift (QR.bind q1)
  have := isI_eq e
  subst this
  exact ⟨n, S1.topF rfl, q2 H1 S1.drop⟩
def rSlAll (K : PySem.W.Frag) : V → Option Int → Option Int → Hp → VK → Prop := fun x lo hi H Q => rSlA K x lo hi H Q ∨ rSlL K x lo hi H Q
theorem sl_all {X : Cx} : SlR X (rSlAll X.K) := SlR.or sl_tupA sl_list
theorem cut_len {xs : List V} {ds : List D} (h : xs.length = ds.length) (l u : Option Int) : cutV xs l u = (xs.drop (HT.sIx ds.length 0 l)).take (HT.sIx ds.length ds.length u - HT.sIx ds.length 0 l) := by
  unfold cutV; rw [h]
theorem sl_sem {fr : Fr} {ρ : DL.Env} {σ : L2.St} {H : Hp} {Q : VK} {x d : D} {v : V} {l u : Option Int} (S : Sim K fr (some x :: ρ) (some v :: σ) H) (e : slD x l u = some d) (q : ∀ v H', Sim K fr (some d :: ρ) (some v :: σ) H' → Q v H') : rSlAll K.K v l u H Q := by
  cases x with
  | tup ds =>
    cases e
    have hf := S.tup_frz
    obtain ⟨a, xs, rfl, h2, h3, _, S1⟩ := S.explode (ds := ds) rfl
    refine .inl ⟨a, xs, rfl, h3, fun hw => ?_, fun _ p hp => ?_⟩
    · have hc : cutD ds l u = ds := by
        unfold cutD
        rw [← h2, hw.1, hw.2, Nat.sub_zero, List.drop_zero, h2, List.take_length]
      rw [hc] at q
      exact q _ H S
    · rw [cut_len h2]
      have z := (S1.cutS h2 (HT.sIx ds.length 0 l) (HT.sIx ds.length ds.length u - HT.sIx ds.length 0 l)).newT (by simp [h2]) hp
      rw [frzL_take, frzL_drop, hf] at z
      exact q _ _ z
  | lst o ds =>
    cases e
    obtain ⟨a, xs, rfl, h2, h3, _, S1⟩ := S.explode (ds := ds) rfl
    refine .inr ⟨a, xs, rfl, h3, fun p hp => ?_⟩
    rw [cut_len h2]
    exact q _ _ ((S1.cutS h2 (HT.sIx ds.length 0 l) (HT.sIx ds.length ds.length u - HT.sIx ds.length 0 l)).newL (by simp [h2]) hp)
  | scr ns =>
    cases e
    obtain ⟨a, xs, rfl, h2, h3, _, S1⟩ := S.explode (ds := ns.map D.int) rfl
    refine .inr ⟨a, xs, rfl, h3, fun p hp => ?_⟩
    rw [cut_len h2]
    exact q _ _ ((S1.cutS h2 (HT.sIx (ns.map D.int).length 0 l) (HT.sIx (ns.map D.int).length (ns.map D.int).length u - HT.sIx (ns.map D.int).length 0 l)).newL (by simp [h2]) hp)
  | _ => cases e
theorem ed_sl (c : CF X K W k) (ha : ED X K W a fa) (hl : POD X K W lo fl) (hu : POD X K W hi fu) : ED X K W (.Subscript a (.Slice lo hi none p2) pos) (eSl fa fl fu) := by
  obtain ⟨ta, pa, sa⟩ := ha.ex
  obtain ⟨tl, pl, sl⟩ := hl.ex
  obtain ⟨tu, pu, su⟩ := hu.ex
  refine ⟨tSl (rSlAll K.K) ta tl tu, (fun i => pe_slice (by rw [← c.kk i]; exact sl_all) (pa i) (pl i) (pu i)), fun fr ρ σ H Q S q => sa fr ρ σ H _ S ((QR.bind q).mono fun x ρ1 q1 v H1 S1 => ?_)⟩
  obtain ⟨fr', S2, back⟩ := S1.hold
  refine sl fr' ρ1 σ H1 _ S2 (((QR.bind q1).frame fun ρ H s => (back ρ σ H s).drop).mono fun l ρ2 q2 H2 S3 => ?_)
  refine su fr' ρ2 σ H2 _ S3 (((QR.bind q2).frame fun ρ H s => (back ρ σ H s).drop).mono fun u ρ3 q3 H3 S4 => ?_)
  obtain ⟨d, e, q4⟩ := QR.lift q3
  exact sl_sem (back _ _ _ S4) e q4
end
end DL

set_option Elab.async false
set_option linter.all false
set_option maxRecDepth 100000
set_option maxHeartbeats 4000000
namespace DL
open PySem PySem.Spec L2
/-! ### a module's tuple of constants: C[i], x in C -/
theorem rep_flats {K : RC} {F H : Hp} : ∀ {ds : List D} {vs : List V}, ds.map flat = vs.map some → RepL K F H ds vs []
  | [], [], _ => ⟨rfl, rfl⟩
  | [], v :: vs, e => by cases e
  | d :: ds, [], e => by cases e
  | d :: ds, v :: vs, e => by
    have e : flat d :: ds.map flat = some v :: vs.map some := e
    injection e with e1 e2
    exact ⟨v, vs, [], [], rfl, rfl, flat_rep e1, rep_flats e2⟩
theorem flats_get {ds : List D} {vs : List V} (h : ds.map flat = vs.map some) {j : Nat} {d : D} (e : ds[j]? = some d) : ∃ v, vs[j]? = some v ∧ flat d = some v := by
  have z := congrArg (fun l => l[j]?) h
  simp only [List.getElem?_map, e, Option.map_some] at z
  cases hv : vs[j]? with
  | none => rw [hv] at z; cases z
  | some v => rw [hv] at z; exact ⟨v, rfl, Option.some.inj z⟩
section
variable {ι : Type} {X : ι → Cx} {K : RC} {W : WX} {k : Nat} {pos : Pos} {e b : Expr} {f fb : M D}
theorem ed_gix {x : Str} {p0 : Pos} {a : Addr} {ds : List D} {vs : List V} (c : CF X K W k) (hm : K.mg x = some (.ref a)) (ht : ∀ F : Hp, SqT K.K F a vs) (hg : ∀ j, Gl (X j) x) (hb : ED X K W b fb) (hv : ds.map flat = vs.map some := by rfl) (hd : (x == ("__debug__" : Str)) = false := by decide) (hs : PlainIx b := by exact fun _ _ => rfl) : ED X K W (.Subscript (.Name x p0) b pos) (e2 ixD (eC (.tup ds)) fb) := by
  obtain ⟨tb, pb, sb⟩ := hb.ex
  refine ⟨tOp (rIx K.K) (tC (.ref a)) tb, (fun i => pe_ix (by rw [← c.kk i]; exact ix_seq) (pe_glob (hg i) (by rw [c.mg i]; exact hm) rfl hd) (pb i) hs), fun fr ρ σ H Q S q => ?_⟩
  show tb σ H fun y H2 => rIx K.K (.ref a) y H2 Q
  have q' : QE K W fr σ (mbind fb (fun y => mlift (ixD (.tup ds) y)) ρ) Q := q
  refine sb fr ρ σ H _ S ((QR.bind q').mono fun y ρ1 q1 v H1 S1 => ?_)
  obtain ⟨d, e, q2⟩ := QR.lift q1
  cases y with
  | int i =>
    have hy := S1.topF rfl
    subst hy
    have hl : vs.length = ds.length := by have := congrArg List.length hv; simpa using this.symm
    obtain ⟨j, hj, hx⟩ := atI_get hl (show atI ds i = some d from e)
    obtain ⟨v, h1, h2⟩ := flats_get hv hj
    exact .inr (.inl ⟨a, vs, i, v, rfl, rfl, ht _, hx v h1, q2 v H1 (S1.drop.pushF h2)⟩)
  | _ => cases e
theorem gin_core {a : Addr} {ds : List D} {vs : List V} {neg : Bool} {F : D → D → Option D} (ht : ∀ F : Hp, SqT K.K F a vs) (hv : ds.map flat = vs.map some) (hF : ∀ x d, F x (.tup ds) = some d → ∃ b, inB x (.tup ds) = some b ∧ d = .bl (if neg then !b else b)) {t : TE}
    (s : ∀ fr ρ σ H Q, Sim K fr ρ σ H → QE K W fr σ (f ρ) Q → t σ H Q) {fr : Fr} {ρ : DL.Env} {σ : L2.St} {H : Hp} {Q : VK} (S : Sim K fr ρ σ H) (q : QE K W fr σ (e2 F f (eC (.tup ds)) ρ) Q) : tOp (rInA K.K neg) t (tC (.ref a)) σ H Q := by
  have q' : QE K W fr σ (mbind f (fun x => mlift (F x (.tup ds))) ρ) Q := q
  refine s fr ρ σ H _ S ((QR.bind q').mono fun x ρ1 q1 v H1 S1 => ?_)
  obtain ⟨d, e, q2⟩ := QR.lift q1
  show rInA K.K neg v (.ref a) H1 Q
  obtain ⟨b, hb, rfl⟩ := hF x d e
  obtain ⟨p, r, rs, h1, h2, h6, h3, h4, h5⟩ := inB_some hb
  obtain ⟨F1, B1, r1, k1⟩ := S1.top
  have hr : ∃ ps, toPyL ds = some ps ∧ r = .tuple ps := by
    unfold toPy at h2
    cases z : toPyL ds with
    | none => rw [z] at h2; cases h2
    | some ps => rw [z] at h2; exact ⟨ps, rfl, (Option.some.inj h2).symm⟩
  obtain ⟨ps, hps, rfl⟩ := hr
  refine ⟨p, .tuple ps, rs, rep_dp k1 _ _ _ _ r1 h1, .tup (ht _) (rep_dpL (F := H1) (fun _ _ z => z) ds vs [] ps (rep_flats (H := H1) hv) hps), h6, h3, h4, ?_⟩
  rw [h5]
  exact q2 _ H1 (S1.drop.pushF (by cases neg <;> rfl))
theorem hF_in {ds : List D} : ∀ x d, inD x (.tup ds) = some d → ∃ b, inB x (.tup ds) = some b ∧ d = .bl (if false = true then !b else b) := fun x d e => by
  unfold inD at e
  cases z : inB x (.tup ds) with
  | none => rw [z] at e; cases e
  | some b => rw [z] at e; cases e; exact ⟨b, rfl, rfl⟩
theorem hF_nin {ds : List D} : ∀ x d, ninD x (.tup ds) = some d → ∃ b, inB x (.tup ds) = some b ∧ d = .bl (if true = true then !b else b) := fun x d e => by
  unfold ninD at e
  cases z : inB x (.tup ds) with
  | none => rw [z] at e; cases e
  | some b => rw [z] at e; cases e; exact ⟨b, rfl, rfl⟩
theorem ed_gin {x : Str} {p0 : Pos} {a : Addr} {ds : List D} {vs : List V} (c : CF X K W k) (hm : K.mg x = some (.ref a)) (ht : ∀ F : Hp, SqT K.K F a vs) (hg : ∀ j, Gl (X j) x) (h : ED X K W e f) (hv : ds.map flat = vs.map some := by rfl) (hd : (x == ("__debug__" : Str)) = false := by decide) (hk : behindInMarks .In (.Name x p0) = false := by rfl) : ED X K W (.Compare e [.In] [.Name x p0] pos) (e2 inD f (eC (.tup ds))) := by
  obtain ⟨t, p, s⟩ := h.ex
  exact ⟨tOp (rInA K.K false) t (tC (.ref a)), (fun i => pe_cmpR (c.inD i) (p i) (pe_glob (hg i) (by rw [c.mg i]; exact hm) rfl hd) hk), fun fr ρ σ H Q S q => gin_core ht hv hF_in s S q⟩
theorem ed_gnin {x : Str} {p0 : Pos} {a : Addr} {ds : List D} {vs : List V} (c : CF X K W k) (hm : K.mg x = some (.ref a)) (ht : ∀ F : Hp, SqT K.K F a vs) (hg : ∀ j, Gl (X j) x) (h : ED X K W e f) (hv : ds.map flat = vs.map some := by rfl) (hd : (x == ("__debug__" : Str)) = false := by decide) (hk : behindInMarks .NotIn (.Name x p0) = false := by rfl) : ED X K W (.Compare e [.NotIn] [.Name x p0] pos) (e2 ninD f (eC (.tup ds))) := by
  obtain ⟨t, p, s⟩ := h.ex
  exact ⟨tOp (rInA K.K true) t (tC (.ref a)), (fun i => pe_cmpR (c.ninD i) (p i) (pe_glob (hg i) (by rw [c.mg i]; exact hm) rfl hd) hk), fun fr ρ σ H Q S q => gin_core ht hv hF_nin s S q⟩
theorem td_gin {x : Str} {p0 : Pos} {a : Addr} {ds : List D} {vs : List V} (c : CF X K W k) (hm : K.mg x = some (.ref a)) (ht : ∀ F : Hp, SqT K.K F a vs) (hg : ∀ j, Gl (X j) x) (h : ED X K W e f) (hv : ds.map flat = vs.map some := by rfl) (hd : (x == ("__debug__" : Str)) = false := by decide) (hk : behindInMarks .In (.Name x p0) = false := by rfl) : TD X K W (.Compare e [.In] [.Name x p0] pos) (eB (e2 inD f (eC (.tup ds)))) := by
  obtain ⟨t, p, s⟩ := h.ex
  exact ⟨tTest (tOp (rInA K.K false) t (tC (.ref a))), (fun i => pt_cmpR (c.inD i) (p i) (pe_glob (hg i) (by rw [c.mg i]; exact hm) rfl hd) hk), fun fr ρ σ H Q S q => sim_tTest (fun fr ρ σ H Q S q => gin_core ht hv hF_in s S q) S q⟩
theorem td_gnin {x : Str} {p0 : Pos} {a : Addr} {ds : List D} {vs : List V} (c : CF X K W k) (hm : K.mg x = some (.ref a)) (ht : ∀ F : Hp, SqT K.K F a vs) (hg : ∀ j, Gl (X j) x) (h : ED X K W e f) (hv : ds.map flat = vs.map some := by rfl) (hd : (x == ("__debug__" : Str)) = false := by decide) (hk : behindInMarks .NotIn (.Name x p0) = false := by rfl) : TD X K W (.Compare e [.NotIn] [.Name x p0] pos) (eB (e2 ninD f (eC (.tup ds)))) := by
  obtain ⟨t, p, s⟩ := h.ex
  exact ⟨tTest (tOp (rInA K.K true) t (tC (.ref a))), (fun i => pt_cmpR (c.ninD i) (p i) (pe_glob (hg i) (by rw [c.mg i]; exact hm) rfl hd) hk), fun fr ρ σ H Q S q => sim_tTest (fun fr ρ σ H Q S q => gin_core ht hv hF_nin s S q) S q⟩
end
end DL

set_option Elab.async false
set_option linter.all false
set_option maxRecDepth 100000
set_option maxHeartbeats 4000000
namespace DL
open PySem PySem.Spec L2
/-! ### x.extend(list), x a list of one's own -/
theorem Sim.appendN {K : RC} {fr : Fr} {ρ : DL.Env} {σ : L2.St} {H : Hp} {ds es : List D} {p : Addr} {zs : List V} (S : Sim K fr (some (.lst true ds) :: (es.map some ++ ρ)) (some (.ref p) :: (zs.map some ++ σ)) H) (hz : zs.length = es.length) :
    ∃ xs, H p = some (.lst xs) ∧ xs.length = ds.length ∧ Sim K fr (some (.lst true (ds ++ es)) :: ρ) (some (.ref p) :: σ) (upd H p (.lst (xs ++ zs))) := by
  obtain ⟨A, S⟩ := S
  obtain ⟨s1, τ1, B1, C1, e1, rfl, ⟨v1, ev, r1⟩, r2⟩ := S.sl
  injection e1 with e1 e2
  subst e1 e2
  cases ev
  obtain ⟨B2, C2, rfl, q1, r4⟩ := Sl.cut (by simp [hz]) r2
  have r3 := q1.repL
  obtain ⟨a, xs, B, ea, rfl, hx, r1⟩ := r1
  cases ea
  refine ⟨xs, hx, r1.len, p :: (B ++ B2) ++ C2, ?_⟩
  have sub : ∀ a ∈ p :: (B ++ B2) ++ C2, a ∈ p :: B ++ (B2 ++ C2) ∨ H a = none := fun a z => .inl (by simpa [List.append_assoc] using z)
  have nd : (p :: (B ++ B2) ++ C2).Nodup := by
    have := S.nd
    simpa [List.append_assoc] using this
  have pn : p ∉ B ++ (B2 ++ C2) := by
    have := S.nd
    rw [List.cons_append] at this
    exact (List.nodup_cons.mp this).1
  have kp : ∀ a o, a ≠ p → H a = some o → upd H p (.lst (xs ++ zs)) a = some o := fun a o n e => by rw [upd_ne n]; exact e
  have kpA : ∀ a o, a ∉ p :: B ++ (B2 ++ C2) → H a = some o → upd H p (.lst (xs ++ zs)) a = some o := fun a o n e => kp a o (fun z => n (by simp [z])) e
  have f := S.fro sub (H' := upd H p (.lst (xs ++ zs))) kpA
  have ne : ∀ a, a ∈ B ++ (B2 ++ C2) → a ≠ p := fun a z e => pn (e ▸ z)
  refine S.next sub nd kpA ⟨some (.ref p), _, p :: (B ++ B2), C2, rfl, rfl, ⟨.ref p, rfl, p, xs ++ zs, B ++ B2, rfl, rfl, upd_same, ?_⟩, r4.mono f fun a z o e => kp a o (ne a (by simp [z])) e⟩
  exact RepL.app (RepL.mono f _ _ _ (fun a z o e => kp a o (ne a (by simp [z])) e) r1) (RepL.mono f _ _ _ (fun a z o e => kp a o (ne a (by simp [z])) e) r3)
def eExt (i : Nat) (f : M D) : M D := fun ρ => match ρ[i]? with
  | some (some (.lst true _)) => mbind f (fun d ρ1 => match d, ρ1[i]? with
    | .lst _ es, some (some (.lst true ds)) => if ds.length + es.length ≤ 1000000 then .ok .non (ρ1.set i (some (.lst true (ds ++ es)))) else .stuck
    | _, _ => .stuck) ρ
  | _ => .stuck
section
variable {ι : Type} {X : ι → Cx} {K : RC} {W : WX} {k : Nat} {e : Expr} {f : M D}
theorem ed_ext (i : Nat) {x : Str} {p0 apos cpos : Pos} (h : ∀ j, PE (X j) (.Name x p0) (tVar i)) (ha : ED X K W e f) (c : CF X K W k)
    (hs : ∀ i, starEach [e] (X i).env = (false, eval e (X i).env) :: starEach [] (X i).env := by intro _; rfl) (hline : (apos.endLine == cpos.line) = true := by rfl)
    (hfew : ∀ i, ((backTo cpos (starEach [e] (X i).env)).all (fun x => !x.1) && (backToKw cpos (keywordEach [] (X i).env)).all (fun x => x.1.isSome) && decide ([e].length + ([] : List Keyword).length + (if ([] : List Keyword).isEmpty then 0 else 1) < 30)) = true := by intro _; rfl) :
    ED X K W (.Call (.Attribute (.Name x p0) "extend" apos) [e] [] cpos) (eExt i f) := by
  obtain ⟨t, pa, s⟩ := ha.ex
  refine ⟨tBM K.K "list" rExtend (tVar i) (tCons t tNil), (fun j => ?_), fun fr ρ σ H Q S q => ?_⟩
  · rw [← c.kk j]
    exact pe_bm PySem.F.plainAttrs_list PySem.F.slot_list_extend PySem.F.type_list_extend mt_extend (h j) (pa_cons (pa j) pa_nil (hs j)) rfl (hfew j) hline (hs j) rfl
  · unfold eExt at q
    split at q
    · rename_i ds0 e0
      obtain ⟨p, xs, hv, hx, _⟩ := S.lst_at e0
      refine ⟨.ref p, hv, .inl ⟨rfl, xs, SqL.of hx⟩, ?_⟩
      refine s fr ρ σ H _ S ((QR.bind q).mono fun d ρ1 q1 v1 H1 S1 => ?_)
      split at q1
      · rename_i o es ds e1
        by_cases hz : ds.length + es.length ≤ 1000000
        · rw [if_pos hz] at q1
          obtain ⟨b, zs, rfl, hl, _, hb, S2⟩ := S1.explode (ds := es) rfl
          have hb := hb _ _ rfl
          obtain ⟨v, hv2, S3⟩ := S2.move (i := es.length + i) (d := .lst true ds) (by rw [List.getElem?_append_right (by simp)]; simpa using e1)
          have hv3 : σ[i]? = some (some v) := by
            rw [List.getElem?_append_right (by simp [hl]), List.length_map, hl, Nat.add_sub_cancel_left] at hv2
            exact hv2
          rw [hv] at hv3
          cases hv3
          rw [List.set_append_right _ _ (by simp), List.length_map, Nat.add_sub_cancel_left] at S3
          obtain ⟨ys, hy, hl2, S4⟩ := S3.appendN hl
          have S5 := S4.back hv
          rw [set_set_] at S5
          exact ⟨p, b, ys, zs, rfl, rfl, hy, hb, by rw [hl, hl2]; exact Nat.le_trans hz (by rw [sizeLine_eq]; decide), q1 _ _ (S5.pushF rfl)⟩
        · rw [if_neg hz] at q1
          exact q1.elim
      · exact q1.elim
    · exact q.elim
end
end DL

set_option Elab.async false
set_option linter.all false
set_option maxRecDepth 100000
set_option maxHeartbeats 4000000
namespace DL
open PySem PySem.Spec L2
/-! ### try: .. except X: .. except Y: .. (no names) -/
def noExc : RS → RS
  | .exc _ _ _ => .stuck
  | r => r
def sHandle : List ((Str → Option Bool) × SF) → Str → List (Str × D) → SF
  | [], c, fs => fun ρ => .exc c fs ρ
  | (m, G) :: r, c, fs => fun ρ => match m c with
    | some true => noExc (G ρ)
    | some false => sHandle r c fs ρ
    | none => .stuck
structure HD {ι : Type} (X : ι → Cx) (K : RC) (pr : List Nat) (hds : List ExceptHandler) (l : List ((Str → Option Bool) × SF)) : Prop where
  ex : ∃ ls, (∀ j, HdsOk (X j) hds ls) ∧ ∀ (W : WX) (c : Str) (fs : List (Str × D)) (cls : Value) (dd : Option Addr) (fr : Fr) (ρ : DL.Env) (σ0 σ : L2.St) (H : Hp) (Dn : Ends), KeepS pr σ0 σ → ExcR K.mg c fs cls dd H → Sim K fr ρ σ H → QS K W pr fr σ0 (sHandle l c fs ρ) Dn → wMany K.K W Dn ls cls dd σ H
section
variable {ι : Type} {X : ι → Cx} {K : RC} {W : WX} {k : Nat} {pr : List Nat} {hds : List ExceptHandler} {l : List ((Str → Option Bool) × SF)}
theorem hd_nil : HD X K pr [] [] := ⟨[], (fun _ => .nil), fun W c fs cls dd fr ρ σ0 σ H Dn ks hx S q => q cls dd σ H ks hx S⟩
theorem hd_cons {x : Str} {np pos' : Pos} {b₀ : Stmt} {suite : List Stmt} {m : Str → Option Bool} {G : SF} (c : CF X K W k) (hg : ∀ j, Gl (X j) x) (hm : ExmF K x m) {Y : Addr} (hY : K.mg x = some (.ref Y)) (hsu : ∀ a C d, SDs (suF X a C d) K W0 pr (b₀ :: suite) G) (hr : HD X K pr hds l) (hdb : (x == ("__debug__" : Str)) = false := by decide) :
    HD X K pr (.ExceptHandler (some (.Name x np)) none (b₀ :: suite) pos' :: hds) ((m, G) :: l) := by
  obtain ⟨ls, h1, h2⟩ := hr.ex
  let ts : Addr → Value → Option Addr → TS := fun a cls d Dn σ H => ∃ p : { C : Addr // cls = .ref C }, (hsu a p.1 d).ex.choose Dn σ H
  refine ⟨(.ref Y, ts) :: ls, (fun j => .cons ⟨hg j, hdb, .inl (by rw [c.mg j]; exact hY)⟩ (fun a oe cls d pn hz hf => ?_) (h1 j)), fun W' cn fs cls dd fr ρ σ0 σ H Dn ks hx S q => ?_⟩
  · refine pss_ex fun p => ?_
    obtain ⟨C, hc⟩ := p
    subst hc
    exact (hsu a C d).ex.choose_spec.1 ⟨(j, oe, pn), hz, hf⟩
  · unfold sHandle at q
    cases em : m cn with
    | none => simp only [em] at q; exact q.elim
    | some b =>
      obtain ⟨C, Y', h4, h5, h6⟩ := hm cn b em
      have hx0 := hx
      obtain ⟨C', h7, h8, _⟩ := hx
      rw [h4] at h7
      cases h7
      rw [hY] at h5
      cases h5
      subst h8
      refine ⟨b, h6, fun hb a ha => ?_, fun hb => ?_⟩
      · subst hb
        simp only [em] at q
        refine ⟨⟨C, rfl⟩, ?_⟩
        refine (hsu a C dd).ex.choose_spec.2 fr ρ σ H _ S ?_
        cases eg : G ρ with
        | nx ρ2 => rw [eg] at q; exact fun σ2 H2 k2 S2 => q σ2 H2 (ks.trans k2) S2
        | brk ρ2 => rw [eg] at q; exact fun σ2 H2 k2 S2 => q σ2 H2 (ks.trans k2) S2
        | cnt ρ2 => rw [eg] at q; exact fun σ2 H2 k2 S2 => q σ2 H2 (ks.trans k2) S2
        | ret d ρ2 => rw [eg] at q; exact fun v σ2 H2 k2 S2 => q v σ2 H2 (ks.trans k2) S2
        | exc _ _ _ => rw [eg] at q; exact q.elim
        | stuck => rw [eg] at q; exact q.elim
      · subst hb
        simp only [em] at q
        exact h2 W' cn fs _ dd fr ρ σ0 σ H Dn ks hx0 S q
def sTryN (F : SF) (l : List ((Str → Option Bool) × SF)) : SF := fun ρ => match F ρ with
  | .exc c fs ρ' => sHandle l c fs ρ'
  | r => r
theorem sd_try {body : List Stmt} {h₀ : ExceptHandler} {F : SF} {pos : Pos} (c : CF X K W k) (hs : ∀ j, (X j).stack = (X j).env :: (X j).outer) (hfr : ∀ j, (X j).env.frame = some (X j).env.locals) (hb : ∀ W', SDs (trF X W') K W' pr body F) (hh : HD X K pr (h₀ :: hds) l) :
    SD X K W pr (.Try body (h₀ :: hds) [] [] pos) (sTryN F l) := by
  obtain ⟨ls, h1, h2⟩ := hh.ex
  let tb : WX → TS := fun W' => (hb W').ex.choose
  refine ⟨fun D σ H => tb (wMany K.K W D ls) D σ H, (fun j => ?_), fun fr ρ σ H Dn S q => ?_⟩
  · rw [← c.kk j]
    exact ps_try_many (tb := tb) (hs j) (hfr j) (c.tk j) (fun W' pn xe tk po => (hb W').ex.choose_spec.1 ⟨(j, pn, xe), tk, po⟩) (h1 j)
  · refine (hb _).ex.choose_spec.2 fr ρ σ H _ S ?_
    unfold sTryN at q
    cases e : F ρ with
    | exc c' fs ρ' =>
      rw [e] at q
      exact fun cls dd σ' H' ks hx S' => h2 W c' fs cls dd fr ρ' σ σ' H' Dn ks hx S' q
    | nx ρ' => rw [e] at q; exact q
    | ret d ρ' => rw [e] at q; exact q
    | brk ρ' => rw [e] at q; exact q
    | cnt ρ' => rw [e] at q; exact q
    | stuck => rw [e] at q; exact q.elim
end
end DL

set_option Elab.async false
set_option linter.all false
set_option maxRecDepth 100000
set_option maxHeartbeats 4000000
namespace DL
open PySem PySem.Spec L2
/-! ## plain evaluation of loops and comprehensions -/
section
variable {ρ ρ1 ρ2 : DL.Env} {g : D → DL.Env → Option DL.Env} {b : SF} {fi : M (List D)} {tt : M Bool} {te : M D} {vs : List Nat} {ds ys : List D} {L : Nat}
/-- a loop as a fold over a state that the slots show -/
theorem forGo_fold {S : Type} (f : S → DL.Env) (step : S → D → S) (I : S → Prop) : ∀ (ds : List D) (st : S), I st → (∀ st d, I st → d ∈ ds → ∃ ρ1, g d (f st) = some ρ1 ∧ b ρ1 = .nx (f (step st d)) ∧ I (step st d)) → forGo g b ds (f st) = .nx (f (ds.foldl step st)) ∧ I (ds.foldl step st)
  | [], st, hI, _ => ⟨rfl, hI⟩
  | d :: ds, st, hI, h => by
    obtain ⟨ρ1, e1, e2, hI2⟩ := h st d hI List.mem_cons_self
    have ih := forGo_fold f step I ds (step st d) hI2 (fun st d' hI hd => h st d' hI (List.mem_cons_of_mem _ hd))
    refine ⟨?_, ih.2⟩
    unfold forGo
    simp only [e1, e2]
    exact ih.1
theorem sFor_fold {S : Type} (f : S → DL.Env) (step : S → D → S) (I : S → Prop) {st : S} (h1 : fi ρ = .ok ds (f st)) (hI : I st) (h : ∀ st d, I st → d ∈ ds → ∃ ρ1, g d (f st) = some ρ1 ∧ b ρ1 = .nx (f (step st d)) ∧ I (step st d)) : sFor fi g b ρ = .nx (f (ds.foldl step st)) ∧ I (ds.foldl step st) := by
  unfold sFor
  rw [sE_of h1]
  exact forGo_fold f step I ds st hI h
/-- a comprehension: each turn starts from the same slots -/
theorem lcGo_filter (ρ' : DL.Env) (e : D → DL.Env) (p : D → Bool) (y : D → D) : ∀ (ds : List D) (ρ : DL.Env), wipeE ρ vs = ρ' → (∀ d ∈ ds, g d ρ' = some (e d) ∧ tt (e d) = .ok (p d) (e d) ∧ (p d = true → te (e d) = .ok (y d) (e d)) ∧ wipeE (e d) vs = ρ') → lcGo g tt te vs ds ρ = .ok ((ds.filter p).map y) ρ'
  | [], ρ, hw, _ => by show Res.ok [] (wipeE ρ vs) = _; rw [hw]; rfl
  | d :: ds, ρ, hw, h => by
    obtain ⟨h1, h2, h3, h4⟩ := h d List.mem_cons_self
    have ih := lcGo_filter ρ' e p y ds (e d) h4 (fun d' hd => h d' (List.mem_cons_of_mem _ hd))
    unfold lcGo
    rw [hw, h1]
    simp only [mbind_of h2]
    cases hp : p d with
    | true =>
      rw [if_pos rfl, mbind_of (h3 hp), mbind_of ih, List.filter_cons_of_pos hp]
      rfl
    | false =>
      rw [if_neg Bool.false_ne_true, ih, List.filter_cons_of_neg (by rw [hp]; exact Bool.false_ne_true)]
theorem lcGo_map (ρ' : DL.Env) (e : D → DL.Env) (y : D → D) (ds : List D) (ρ : DL.Env) (hw : wipeE ρ vs = ρ') (h : ∀ d ∈ ds, g d ρ' = some (e d) ∧ te (e d) = .ok (y d) (e d) ∧ wipeE (e d) vs = ρ') : lcGo g mYes te vs ds ρ = .ok (ds.map y) ρ' := by
  have z := lcGo_filter (tt := mYes) ρ' e (fun _ => true) y ds ρ hw (fun d hd => ⟨(h d hd).1, rfl, fun _ => (h d hd).2.1, (h d hd).2.2⟩)
  rw [List.filter_eq_self.mpr (fun _ _ => rfl)] at z
  exact z
theorem eLcL_ok (h1 : fi ρ = .ok ds ρ1) (hl : ds.length ≤ 100000) (hL : ρ1.length = L) (h2 : lcGo g tt te vs ds ρ1 = .ok ys ρ2) : eLcL L fi g tt te vs ρ = .ok (.lst true ys) ρ2 := by
  unfold eLcL
  rw [mbind_of h1, if_pos ⟨Nat.lt_of_le_of_lt hl (by rw [sizeLine_eq]; decide), hL⟩, mbind_of h2]
  rfl
theorem iSeq_ok {f : M D} {d : D} (h1 : f ρ = .ok d ρ1) (h2 : items (frz d) = some ds) : iSeq f ρ = .ok ds ρ1 := by
  unfold iSeq seqOf; rw [mbind_of h1, h2]; rfl
theorem iRg1_ok {gg : M (List D)} {n : Int} (h1 : gg ρ = .ok [.int n] ρ1) (h2 : -1000000000 ≤ n ∧ n ≤ 1000000000) : iRg1 gg ρ = .ok (rgD 0 n) ρ1 := by
  unfold iRg1; rw [mbind_of h1]; dsimp only; rw [if_pos (by omega)]; rfl
theorem iRg2_ok {gg : M (List D)} {m n : Int} (h1 : gg ρ = .ok [.int m, .int n] ρ1) (h2 : -1000000000 ≤ m ∧ m ≤ 1000000000 ∧ -1000000000 ≤ n ∧ n ≤ 1000000000) : iRg2 gg ρ = .ok (rgD m n) ρ1 := by
  unfold iRg2; rw [mbind_of h1]; dsimp only; rw [if_pos (by omega)]; rfl
theorem frzL_ints : ∀ ns : List Int, frzL (ns.map D.int) = ns.map D.int
  | [] => rfl
  | n :: ns => by show frz (D.int n) :: frzL (ns.map D.int) = _; rw [frzL_ints ns]; rfl
theorem boolsL_map : ∀ bs : List Bool, boolsL (bs.map D.bl) = some bs
  | [] => rfl
  | b :: bs => by show (boolsL (bs.map D.bl)).map (fun z => b :: z) = _; rw [boolsL_map bs]; rfl
theorem intsL_map : ∀ bs : List Int, intsL (bs.map D.int) = some bs
  | [] => rfl
  | b :: bs => by show (intsL (bs.map D.int)).map (fun z => b :: z) = _; rw [intsL_map bs]; rfl
theorem all_ok {gg : M (List D)} {o : Bool} {bs : List Bool} (h1 : gg ρ = .ok [.lst o (bs.map D.bl)] ρ1) : eBi allD gg ρ = .ok (.bl (bs.all id)) ρ1 := eBi_ok h1 (by show (boolsL (bs.map D.bl)).map (fun bs : List Bool => D.bl (bs.all id)) = _; rw [boolsL_map]; rfl)
theorem any_ok {gg : M (List D)} {o : Bool} {bs : List Bool} (h1 : gg ρ = .ok [.lst o (bs.map D.bl)] ρ1) : eBi anyD gg ρ = .ok (.bl (bs.any id)) ρ1 := eBi_ok h1 (by show (boolsL (bs.map D.bl)).map (fun bs : List Bool => D.bl (bs.any id)) = _; rw [boolsL_map]; rfl)
theorem sum_ok {gg : M (List D)} {o : Bool} {bs : List Int} (h1 : gg ρ = .ok [.lst o (bs.map D.int)] ρ1) : eBi sumD gg ρ = .ok (.int bs.sum) ρ1 := eBi_ok h1 (by show (intsL (bs.map D.int)).map (fun bs : List Int => D.int bs.sum) = _; rw [intsL_map]; rfl)
end
end DL

set_option Elab.async false
set_option linter.all false
set_option maxRecDepth 100000
set_option maxHeartbeats 4000000
namespace DL
open PySem PySem.Spec L2
/-! ## more plain lemmas: == of whole data, comprehensions in one slot, tuples of ints -/
abbrev TI (l : List Int) : D := .tup (l.map .int)
theorem toPyL_ints : ∀ l : List Int, toPyL (l.map D.int) = some (l.map PyData.int)
  | [] => rfl
  | n :: ns => by
    show (toPy (D.int n)).bind (fun p => (toPyL (ns.map D.int)).map fun ps => p :: ps) = _
    rw [toPyL_ints ns]
    rfl
theorem toPy_TI (l : List Int) : toPy (TI l) = some (.tuple (l.map PyData.int)) := by
  show (toPyL (l.map D.int)).map PyData.tuple = _
  rw [toPyL_ints]; rfl
theorem toPyL_TIs : ∀ ls : List (List Int), toPyL (ls.map TI) = some (ls.map fun l => PyData.tuple (l.map PyData.int))
  | [] => rfl
  | l :: ls => by
    show (toPy (TI l)).bind (fun p => (toPyL (ls.map TI)).map fun ps => p :: ps) = _
    rw [toPyL_TIs ls, toPy_TI]
    rfl
theorem toPy_lstTI (o : Bool) (ls : List (List Int)) : toPy (.lst o (ls.map TI)) = some (.list (ls.map fun l => PyData.tuple (l.map PyData.int))) := by
  show (toPyL (ls.map TI)).map PyData.list = _
  rw [toPyL_TIs]; rfl
theorem lay_ints : ∀ l : List Int, PyData.canLayAll0 (l.map PyData.int) = true
  | [] => by simp only [List.map_nil, PyData.canLayAll0]
  | n :: ns => by simp only [List.map_cons, PyData.canLayAll0, PyData.canLay0, lay_ints ns, Bool.and_self]
theorem dep_ints : ∀ l : List Int, PyData.depthAll (l.map PyData.int) = 0
  | [] => by simp only [List.map_nil, PyData.depthAll]
  | n :: ns => by simp only [List.map_cons, PyData.depthAll, PyData.depth, dep_ints ns, Nat.max_self]
theorem lay_TIs : ∀ ls : List (List Int), PyData.canLayAll0 (ls.map fun l => PyData.tuple (l.map PyData.int)) = true
  | [] => by simp only [List.map_nil, PyData.canLayAll0]
  | l :: ls => by simp only [List.map_cons, PyData.canLayAll0, PyData.canLay0, lay_ints, lay_TIs ls, Bool.and_self]
theorem dep_TIs : ∀ ls : List (List Int), PyData.depthAll (ls.map fun l => PyData.tuple (l.map PyData.int)) ≤ 1
  | [] => by simp only [List.map_nil, PyData.depthAll]; omega
  | l :: ls => by
    have := dep_TIs ls
    simp only [List.map_cons, PyData.depthAll, PyData.depth, dep_ints]
    omega
theorem shaped_TI (l : List Int) : SeqAt.shaped (.tuple (l.map PyData.int)) = true := by
  unfold SeqAt.shaped
  simp only [PyData.canLay0, lay_ints, PyData.depth, dep_ints]
  rfl
theorem shaped_lstTI (ls : List (List Int)) : SeqAt.shaped (.list (ls.map fun l => PyData.tuple (l.map PyData.int))) = true := by
  unfold SeqAt.shaped
  have := dep_TIs ls
  simp only [PyData.canLay0, lay_TIs, PyData.depth, Bool.true_and]
  exact decide_eq_true (by omega)
theorem shaped_ints (l : List Int) : SeqAt.shaped (.list (l.map PyData.int)) = true := by
  unfold SeqAt.shaped
  simp only [PyData.canLay0, lay_ints, PyData.depth, dep_ints]
  rfl
theorem eqB_same {x y : D} {p : PyData} (hx : toPy x = some p) (hy : toPy y = some p) (hs : SeqAt.shaped p = true) : eqB x y = some true := by
  unfold eqB
  rw [hx, hy]
  simp only [Option.bind_some, hs, and_self, if_true]
  rw [SeqAt.eqv_refl p (SeqAt.canLay_of_shaped hs)]
theorem eqv_ints : ∀ l m : List Int, PyData.eqvAll (l.map PyData.int) (m.map PyData.int) = decide (l = m)
  | [], [] => by rw [List.map_nil, PyData.eqvAll]; rfl
  | [], b :: m => by rw [List.map_nil, List.map_cons, PyData.eqvAll]; rfl
  | a :: l, [] => by rw [List.map_nil, List.map_cons, PyData.eqvAll]; rfl
  | a :: l, b :: m => by
    rw [List.map_cons, List.map_cons, PyData.eqvAll, eqv_ints l m, PyData.eqv]
    simp
    rfl
theorem eqB_TI (l m : List Int) : eqB (TI l) (TI m) = some (decide (l = m)) := by
  unfold eqB
  rw [toPy_TI, toPy_TI]
  simp only [Option.bind_some, shaped_TI, and_self, if_true]
  rw [PyData.eqv, eqv_ints]
theorem eqB_lstTI (o o' : Bool) (ls : List (List Int)) : eqB (.lst o (ls.map TI)) (.lst o' (ls.map TI)) = some true := eqB_same (toPy_lstTI o ls) (toPy_lstTI o' ls) (shaped_lstTI ls)
theorem toPy_lstI (o : Bool) (l : List Int) : toPy (.lst o (l.map D.int)) = some (.list (l.map PyData.int)) := by
  show (toPyL (l.map D.int)).map PyData.list = _
  rw [toPyL_ints]; rfl
theorem eqB_lstI (o o' : Bool) (l m : List Int) : eqB (.lst o (l.map D.int)) (.lst o' (m.map D.int)) = some (decide (l = m)) := by
  unfold eqB
  rw [toPy_lstI, toPy_lstI]
  simp only [Option.bind_some, shaped_ints, and_self, if_true]
  rw [PyData.eqv, eqv_ints]
theorem frzL_TI : ∀ ls : List (List Int), frzL (ls.map TI) = ls.map TI
  | [] => rfl
  | n :: ns => by show frz (TI n) :: frzL (ns.map TI) = _; rw [frzL_TI ns]; rfl
section
variable {ρ ρ1 ρ2 : DL.Env} {fi g : M (List D)} {f fa fb te : M D} {tt : M Bool} {d x y : D} {ds ys : List D} {L i : Nat}
theorem eq_ok {b : Bool} (h1 : fa ρ = .ok x ρ1) (h2 : fb ρ1 = .ok y ρ2) (h : eqB x y = some b) : e2 eqD fa fb ρ = .ok (.bl b) ρ2 := e2_ok h1 h2 (by unfold eqD; rw [h]; rfl)
theorem ne_ok {b : Bool} (h1 : fa ρ = .ok x ρ1) (h2 : fb ρ1 = .ok y ρ2) (h : eqB x y = some b) : e2 neD fa fb ρ = .ok (.bl !b) ρ2 := e2_ok h1 h2 (by unfold neD; rw [h]; rfl)
theorem all_t {o : Bool} (h1 : g ρ = .ok [.lst o ys] ρ1) (h : ∀ y ∈ ys, y = .bl true) : eBi allD g ρ = .ok (.bl true) ρ1 := by
  have e : ys = (ys.map fun _ => true).map D.bl := by
    rw [List.map_map]
    exact (List.map_id ys).symm.trans (List.map_congr_left fun y hy => by rw [h y hy]; rfl)
  rw [e] at h1
  refine (all_ok h1).trans ?_
  have : (ys.map fun _ => true).all id = true := by simp
  rw [this]
theorem lc_map1 {yf : D → D} (h1 : fi ρ = .ok ds ρ1) (hl : ds.length ≤ 100000) (hL : ρ1.length = L) (hw : ρ1.set i none = ρ1) (hi : i < L) (h : ∀ d ∈ ds, te (ρ1.set i (some d)) = .ok (yf d) (ρ1.set i (some d))) : eLcL L fi (gSet i) mYes te [i] ρ = .ok (.lst true (ds.map yf)) ρ1 := by
  refine eLcL_ok h1 hl hL (lcGo_map ρ1 (fun d => ρ1.set i (some d)) yf ds ρ1 hw fun d hd => ⟨?_, h d hd, ?_⟩)
  · unfold gSet; exact if_pos (by omega)
  · show (ρ1.set i (some d)).set i none = ρ1
    rw [List.set_set, hw]
theorem lc_filter1 {yf : D → D} {p : D → Bool} (h1 : fi ρ = .ok ds ρ1) (hl : ds.length ≤ 100000) (hL : ρ1.length = L) (hw : ρ1.set i none = ρ1) (hi : i < L) (ht : ∀ d ∈ ds, tt (ρ1.set i (some d)) = .ok (p d) (ρ1.set i (some d))) (h : ∀ d ∈ ds, p d = true → te (ρ1.set i (some d)) = .ok (yf d) (ρ1.set i (some d))) : eLcL L fi (gSet i) tt te [i] ρ = .ok (.lst true ((ds.filter p).map yf)) ρ1 := by
  refine eLcL_ok h1 hl hL (lcGo_filter ρ1 (fun d => ρ1.set i (some d)) p yf ds ρ1 hw fun d hd => ⟨?_, ht d hd, h d hd, ?_⟩)
  · unfold gSet; exact if_pos (by omega)
  · show (ρ1.set i (some d)).set i none = ρ1
    rw [List.set_set, hw]
theorem len_lst (o : Bool) (ds : List D) : lenD [.lst o ds] = some (.int ds.length) := rfl
theorem len_tup (ds : List D) : lenD [.tup ds] = some (.int ds.length) := rfl
theorem len_TI (l : List Int) : lenD [TI l] = some (.int l.length) := by rw [len_tup, List.length_map]
theorem atI_nat {ds : List D} {n : Nat} (h : ds[n]? = some d) : atI ds (n : Int) = some d := by
  have hn : n < ds.length := (List.getElem?_eq_some_iff.mp h).1
  have h2 := (List.getElem?_eq_some_iff.mp h).2
  simp [atI, ixN, hn, h2]
theorem ix_l {o : Bool} {n : Nat} (h : ds[n]? = some d) : ixD (.lst o ds) (.int (n : Int)) = some d := by
  show atI ds (n : Int) = _
  exact atI_nat h
theorem ix_t {n : Nat} (h : ds[n]? = some d) : ixD (.tup ds) (.int (n : Int)) = some d := by
  show atI ds (n : Int) = _
  exact atI_nat h
theorem ix_TI {l : List Int} {n : Nat} (h : n < l.length) : ixD (TI l) (.int (n : Int)) = some (.int (l.getD n 0)) := ix_t (by
  rw [List.getElem?_map, List.getElem?_eq_getElem h, List.getD_eq_getElem?_getD, List.getElem?_eq_getElem h]; rfl)
theorem rgD_0 (n : Nat) : rgD 0 (n : Int) = (List.range n).map fun i : Nat => D.int (i : Int) := by
  unfold rgD
  rw [show ((n : Int) - 0).toNat = n by omega]
  exact List.map_congr_left fun i _ => by rw [Int.zero_add]
/-- append -/
theorem app_ok {ρ : DL.Env} (h0 : ∃ es, ρ[i]? = some (some (.lst true es))) (h1 : f ρ = .ok d ρ1) (h2 : ρ1[i]? = some (some (.lst true ds))) (hl : ds.length ≤ 100000) : eApp i f ρ = .ok .non (ρ1.set i (some (.lst true (ds ++ [d])))) := by
  obtain ⟨es, e⟩ := h0
  unfold eApp
  rw [e]
  show mbind f _ ρ = _
  rw [mbind_of h1]
  simp only [h2]
  rw [if_pos (Nat.lt_of_le_of_lt hl (by rw [sizeLine_eq]; decide))]
theorem put_ok {fj : M D} {j : Int} {n : Nat} {es : List D} (h0 : ρ[i]? = some (some (.lst true es))) (h1 : fj ρ = .ok (.int j) ρ1) (h2 : ρ1[i]? = some (some (.lst true ds))) (hl : ρ1.length = ρ.length) (hn : ixN ds.length j = some n) : gItem i fj d ρ = some (ρ1.set i (some (.lst true (ds.set n d)))) := by
  unfold gItem
  simp only [h0, h1, h2, hl, if_true, hn]
  rfl
theorem forGo_cons {gg : D → DL.Env → Option DL.Env} {b : SF} (h1 : gg d ρ = some ρ1) (h2 : b ρ1 = .nx ρ2) : forGo gg b (d :: ds) ρ = forGo gg b ds ρ2 := by
  conv => lhs; unfold forGo
  simp only [h1, h2]
theorem sFor_of {gg : D → DL.Env → Option DL.Env} {b : SF} (h1 : fi ρ = .ok ds ρ1) : sFor fi gg b ρ = forGo gg b ds ρ1 := by
  unfold sFor; exact sE_of h1
end
end DL

set_option Elab.async false
set_option linter.all false
set_option maxRecDepth 100000
set_option maxHeartbeats 4000000
namespace DL
open PySem PySem.Spec L2 PyProof.Rows
/-! ## << and len(set(t)), t a tuple of ints -/
def shlD : D → D → Option D := ii (fun i j => decide (0 ≤ j ∧ j ≤ 1000000 ∧ i.natAbs < 2 ^ 64)) fun i j => .int (i * 2 ^ j.toNat)
section
variable {ι : Type} {X : ι → Cx} {K : RC} {W : WX} {k : Nat} {a b e : Expr} {f fa fb : M D} {pos : Pos}
theorem ed_shl (c : CF X K W k) (ha : ED X K W a fa) (hb : ED X K W b fb) : ED X K W (.BinOp a .LShift b pos) (e2 shlD fa fb) :=
  ed_op (fun _ => op_shl) (ops_ii (P := CPow) (fun i j h => show CPow i j from of_decide_eq_true (p := 0 ≤ j ∧ j ≤ 1000000 ∧ i.natAbs < 2 ^ 64) h) fun _ _ => rfl) ha hb
end
/-- each int once -/
def once : List Int → List Int
  | [] => []
  | x :: r => if x ∈ r then once r else x :: once r
theorem once_mem : ∀ {l : List Int} {x : Int}, x ∈ once l ↔ x ∈ l
  | [], x => Iff.rfl
  | y :: r, x => by
    unfold once
    by_cases h : y ∈ r
    · rw [if_pos h, once_mem]
      exact ⟨fun z => List.mem_cons_of_mem _ z, fun z => by rcases List.mem_cons.mp z with rfl | z <;> assumption⟩
    · rw [if_neg h, List.mem_cons, List.mem_cons, once_mem]
theorem once_nodup : ∀ l : List Int, (once l).Nodup
  | [] => List.nodup_nil
  | y :: r => by
    unfold once
    by_cases h : y ∈ r
    · rw [if_pos h]; exact once_nodup r
    · rw [if_neg h]; exact List.nodup_cons.mpr ⟨fun z => h (once_mem.mp z), once_nodup r⟩
theorem once_len {l m : List Int} (hm : m.Nodup) (h : ∀ x, x ∈ m ↔ x ∈ l) : m.length = (once l).length :=
  ((List.perm_ext_iff_of_nodup hm (once_nodup l)).mpr fun x => (h x).trans once_mem.symm).length_eq
def tLenSetT (K : PySem.W.Frag) (ta : TE) : TE := fun σ H Q => ta σ H fun x H1 => ∃ (l : Addr) (ns : List Int), x = V.ref l ∧ SqT K H1 l (ns.map V.int) ∧ ns.length < 1000 ∧ Q (.int (once ns).length) H1
theorem pe_lenSetT {X : Cx} {a : Expr} {ta : TE} {p p2 q pos : Pos} (hc : X.calm = true) (hg : Gl X "len") (hm : X.mg "len" = none) (hg2 : Gl X "set") (hm2 : X.mg "set" = none) (ha : PE X a ta)
    (na : starEach [a] X.env = (false, eval a X.env) :: starEach [] X.env := by rfl) : PE X (.Call (.Name "len" p) [.Call (.Name "set" p2) [a] [] q] [] pos) (tLenSetT X.K ta) := by
  refine ⟨fun pins s σ H Q I h => ?_⟩
  refine Call_ (ld_blt I hg hm PySem.boot_len ?_)
  refine PyProof.Rows.callWith_builtin1 (PyProof.Rows.args_cons ?_ rfl) rfl rfl
  refine Call_ (ld_blt I hg2 hm2 PyProof.Rows.boot_set ?_)
  refine PyProof.Rows.callWith_type1 (PyProof.Rows.args_cons (thn (ha.run pins s σ H _ I h) fun v s1 ⟨x, H1, I1, r1, q1⟩ => PyProof.Rows.args_nil ?_) na) na rfl
  obtain ⟨l, ns, rfl, hq, h1, q1⟩ := q1
  cases r1
  obtain ⟨its, r, pl, hz⟩ := I1.tuple hq
  refine call_set_tupI ns (I1.ok.hd hc) pl (by simpa using r.ints) (by unfold scanBound; omega) fun h' tk c hS hcl hk => ?_
  refine PyProof.Rows.args_nil ?_
  obtain ⟨o, es, ep, t, ho, hex, hd, hg, hnd, hmem, hf, hfit, hn, _⟩ := hS
  have I2 : Inv X pins σ H1 { s1 with heap := h', toks := tk } := I1.kept fun b o e => hk b o e
  have hl : c = (once ns).length := by
    have z := once_len (l := ns) hnd fun x => by rw [← hmem x]; exact decide_eq_true_iff
    rw [List.length_map, Array.length_toList, hn] at z
    exact z
  refine call_len_set ho hex hd hfit (by unfold scanBound at hf; omega) ⟨.int (once ns).length, H1, I2.tok _, ⟨_, by rw [hn, hl]⟩, q1⟩
def lenSetD : D → Option D
  | .tup ds => (intsL ds).bind fun ns => if ns.length < 1000 then some (.int (once ns).length) else none
  | _ => none
section
variable {ι : Type} {X : ι → Cx} {K : RC} {W : WX} {k : Nat} {e : Expr} {f : M D} {pos p p2 q : Pos}
theorem ed_lenSet (c : CF X K W k) (hg : ∀ i, Gl (X i) "len") (hm : K.mg "len" = none) (hg2 : ∀ i, Gl (X i) "set") (hm2 : K.mg "set" = none) (h : ED X K W e f) (hs : ∀ i, starEach [e] (X i).env = (false, eval e (X i).env) :: starEach [] (X i).env := by intro _; rfl) :
    ED X K W (.Call (.Name "len" p) [.Call (.Name "set" p2) [e] [] q] [] pos) (e1 lenSetD f) := by
  obtain ⟨t, pp, s⟩ := h.ex
  refine ⟨tLenSetT K.K t, (fun i => by rw [← c.kk i]; exact pe_lenSetT (c.calm i) (hg i) (by rw [c.mg i]; exact hm) (hg2 i) (by rw [c.mg i]; exact hm2) (pp i) (hs i)), fun fr ρ σ H Q S q => s fr ρ σ H _ S ((QR.bind q).mono fun d ρ1 q1 v H1 S1 => ?_)⟩
  obtain ⟨d', e0, q2⟩ := QR.lift q1
  cases d with
  | tup ds =>
    have e0 : (intsL ds).bind (fun ns => if ns.length < 1000 then some (D.int (once ns).length) else none) = some d' := e0
    cases e1 : intsL ds with
    | none => rw [e1] at e0; cases e0
    | some ns =>
      rw [e1] at e0
      simp only [Option.bind_some] at e0
      by_cases hz : ns.length < 1000
      · rw [if_pos hz] at e0
        cases e0
        obtain ⟨F, B, r, kk⟩ := S1.top
        obtain ⟨_, a, xs, rfl, hx, r⟩ := r
        have ex := ints_rep e1 r
        refine ⟨a, ns, rfl, ?_, hz, q2 _ H1 (S1.drop.pushF rfl)⟩
        rw [← ex]
        exact SqT.mono kk (SqT.of hx)
      · rw [if_neg hz] at e0; cases e0
  | _ => cases e0
end
end DL

set_option Elab.async false
set_option linter.all false
set_option maxRecDepth 100000
set_option maxHeartbeats 4000000
/-! ## enumerate of a tuple -/
namespace ET
open PySem PySem.Spec PyProof.Rows L2
theorem enum_new_tuple (l : Addr) (items : Array Value) (n : Nat) (dct : Option Addr) (sl : Array (Option Value)) :
    Meets (Builtin.«enumerate.__new__» ⟨[.type "enumerate", .ref l], []⟩) (fun _ R s => s.heap.get? l = some { cls := .type "tuple", dict := dct, data := .seq items n, slots := sl } ∧
      R (.ok (.ret (.ref (s.heap.push { cls := .type "tuple_iterator", data := .fields #[.ref l, .int 0 0] }).objs.size)))
        { s with heap := (s.heap.push { cls := .type "tuple_iterator", data := .fields #[.ref l, .int 0 0] }).push { cls := .type "enumerate", data := .fields #[.none, .bool false, .ref s.heap.objs.size, rawInt 0, .none, .none] } }) :=
  .of_wp fun prog w A R s h => by
    obtain ⟨hp, g, d, tk, os⟩ := s
    obtain ⟨hl, h⟩ := h
    have hsub := sub_enumerate
    have hT : Heap.IsTuple (Shared.heap ⟨hp, g, d, tk, os⟩) l items := ⟨_, hl, rfl, n, rfl⟩
    wp_walk using AutoSeq1.wpAny_loadPart' hl
    refine wpAny_stack_any fun st => wpAny_pure ?_
    split
    · rename_i c _ _ _ _ _
      cases (c == Value.type "enumerate")
      · wp_walk using AutoSeq1.wpAny_loadPart' hl, wpAny_pyIter_tuple hT
        exact ⟨_, rfl, h⟩
      · wp_walk using AutoSeq1.wpAny_loadPart' hl, wpAny_pyIter_tuple hT
        exact ⟨_, rfl, h⟩
    · wp_walk using AutoSeq1.wpAny_loadPart' hl, wpAny_pyIter_tuple hT
      exact ⟨_, rfl, h⟩
section
variable {prog : Program} {w : World} {A : Around} {E : Value → Shared → Prop} {s : Shared}
theorem enum_call_tuple {l : Addr} {items : Array Value} {Q : Value → Shared → Prop} (hL : s.heap.IsTuple l items)
    (h : ∀ h', IsEnum h' (s.heap.objs.size + 1) s.heap.objs.size 0 .none → h'.IsTupleIter s.heap.objs.size l 0 → h'.objs.size = s.heap.objs.size + 2 →
      (∀ b o, s.heap.get? b = some o → h'.get? b = some o) → Q (.ref (s.heap.objs.size + 1)) { s with heap := h' }) :
    wpAny (model prog w) A (call (.type "enumerate") [.ref l]) Q E s := by
  obtain ⟨⟨c, dct, dt, sl⟩, hl, hc, n, hd⟩ := hL
  replace hc : c = .type "tuple" := hc
  replace hd : dt = .seq items n := hd
  subst hc hd
  refine callType_new F.called_enumerate (by decide) (F.typeCall_enumerate_1 _) (F.newCall_enumerate_1 _) (fun obj => F.args_object_init_2 obj _) F.entry_enumerate_new
    (enum_new_tuple l items n dct sl) ⟨hl, ?_⟩
  have hz : (s.heap.push { cls := .type "tuple_iterator", data := .fields #[.ref l, .int 0 0] }).objs.size = s.heap.objs.size + 1 := Heap.size_push ..
  show _ ∧ _
  rw [hz]
  have he : IsEnum ((s.heap.push { cls := .type "tuple_iterator", data := .fields #[.ref l, .int 0 0] }).push
      { cls := .type "enumerate", data := .fields #[.none, .bool false, .ref s.heap.objs.size, rawInt 0, .none, .none] }) (s.heap.objs.size + 1) s.heap.objs.size 0 .none := by
    have := Heap.get?_push_size (s.heap.push { cls := .type "tuple_iterator", data := .fields #[.ref l, .int 0 0] })
      (o := { cls := .type "enumerate", data := .fields #[.none, .bool false, .ref s.heap.objs.size, rawInt 0, .none, .none] }) rfl
    rw [hz] at this; exact this
  refine ⟨⟨_, he, rfl⟩, h _ he ⟨_, Heap.get?_push_of_some _ (Heap.get?_push_size _ rfl), rfl, rfl⟩ (by rw [Heap.size_push, hz]) fun b o x => Heap.get?_push_of_some _ (Heap.get?_push_of_some _ x)⟩
theorem draws_tuple (hh : A.handled = none) {it t : Addr} {items : Array Value} (hne : it ≠ t) : Draws prog w A it [it, t] items.size (fun i x => items[i]? = some x) (fun i h => h.IsTupleIter it t i ∧ h.IsTuple t items) where
  live := fun i h st => by obtain ⟨⟨o, ho, _⟩, _⟩ := st; exact ⟨o, ho⟩
  frame := fun i h h' st k => by
    obtain ⟨⟨o, ho, r⟩, ⟨o2, ho2, r2⟩⟩ := st
    exact ⟨⟨o, k it (by simp) o ho, r⟩, ⟨o2, k t (by simp) o2 ho2, r2⟩⟩
  item := fun i s Q E hi st hQ => by
    obtain ⟨h1, h2⟩ := st
    refine RZ.nextOf_tuple_item h1 h2 (x := items[i]) (by simp [hi]) fun h' k sb => ?_
    obtain ⟨o2, ho2, r2⟩ := h2
    exact hQ _ h' s.toks (by simp [hi]) ⟨k, o2, (sb.2 t (Ne.symm hne)).trans ho2, r2⟩ sb
  done := fun s Q E st hE => RZ.nextOf_tuple_end hh st.1 st.2 (by simp) hE
end
theorem draws_end {prog : Program} {w : World} {A : Around} (hh : A.handled = none) {it t : Addr} {items : Array Value} {i : Nat} (hi : items[i]? = none) : Draws prog w A it [it, t] i (fun _ _ => False) (fun j h => j = i ∧ h.IsTupleIter it t j ∧ h.IsTuple t items) where
  live := fun j h st => by obtain ⟨_, ⟨o, ho, _⟩, _⟩ := st; exact ⟨o, ho⟩
  frame := fun j h h' st k => by
    obtain ⟨e, ⟨o, ho, r⟩, ⟨o2, ho2, r2⟩⟩ := st
    exact ⟨e, ⟨o, k it (by simp) o ho, r⟩, ⟨o2, k t (by simp) o2 ho2, r2⟩⟩
  item := fun j s Q E hj st hQ => absurd st.1 (Nat.ne_of_lt hj)
  done := fun s Q E st hE => RZ.nextOf_tuple_end hh st.2.1 st.2.2 hi hE
/-- the tuple at a as it stands at each turn, each item in a new pair -/
def IteT (K : PySem.W.Frag) (a : Addr) : It :=
  ⟨fun i H => ∃ (xs : List V) (x : V), SqT K H a xs ∧ xs[i]? = some x, fun i H v H' => ∃ T x, v = .ref T ∧ H T = none ∧ H' = upd H T (.tup [.int (i : Nat), x]) ∧ ∀ xs, SqT K H a xs → xs[i]? = some x, fun i H => ∃ xs : List V, SqT K H a xs ∧ xs.length ≤ i⟩
theorem turn_enumT {P : Program} {w : World} {K : PySem.W.Frag} {elts : List Expr} {kk : Nat} {tpos : Pos} (a e it : Addr) (hea : e ≠ a) (hia : it ≠ a) :
    Turn P w K (.Tuple elts kk tpos) (IteT K a) [e, it] e (fun i h => (∃ old, IsEnum h e it ((i : Nat) : Int) old) ∧ h.IsTupleIter it a i ∧ e ≠ it) where
  mem := by simp
  obj := fun i h st b hb => by
    obtain ⟨⟨old, he⟩, ⟨o, ho, hc, hd⟩, _⟩ := st
    have e' : b = e ∨ b = it := by simpa using hb
    rcases e' with z | z
    · rw [z]; exact ⟨_, he, fun v q => nomatch q⟩
    · rw [z]; exact ⟨o, ho, fun v q => by rw [hd] at q; cases q⟩
  keep := fun i h h' st k => let ⟨⟨old, he⟩, hi, hne⟩ := st; ⟨⟨old, k e (by simp) _ he⟩, hi.at fun o q => k it (by simp) o q, hne⟩
  item := by
    intro X hP hw hK hc i pins s σ H E I hf st hg
    subst hP hw hK
    obtain ⟨⟨old, he⟩, hit, hne⟩ := st
    obtain ⟨xs, x, hq, hx⟩ := hg
    obtain ⟨its, rv, p, hz⟩ := I.tuple hq
    obtain ⟨u, hu, ru⟩ := rv.get hx
    have hel : e < s.heap.objs.size := Heap.lt_size he
    have hil : it < s.heap.objs.size := by obtain ⟨_, q, _⟩ := hit; exact Heap.lt_size q
    have hlt : i < its.toArray.size := by
      have := (List.getElem?_eq_some_iff.mp hu).1
      simpa using this
    refine wpAny_pyNext_enum_itemD (draws_tuple (A := X.A.in1) (prog := X.prog) (w := X.w) (items := its.toArray) (show X.A.in1.handled = none from I.ok.hd hc) hia) he ⟨hit, p⟩ hlt hne (by simp [hea, hne]) fun x' h' tk hx' ho hst hT hsz hk => ?_
    have ex : x' = u := by
      have hu2 : its.toArray[i]? = some u := by simpa using hu
      rw [hu2] at hx'
      exact (Option.some.inj hx').symm
    subst ex
    obtain ⟨hit', _⟩ := hst
    refine ⟨_, rfl, wpAny_letOwnedTupleGo_enum (s := { s with heap := h', toks := tk + 1 }) ho fun h'' he' sb => ?_⟩
    have hT2 : h''.get? s.heap.objs.size = some { cls := .type "tuple", data := .seq #[.int i tk, x'] } := (sb.2 _ (Nat.ne_of_gt hel)).trans hT
    have new : ObjOk X.prog X.w (upd H s.heap.objs.size (.tup [.int (i : Nat), x])) h'' s.heap.objs.size (.tup [.int (i : Nat), x]) :=
      ⟨by show 2 ≤ sizeLine; decide, [.int i tk, x'], .cons ⟨_, rfl⟩ (.cons ru .nil), ⟨_, hT2, rfl, _, rfl⟩⟩
    have I1 : Inv X pins σ (upd H s.heap.objs.size (.tup [.int (i : Nat), x])) { s with heap := h'', toks := tk + 1 } :=
      I.turnedNew (ch := [e, it]) (fun b ob hb q => (sb.2 b (fun z => hb (by simp [z]))).trans (hk b ob (fun z => hb (by simp [z])) (fun z => hb (by simp [z])) q)) hf (Nat.le_refl _) new
    refine ⟨.ref s.heap.objs.size, _, I1, rfl, ⟨_, x, rfl, I.hok.fresh (Nat.le_refl _), rfl, fun ys hy => by rw [I.tuple_inj hy hq]; exact hx⟩, ⟨⟨x', ?_⟩, hit'.at fun o q => (sb.2 it (Ne.symm hne)).trans q, hne⟩, fun b hb => ?_⟩
    · have e1 : ((i + 1 : Nat) : Int) = (i : Int) + 1 := by omega
      rw [e1]; exact he'
    · have hb' : b < s.heap.objs.size := by
        have e' : b = e ∨ b = it := by simpa using hb
        rcases e' with z | z
        · rw [z]; exact hel
        · rw [z]; exact hil
      rw [upd_ne (Nat.ne_of_lt hb')]
      exact (hf b hb).1
  done := by
    intro X hP hw hK hc i pins s σ H E I hf st hg
    subst hP hw hK
    obtain ⟨⟨old, he⟩, hit, hne⟩ := st
    obtain ⟨xs, hq, hx⟩ := hg
    obtain ⟨its, rv, p, hz⟩ := I.tuple hq
    obtain ⟨f0, f1, f2, f3, f4, f5⟩ := hf it (by simp)
    have hl := rv.length
    have hi : its.toArray[i]? = none := by simp; omega
    exact wpAny_pyNext_enum_endD (draws_end (A := X.A.in1) (prog := X.prog) (w := X.w) (items := its.toArray) (show X.A.in1.handled = none from I.ok.hd hc) hi) he ⟨rfl, hit, p⟩ fun h' eb => ⟨rfl, I.turned (t' := s.toks) (fun b o hb q => eb b o hb q) f0 f1 f3 f4 f5⟩
  self := fun A i s Q E st h => let ⟨⟨_, he⟩, _⟩ := st; wpAny_pyIter_enum he h
def iEnuT (K : PySem.W.Frag) (ta : TA) : TI := fun σ H R => ta σ H fun vs H1 => ∃ a xs, vs = [.ref a] ∧ ((SqL K H1 a xs ∧ R (Ite K a) H1) ∨ (SqT K H1 a xs ∧ R (IteT K a) H1))
theorem pi_enuT {X : Cx} {e : Expr} {ta : TA} {p pos tpos : Pos} {elts : List Expr} {kk : Nat} (hg : Gl X "enumerate") (hm : X.mg "enumerate" = none) (ha : PA X [e] ta) (hs : starEach [e] X.env = [(false, eval e X.env)] := by rfl) :
    PI X (.Tuple elts kk tpos) (.Call (.Name "enumerate" p) [e] [] pos) (iEnuT X.K ta) := by
  refine ⟨fun pins s σ H R I h => ?_⟩
  refine Call_ (ld_blt I hg hm boot_enumerate (PyProof.Rows.callWith_type1 (thn (ha.run pos pins s σ H _ I h) fun us s1 ⟨vs, H1, I1, r1, q1⟩ => ?_) hs rfl))
  obtain ⟨a, xs, ex, hq⟩ := q1
  subst ex
  cases r1 with
  | cons r rr =>
    cases rr
    cases r
    rcases hq with ⟨hq, q⟩ | ⟨hq, q⟩
    · obtain ⟨its, rv, p', hz⟩ := I1.list hq
      refine call_enumerate_list p'.isList fun h' he hit hsz hk => wpAny_pyIter_enum he ?_
      have I2 : Inv X pins σ H1 { s1 with heap := h' } := I1.kept (t' := s1.toks) hk
      refine ⟨s1.heap.objs.size + 1, [s1.heap.objs.size + 1, s1.heap.objs.size], _, _, H1, rfl, I2, turn_enum a (s1.heap.objs.size + 1) s1.heap.objs.size, ⟨⟨.none, he⟩, hit, Nat.succ_ne_self _⟩, fun b hb => ?_, q⟩
      have e' : b = s1.heap.objs.size + 1 ∨ b = s1.heap.objs.size := by simpa using hb
      have hle : s1.heap.objs.size ≤ b := by
        rcases e' with z | z
        · rw [z]; exact Nat.le_add_right _ _
        · rw [z]; exact Nat.le_refl _
      exact I1.fpOk hle (I1.hok.fresh hle)
    · obtain ⟨its, rv, p', hz⟩ := I1.tuple hq
      have hal : a < s1.heap.objs.size := by obtain ⟨o, ho, _⟩ := p'; exact Heap.lt_size ho
      refine enum_call_tuple p' fun h' he hit hsz hk => wpAny_pyIter_enum he ?_
      have I2 : Inv X pins σ H1 { s1 with heap := h' } := I1.kept (t' := s1.toks) hk
      refine ⟨s1.heap.objs.size + 1, [s1.heap.objs.size + 1, s1.heap.objs.size], _, _, H1, rfl, I2, turn_enumT a (s1.heap.objs.size + 1) s1.heap.objs.size (Nat.ne_of_gt (Nat.lt_succ_of_lt hal)) (Nat.ne_of_gt hal), ⟨⟨.none, he⟩, hit, Nat.succ_ne_self _⟩, fun b hb => ?_, q⟩
      have e' : b = s1.heap.objs.size + 1 ∨ b = s1.heap.objs.size := by simpa using hb
      have hle : s1.heap.objs.size ≤ b := by
        rcases e' with z | z
        · rw [z]; exact Nat.le_add_right _ _
        · rw [z]; exact Nat.le_refl _
      exact I1.fpOk hle (I1.hok.fresh hle)
end ET
namespace DL
open PySem PySem.Spec L2
section
variable {K : RC} {fr : Fr}
theorem yields_enumT {ds : List D} {xs : List V} {H0 : Hp} {a : Addr} (hs : SqT K.K (VF fr) a xs) (r : RepL K (VF fr) H0 ds xs []) : Yields K (ET.IteT K.K a) fr (enumD 0 ds) where
  go := fun i H ρ σ S hi => by
    obtain ⟨x, h1, _⟩ := enumD_get (List.getElem?_eq_getElem hi)
    obtain ⟨u, hu, _⟩ := r.get h1
    exact ⟨xs, u, SqT.mono S.vfH hs, hu⟩
  stop := fun i H ρ σ S hi => by
    rw [enumD_len, ← r.len] at hi
    exact ⟨xs, SqT.mono S.vfH hs, hi⟩
  yld := fun i H x H' ρ σ d S e hy => by
    obtain ⟨T, u, rfl, hT, rfl, h1⟩ := hy
    obtain ⟨p, hp, rfl⟩ := enumD_get e
    obtain ⟨u', hu, ru⟩ := r.get hp
    have e1 := h1 xs (SqT.mono S.vfH hs)
    rw [hu] at e1
    cases e1
    rw [Nat.zero_add]
    exact zip_yld S (show Rep K (VF fr) H0 (.int ((i : Nat) : Int)) (.int ((i : Nat) : Int)) [] from ⟨rfl, rfl⟩) ru hT
end
def enumOfA : D → Option (List D)
  | .lst _ xs => some (enumD 0 xs)
  | .scr ns => some (enumD 0 (ns.map D.int))
  | .tup xs => some (enumD 0 xs)
  | _ => none
def enumA1 : List D → Option (List D)
  | [x] => enumOfA (frz x)
  | _ => none
theorem enumA1_one {ds l : List D} (h : enumA1 ds = some l) : ∃ x, ds = [x] ∧ enumOfA (frz x) = some l := by
  unfold enumA1 at h
  split at h
  · exact ⟨_, rfl, h⟩
  · cases h
theorem enumOfA_cases {x : D} {l : List D} (h : enumOfA x = some l) : (∃ o xs, x = .lst o xs ∧ l = enumD 0 xs) ∨ (∃ ns, x = .scr ns ∧ l = enumD 0 (ns.map D.int)) ∨ (∃ xs, x = .tup xs ∧ l = enumD 0 xs) := by
  unfold enumOfA at h
  split at h
  · exact .inl ⟨_, _, rfl, (Option.some.inj h).symm⟩
  · exact .inr (.inl ⟨_, rfl, (Option.some.inj h).symm⟩)
  · exact .inr (.inr ⟨_, rfl, (Option.some.inj h).symm⟩)
  · cases h
def iEnuA (g : M (List D)) : M (List D) := mbind g fun ds => mlift (enumA1 ds)
section
variable {ι : Type} {X : ι → Cx} {K : RC} {W : WX} {k : Nat} {a : Expr} {g : M (List D)} {pos : Pos}
theorem id_enuA {p tpos : Pos} {elts : List Expr} {kk : Nat} (c : CF X K W k) (hg : ∀ i, Gl (X i) "enumerate") (hm : K.mg "enumerate" = none) (ha : AM X K W [a] g []) (hs : ∀ i, starEach [a] (X i).env = [(false, eval a (X i).env)] := by intro _; rfl) :
    ID X K W (.Tuple elts kk tpos) (.Call (.Name "enumerate" p) [a] [] pos) (iEnuA g) := by
  obtain ⟨t, pa, s⟩ := ha.ex
  refine ⟨ET.iEnuT K.K t, (fun i => by rw [← c.kk i]; exact ET.pi_enuT (hg i) (by rw [c.mg i]; exact hm) (pa i) (hs i)), fun fr ρ σ H R S q => s fr ρ σ H _ S ((QR.bind q).mono fun ds ρ1 q1 vs H1 hl _ S1 => ?_)⟩
  obtain ⟨l, el, q1⟩ := QR.lift q1
  obtain ⟨x, rfl, el⟩ := enumA1_one el
  obtain ⟨v, rfl⟩ := one_of hl rfl
  have S1 : Sim K fr (some x :: ρ1) (some v :: σ) H1 := S1
  obtain ⟨fr', S2, r, back⟩ := S1.frz.holdF (fro_frz x)
  rcases enumOfA_cases el with ⟨o, xs, h1, rfl⟩ | ⟨ns, h1, rfl⟩ | ⟨xs, h1, rfl⟩
  · rw [h1] at r
    have f1 := fro_frz x
    rw [h1] at f1
    cases o with
    | true => cases f1
    | false =>
      obtain ⟨_, p, us, rfl, hs, rr⟩ := r
      exact ⟨p, us, rfl, .inl ⟨SqL.mono S2.vfH (SqL.of hs), q1 _ H1 fr' S2 back (yields_enum (SqL.of hs) rr)⟩⟩
  · rw [h1] at r
    obtain ⟨_, p, rfl, hs⟩ := r
    exact ⟨p, _, rfl, .inl ⟨SqL.mono S2.vfH hs, q1 _ H1 fr' S2 back (yields_enum (H0 := H1) hs (rep_ints ns))⟩⟩
  · rw [h1] at r
    obtain ⟨_, p, us, rfl, hs, rr⟩ := r
    exact ⟨p, us, rfl, .inr ⟨SqT.mono S2.vfH (SqT.of hs), q1 _ H1 fr' S2 back (yields_enumT (SqT.of hs) rr)⟩⟩
end
end DL

set_option Elab.async false
set_option linter.all false
set_option maxRecDepth 100000
set_option maxHeartbeats 4000000
namespace DL
open PySem PySem.Spec L2 PyProof.Rows
/-! ## own classes: fields read and stored, X(..) -/
def look (f : Str) : List Str → List D → Option D
  | n :: ns, d :: ds => if f = n then some d else look f ns ds
  | _, _ => none
def fldD (cs : List Str) (f : Str) (d : D) : Option D := match frz d with
  | .obj _ c ns ds => if c ∈ cs then look f ns ds else none
  | _ => none
def ClF (K : RC) (c f : Str) : Prop := ∃ C, K.mg c = some (.ref C) ∧ Cls K.K C ∧ NoAttr K.K C f
theorem rep_look {K : RC} {F H : Hp} {f : Str} : ∀ {fs : List (Str × V)} {ds : List D} {d : D}, RepL K F H ds (fs.map Prod.snd) [] → look f (fs.map Prod.fst) ds = some d → ∃ v, fs.lookup f = some v ∧ Rep K F H d v []
  | [], ds, d, r, e => by cases ds <;> cases e
  | (n, w) :: fs, [], d, r, e => by cases e
  | (n, w) :: fs, x :: ds, d, r, e => by
    obtain ⟨v, ws, B, C, e1, e2, r1, r2⟩ := r
    have hBC : B = [] ∧ C = [] := by simpa using e2.symm
    obtain ⟨rfl, rfl⟩ := hBC
    have e1 : w :: fs.map Prod.snd = v :: ws := e1
    injection e1 with e3 e4
    subst e3 e4
    have e : (if f = n then some x else look f (fs.map Prod.fst) ds) = some d := e
    by_cases h : f = n
    · rw [if_pos h] at e
      cases e
      exact ⟨w, by simp [List.lookup, h], r1⟩
    · rw [if_neg h] at e
      obtain ⟨u, h1, h2⟩ := rep_look r2 e
      have hb : (f == n) = false := by simp [h]
      exact ⟨u, by simp only [List.lookup, hb]; exact h1, h2⟩
section
variable {ι : Type} {X : ι → Cx} {K : RC} {W : WX} {k : Nat} {e : Expr} {es : List Expr} {fe : M D} {g : M (List D)} {pos : Pos} {pr : List Nat}
theorem ed_fld {f : Str} (cs : List Str) (c : CF X K W k) (hC : ∀ c ∈ cs, ClF K c f) (h : ED X K W e fe) (hb : ∀ i, attributeBase e f (X i).env (eval e (X i).env) = eval e (X i).env := by intro _; rfl) : ED X K W (.Attribute e f pos) (e1 (fldD cs f) fe) := by
  obtain ⟨t, p, s⟩ := h.ex
  refine ⟨tFld K.K t f, (fun i => by rw [← c.kk i]; exact pe_fld (p i) (hb i)), fun fr ρ σ H Q S q => s fr ρ σ H _ S ((QR.bind q).mono fun d ρ1 q1 v H1 S1 => ?_)⟩
  obtain ⟨d', e0, q2⟩ := QR.lift q1
  have S2 := S1.frz
  have hf := fro_frz d
  unfold fldD at e0
  cases ed : frz d with
  | obj o cn ns ds =>
    rw [ed] at e0 S2 hf
    replace e0 : (if cn ∈ cs then look f ns ds else none) = some d' := e0
    by_cases hm : cn ∈ cs
    · rw [if_pos hm] at e0
      cases o with
      | true => cases hf
      | false =>
        obtain ⟨C0, hg, hcl, hna⟩ := hC cn hm
        obtain ⟨A, T⟩ := S2
        obtain ⟨s', τ, B, Cc, e1, rfl, ⟨v', e2, r1⟩, r2⟩ := T.sl
        injection e1 with e3 e4
        subst e3 e4
        cases e2
        obtain ⟨hB, a, C, dx, fs, rfl, hg2, hx, hns, r⟩ := r1
        subst hB hns
        rw [hg] at hg2
        cases hg2
        obtain ⟨w, hw, rw⟩ := rep_look r e0
        refine ⟨a, C0, dx, fs, w, rfl, (hid_some.mp hx).2, hcl, hna, hw, q2 w H1 ?_⟩
        exact ⟨Cc, ⟨some w, σ, [], Cc, rfl, rfl, ⟨w, rfl, rw⟩, r2⟩, T.nd, T.off, T.keep, T.tr⟩
    · rw [if_neg hm] at e0
      cases e0
  | _ => rw [ed] at e0; cases e0
end
/-! ### self.f = e -/
theorem putF_new {f : Str} {v : V} : ∀ {fs : List (Str × V)}, f ∉ fs.map Prod.fst → putF f v fs = fs ++ [(f, v)]
  | [], _ => rfl
  | (n, x) :: fs, h => by
    have h1 : ¬ n = f := fun z => h (by rw [z]; exact List.mem_cons_self)
    show (if n = f then _ else (n, x) :: putF f v fs) = _
    rw [if_neg h1, putF_new fun z => h (List.mem_cons_of_mem _ z)]
    rfl
theorem Sim.addFld {K : RC} {fr : Fr} {ρ : DL.Env} {σ : L2.St} {H : Hp} {c : Str} {ns : List Str} {ds : List D} {d : D} {p : Addr} {v : V} (f : Str) (S : Sim K fr (some (.obj true c ns ds) :: some d :: ρ) (some (.ref p) :: some v :: σ) H) :
    ∃ C dx fs, K.mg c = some (.ref C) ∧ H p = some (.ins C dx fs) ∧ fs.map Prod.fst = ns ∧ Sim K fr (some (.obj true c (ns ++ [f]) (ds ++ [d])) :: ρ) (some (.ref p) :: σ) (upd H p (.ins C dx (fs ++ [(f, v)]))) := by
  obtain ⟨A, S⟩ := S
  obtain ⟨s1, τ1, B1, C1, e1, rfl, ⟨v1, ev, r1⟩, r2⟩ := S.sl
  injection e1 with e1 e2
  subst e1 e2
  cases ev
  obtain ⟨s2, τ2, B2, C2, e3, rfl, ⟨v2, ev, r3⟩, r4⟩ := r2
  injection e3 with e3 e4
  subst e3 e4
  cases ev
  obtain ⟨a, C, dx, fs, B, ea, rfl, hm, hx, hns, r1⟩ := r1
  cases ea
  refine ⟨C, dx, fs, hm, hx, hns, p :: (B ++ B2) ++ C2, ?_⟩
  have sub : ∀ a ∈ p :: (B ++ B2) ++ C2, a ∈ p :: B ++ (B2 ++ C2) ∨ H a = none := fun a z => .inl (by simpa [List.append_assoc] using z)
  have nd : (p :: (B ++ B2) ++ C2).Nodup := by
    have := S.nd
    simpa [List.append_assoc] using this
  have pn : p ∉ B ++ (B2 ++ C2) := by
    have := S.nd
    rw [List.cons_append] at this
    exact (List.nodup_cons.mp this).1
  have kp : ∀ a o, a ≠ p → H a = some o → upd H p (.ins C dx (fs ++ [(f, v)])) a = some o := fun a o n e => by rw [upd_ne n]; exact e
  have kpA : ∀ a o, a ∉ p :: B ++ (B2 ++ C2) → H a = some o → upd H p (.ins C dx (fs ++ [(f, v)])) a = some o := fun a o n e => kp a o (fun z => n (by simp [z])) e
  have fh := S.fro sub (H' := upd H p (.ins C dx (fs ++ [(f, v)]))) kpA
  have ne : ∀ a, a ∈ B ++ (B2 ++ C2) → a ≠ p := fun a z e => pn (e ▸ z)
  refine S.next sub nd kpA ⟨some (.ref p), _, p :: (B ++ B2), C2, rfl, rfl, ⟨.ref p, rfl, p, C, dx, fs ++ [(f, v)], B ++ B2, rfl, rfl, hm, upd_same, by rw [List.map_append, hns]; rfl, ?_⟩, r4.mono fh fun a z o e => kp a o (ne a (by simp [z])) e⟩
  rw [List.map_append]
  refine RepL.app (RepL.mono fh _ _ _ (fun a z o e => kp a o (ne a (by simp [z])) e) r1) ?_
  exact ⟨v, [], B2, [], rfl, by simp, Rep.mono fh _ _ _ (fun a z o e => kp a o (ne a (by simp [z])) e) r3, rfl, rfl⟩
def sFldS (cs : List Str) (i : Nat) (f : Str) (fe : M D) : SF := sE fe fun d ρ1 => match ρ1[i]? with
  | some (some (.obj true c ns ds)) => if c ∈ cs ∧ ns.length < 1000 ∧ f ∉ ns then .nx (ρ1.set i (some (.obj true c (ns ++ [f]) (ds ++ [d])))) else .stuck
  | _ => .stuck
section
variable {ι : Type} {X : ι → Cx} {K : RC} {W : WX} {k : Nat} {e : Expr} {es : List Expr} {fe : M D} {g : M (List D)} {pos : Pos} {pr : List Nat}
theorem sd_fld {f : Str} (cs : List Str) (c : CF X K W k) (hC : ∀ c ∈ cs, ClF K c f) (i : Nat) {x : Str} {p0 apos : Pos} (hx : ∀ j, PE (X j) (.Name x p0) (tVar i)) (h : ED X K W e fe)
    (hs : ∀ j, swapsWith e (some (.Attribute (.Name x p0) f apos)) pos.line (X j).env = pure false := by intro _; rfl) : SD X K W pr (.Assign [.Attribute (.Name x p0) f apos] e pos) (sFldS cs i f fe) := by
  obtain ⟨t, p, s⟩ := h.ex
  refine ⟨sFld K.K (tVar i) t f, (fun j => by rw [← c.kk j]; exact ps_fld (hx j) (p j) (hs j)), fun fr ρ σ H Dn S q => ?_⟩
  refine s fr ρ σ H _ S ((QS.ofE q).mono fun d ρ1 q1 v1 H1 S1 => ?_)
  cases e1 : ρ1[i]? with
  | none => rw [e1] at q1; exact q1.elim
  | some o => cases o with
    | none => rw [e1] at q1; exact q1.elim
    | some z => cases z with
      | obj o cn ns ds => cases o with
        | false => rw [e1] at q1; exact q1.elim
        | true =>
          rw [e1] at q1
          dsimp only at q1
          by_cases hz : cn ∈ cs ∧ ns.length < 1000 ∧ f ∉ ns
          · rw [if_pos hz] at q1
            obtain ⟨v, hv, S2⟩ := S1.move (i := i + 1) (show (some d :: ρ1)[i + 1]? = _ from by simpa using e1)
            have hv3 : σ[i]? = some (some v) := by simpa using hv
            have S2 : Sim K fr (some (.obj true cn ns ds) :: some d :: ρ1.set i none) (some v :: some v1 :: σ) H1 := S2
            obtain ⟨F0, B0, r0, _⟩ := S2.top
            obtain ⟨p0', C', dx', fs', B', rfl, _, _, _, _, _⟩ := r0
            obtain ⟨C, dx, fs, hm, hxp, hns, S3⟩ := S2.addFld f
            obtain ⟨C0, hg, hcl, hna⟩ := hC cn hz.1
            have hCC : C0 = C := by
              rw [hg] at hm
              cases hm
              rfl
            rw [hCC] at hcl hna
            have S4 := S3.back hv3
            rw [set_set_] at S4
            have hl : fs.length = ns.length := by rw [← hns, List.length_map]
            refine ⟨.ref p0', hv3, p0', C, dx, fs, rfl, hxp, hcl, hna, by omega, ?_⟩
            rw [putF_new (by rw [hns]; exact hz.2.2)]
            exact q1 σ _ .refl S4
          · rw [if_neg hz] at q1; exact q1.elim
      | _ => rw [e1] at q1; exact q1.elim
end
/-! ### X(..) -/
theorem Sim.newIns {K : RC} {fr : Fr} {ρ : DL.Env} {σ : L2.St} {H : Hp} {c : Str} {C x dx : Addr} (S : Sim K fr ρ σ H) (hm : K.mg c = some (.ref C)) (hx : H x = none) (hd : H dx = none) (ne : dx ≠ x) :
    Sim K fr (some (.obj true c [] []) :: ρ) (some (.ref x) :: σ) (upd (upd H dx (.own x)) x (.ins C dx [])) := by
  have kp1 : ∀ a o, H a = some o → upd (upd H dx (.own x)) x (.ins C dx []) a = some o := fun a o e => by
    rw [upd_ne (ne_of_none e hx), upd_ne (ne_of_none e hd)]; exact e
  obtain ⟨A, S⟩ := S
  have tr := S.sl.tr
  have sub : ∀ a ∈ x :: A, a ∈ A ∨ H a = none := fun a z => by
    rcases List.mem_cons.mp z with z | z
    · subst z; exact .inr hx
    · exact .inl z
  have f := S.fro sub (H' := upd (upd H dx (.own x)) x (.ins C dx [])) fun a o _ e => kp1 a o e
  exact ⟨x :: A, S.next sub (nodup_cons_fresh S.nd hx tr) (fun a o _ e => kp1 a o e) ⟨some (.ref x), σ, [x], A, rfl, rfl, ⟨.ref x, rfl, x, C, dx, [], [], rfl, rfl, hm, upd_same, rfl, rfl, rfl⟩, S.sl.mono f fun a _ o e => kp1 a o e⟩⟩
def tMakeSD (C : Addr) (sp : Sp) (dvs : List V) (E : L2.St → XK) (t : TA) : TE := fun σ H Q => t σ H fun vs H1 => ∀ x dx, H1 x = none → H1 dx = none → dx ≠ x →
  sp (.ref x :: (vs ++ dvs)) (upd (upd H1 dx (.own x)) x (.ins C dx [])) (fun v H2 => v = .non ∧ Q (.ref x) H2) (E σ)
section
variable {X : Cx} {CX : CXT} {k : Nat} {f C : Addr} {fd : FuncData} {ps : List Str} {sp : Sp} {dvs : List V} {ds : List Value} {E : L2.St → XK} {x : Str} {p pos : Pos} {e : Expr} {es : List Expr} {t : TA}
theorem run_makeSD {pins : List (Addr × Obj)} {σ : L2.St} {H : Hp} {s : Shared} {Q : VK} {us : List Value} {vs : List V} (M : Mk X.K C f) (F : FnOk X.prog X.w X.K X.mg X.base CX k f fd ps sp) (hr : Room (k + 1) X.A) (hb : Binds X.K fd ps ds) (hd : Vals dvs ds)
    (hx : PassesAt CX X σ (E σ)) (I : Inv X pins σ H s) (r : Vals vs us)
    (h : ∀ x dx, H x = none → H dx = none → dx ≠ x → sp (.ref x :: (vs ++ dvs)) (upd (upd H dx (.own x)) x (.ins C dx [])) (fun v H2 => v = .non ∧ Q (.ref x) H2) (E σ)) :
    wpAny (model X.prog X.w) X.A (call (.ref C) us) (EP X pins σ Q) X.xe s := by
  have hq := h (s.heap.objs.size + 1) s.heap.objs.size (I.hok.fresh (Nat.le_succ _)) (I.hok.fresh (Nat.le_refl _)) (Nat.ne_of_lt (Nat.lt_succ_self _))
  have I2 := Inv.made (C := C) I
  have r2 : Vals (V.ref (s.heap.objs.size + 1) :: (vs ++ dvs)) (Value.ref (s.heap.objs.size + 1) :: (us ++ ds)) := .cons rfl (r.append hd)
  have hl : (Value.ref (s.heap.objs.size + 1) :: us ++ ds).length = ps.length := by
    have e := r2.length
    rw [F.len _ _ _ _ hq] at e
    exact e.symm
  refine wpAny_call (make_map (f := f) I.kIn M.makes M.init (beq_iff_eq.mp M.fn) (codeAny_mono (F.run _ X.stack _ _ ⟨Value.ref (s.heap.objs.size + 1) :: us, []⟩ (Value.ref (s.heap.objs.size + 1) :: (us ++ ds)) _ _ (E σ) (hr.make C us [])
    (I2.env0.make C us []) (hb _ (Value.ref (s.heap.objs.size + 1) :: us) I2.kIn hl) r2 hq) fun r s' hq' => ?_))
  cases r with
  | error e => exact hx pins _ _ e s' I2 hq'
  | ok fl =>
    cases fl with
    | ret u =>
      obtain ⟨v, H', I3, rv, ev, q3⟩ := I2.after hq'
      subst ev
      exact ⟨rv, ⟨V.ref (s.heap.objs.size + 1), H', I3, rfl, q3⟩⟩
    | next => exact False.elim hq'
    | brk => exact False.elim hq'
    | cont => exact False.elim hq'
theorem pe_makeSD (M : Mk X.K C f) (F : FnOk X.prog X.w X.K X.mg X.base CX k f fd ps sp) (hr : Room (k + 1) X.A) (hg : Gl X x) (hm : X.mg x = some (.ref C)) (hb : Binds X.K fd ps ds) (hd : Vals dvs ds) (hx : ∀ σ, PassesAt CX X σ (E σ))
    (ha : PA X (e :: es) t) (hdb : (x == ("__debug__" : Str)) = false := by decide) (he : starEach (e :: es) X.env = (false, eval e X.env) :: starEach es X.env := by rfl) (hpl : (backTo pos (starEach es X.env)).any (·.1) = false := by rfl) :
    PE X (.Call (.Name x p) (e :: es) [] pos) (tMakeSD C sp dvs E t) := by
  refine ⟨fun pins s σ H Q I h => ?_⟩
  refine wpAny_Call_Name_kw (ld_glob I hg hm ?_ hdb)
  refine PySem.W.callWith_K (h₀ := X.base) I.ok.mod.kin M.kp (thn (ha.run pos pins s σ H _ I h) fun us s1 ⟨vs, H1, I1, r, q⟩ => ⟨I1.kIn, ?_⟩) he hpl
  exact run_makeSD M F hr hb hd (hx σ) I1 r q
end
/-- a class of the text, made -/
def MkD (P : Program) (w : World) (K : PySem.W.Frag) (mg : Str → Option Value) (base : Heap) (k : Nat) (x : Str) (n : Nat) (F : List D → Res D) : Prop :=
  ∃ C f fd ps, mg x = some (.ref C) ∧ Mk K C f ∧ Binds K fd ps [] ∧ ps.length = n ∧ FnOk P w K mg base (L2.CX P w) k f fd ps (spD ⟨K, mg⟩ n F)
abbrev MkX (X : Cx) := MkD X.prog X.w X.K X.mg X.base
def eMake (c : Str) (F : List D → Res D) (fa : M (List D)) : M D := mbind fa fun ds ρ => match F (.obj true c [] [] :: ds) with
  | .ok .non (some d :: _) => .ok d ρ
  | .exc cn fs _ => .exc cn fs ρ
  | _ => .stuck
section
variable {ι : Type} {X : ι → Cx} {K : RC} {W : WX} {k j n m : Nat} {e : Expr} {es : List Expr} {g : M (List D)} {pos p : Pos} {x : Str} {F : List D → Res D}
theorem ed_make (c : CF X K W k) (h : ∀ i, MkX (X i) j x n F) (hj : j + 1 ≤ k) (hg : ∀ i, Gl (X i) x) (hgn : ∀ i, (X i).mg x = K.mg x) (ha : AM X K W (e :: es) g []) (hl : ALen g m) (hn : m + 1 = n := by rfl) (hdb : (x == ("__debug__" : Str)) = false := by decide)
    (he : ∀ i, starEach (e :: es) (X i).env = (false, eval e (X i).env) :: starEach es (X i).env := by intro _; rfl) (hpl : ∀ i, (backTo pos (starEach es (X i).env)).any (·.1) = false := by intro _; rfl) : ED X K W (.Call (.Name x p) (e :: es) [] pos) (eMake x F g) := by
  obtain ⟨t, pa, s⟩ := ha.ex
  refine ⟨fun σ H Q => ∀ C, K.mg x = some (.ref C) → tMakeSD C (spD K n F) [] (WE W) t σ H Q, (fun i => ?_), fun fr ρ σ H Q S q C hC => ?_⟩
  · obtain ⟨C, f, fd, ps, hm, M, hb, hlp, hF⟩ := h i
    have z := pe_makeSD (p := p) (E := WE W) (t := t) M hF ((c.room i).mono hj) (hg i) hm hb .nil (fun σ => passAt (c.tk i) σ) (pa i) hdb (he i) (hpl i)
    refine ⟨fun pins s σ H Q I hh => z.run pins s σ H Q I ?_⟩
    have hh2 := hh C (by rw [← hgn i]; exact hm)
    rw [← c.K i] at hh2
    exact hh2
  · have hq : QR K W fr σ (g ρ) fun ds ρ1 => g ρ = .ok ds ρ1 ∧ QE K W fr σ (match F (.obj true x [] [] :: ds) with
      | .ok .non (some d :: _) => .ok d ρ1
      | .exc cn fs _ => .exc cn fs ρ1
      | _ => .stuck) Q := by
      have := QR.bind q
      cases e : g ρ with
      | ok ds ρ1 => rw [e] at this; exact ⟨rfl, this⟩
      | exc c fs ρ1 => rw [e] at this; exact this
      | stuck => rw [e] at this; exact this
    refine s fr ρ σ H _ S (hq.mono fun ds ρ1 ⟨e, q1⟩ vs H1 hlv _ S1 x0 dx hx hdx hne => ?_)
    have hN := hl ρ ds ρ1 e
    have S2 := S1.newIns hC hx hdx hne
    have S2 : Sim K fr ((D.obj true x [] [] :: ds).map some ++ ρ1) ((V.ref x0 :: vs).map some ++ σ) (upd (upd H1 dx (.own x0)) x0 (.ins C dx [])) := S2
    have hlv2 : ((V.ref x0 :: vs).map some).length = ((D.obj true x [] [] :: ds).map some).length := by simp [hlv]
    obtain ⟨fr', S3, back⟩ := Sim.frame hlv2 S2
    rw [List.append_nil]
    refine ⟨fr', .obj true x [] [] :: ds, by rw [List.length_cons, hlv, hN]; exact hn, by rw [List.length_cons, hN]; exact hn, S3, ?_⟩
    cases eF : F (.obj true x [] [] :: ds) with
    | ok d os =>
      rw [eF] at q1
      cases d with
      | non =>
        cases os with
        | nil => exact q1.elim
        | cons o os => cases o with
          | none => exact q1.elim
          | some d =>
            intro v H' S4
            refine ⟨S4.topF rfl, ?_⟩
            have S5 := (back _ _ _ S4).drop
            have S5 : Sim K fr (some d :: (os ++ ρ1)) (some (.ref x0) :: (vs.map some ++ σ)) H' := S5
            have hlo : (vs.map some).length = os.length := by
              have := S4.len
              simp only [List.length_cons, List.length_map] at this
              simp only [List.length_map]
              omega
            obtain ⟨fr2, S6, back2⟩ := Sim.hold S5
            exact q1 _ H' (back2 _ _ _ (S6.dropN hlo))
      | _ => exact q1.elim
    | exc cn fs os =>
      rw [eF] at q1
      intro cls dd H' xx S4
      have hlo : ((V.ref x0 :: vs).map some).length = os.length := by
        have := S4.len
        omega
      exact q1 cls dd H' xx ((back _ _ _ S4).dropN hlo)
    | stuck => rw [eF] at q1; exact q1.elim
end
end DL

set_option Elab.async false
set_option linter.all false
set_option maxRecDepth 100000
set_option maxHeartbeats 4000000
namespace DL
open PySem PySem.Spec L2 PyProof.Rows
/-! ## a def that calls itself: nothing is promised where the depth is used up -/
theorem fnok_stuck {P : Program} {w : World} {K : PySem.W.Frag} {mg : Str → Option Value} {base : Heap} {k n : Nat} {f : Addr} {fd : FuncData} {ps : List Str} : FnOk P w K mg base (L2.CX P w) k f fd ps (spD ⟨K, mg⟩ n fun _ => .stuck) :=
  ⟨fun vs H Q E h => by obtain ⟨_, _, _, _, _, h⟩ := h; exact h.elim, fun A outer s H args us vs Q E _ _ _ _ h => by obtain ⟨_, _, _, _, _, h⟩ := h; exact h.elim⟩
/-! ## len(set(x)), x a list of ints -/
def tLenSetL (K : PySem.W.Frag) (ta : TE) : TE := fun σ H Q => ta σ H fun x H1 => ∃ (l : Addr) (ns : List Int), x = V.ref l ∧ (SqT K H1 l (ns.map V.int) ∨ SqL K H1 l (ns.map V.int)) ∧ ns.length < 1000 ∧ Q (.int (once ns).length) H1
theorem met_mem {v : Nat → Int} : ∀ {i : Nat} {x : Int}, x ∈ firstMet v i ↔ ∃ j, j < i ∧ v j = x
  | 0, x => ⟨fun h => (by cases h), fun ⟨j, h, _⟩ => absurd h (Nat.not_lt_zero j)⟩
  | i + 1, x => by
    rw [firstMet_succ]
    unfold step_dedup
    have hs : (firstMet v i).any (· == v i) = true ↔ v i ∈ firstMet v i := by
      rw [List.any_eq_true]
      exact ⟨fun ⟨y, h1, h2⟩ => by rw [← beq_iff_eq.mp h2]; exact h1, fun h => ⟨_, h, by simp⟩⟩
    have key : x ∈ firstMet v i ∨ x = v i ↔ ∃ j, j < i + 1 ∧ v j = x := by
      rw [met_mem]
      refine ⟨fun h => ?_, fun ⟨j, h1, h2⟩ => ?_⟩
      · rcases h with ⟨j, h1, h2⟩ | h
        · exact ⟨j, Nat.lt_succ_of_lt h1, h2⟩
        · exact ⟨i, Nat.lt_succ_self i, h.symm⟩
      · by_cases e : j = i
        · subst e; exact .inr h2.symm
        · exact .inl ⟨j, by omega, h2⟩
    by_cases h : (firstMet v i).any (· == v i) = true
    · rw [if_pos h, ← key]
      exact ⟨.inl, fun q => q.elim id fun e => by rw [e]; exact hs.mp h⟩
    · rw [if_neg h, ← key, List.mem_append, List.mem_singleton]
theorem met_nodup {v : Nat → Int} : ∀ i : Nat, (firstMet v i).Nodup
  | 0 => List.nodup_nil
  | i + 1 => by
    rw [firstMet_succ]
    unfold step_dedup
    by_cases h : (firstMet v i).any (· == v i) = true
    · rw [if_pos h]; exact met_nodup i
    · rw [if_neg h]
      refine List.nodup_append.mpr ⟨met_nodup i, by simp, fun a ha b hb e => h ?_⟩
      rw [List.mem_singleton.mp hb] at e
      exact List.any_eq_true.mpr ⟨a, ha, by simp [e]⟩
theorem met_once (ns : List Int) : (firstMet (fun i => ns.getD i 0) ns.length).length = (once ns).length := once_len (met_nodup _) fun x => by
  rw [met_mem]
  refine ⟨fun ⟨j, h, e⟩ => ?_, fun h => ?_⟩
  · rw [← e, List.getD_eq_getElem?_getD, List.getElem?_eq_getElem h]
    exact List.getElem_mem h
  · obtain ⟨j, h, e⟩ := List.getElem_of_mem h
    exact ⟨j, h, by rw [List.getD_eq_getElem?_getD, List.getElem?_eq_getElem h]; exact e⟩
theorem pe_lenSetL {X : Cx} {a : Expr} {ta : TE} {p p2 q pos : Pos} (hc : X.calm = true) (hg : Gl X "len") (hm : X.mg "len" = none) (hg2 : Gl X "set") (hm2 : X.mg "set" = none) (ha : PE X a ta)
    (na : starEach [a] X.env = (false, eval a X.env) :: starEach [] X.env := by rfl) : PE X (.Call (.Name "len" p) [.Call (.Name "set" p2) [a] [] q] [] pos) (tLenSetL X.K ta) := by
  refine ⟨fun pins s σ H Q I h => ?_⟩
  refine Call_ (ld_blt I hg hm PySem.boot_len ?_)
  refine PyProof.Rows.callWith_builtin1 (PyProof.Rows.args_cons ?_ rfl) rfl rfl
  refine Call_ (ld_blt I hg2 hm2 PyProof.Rows.boot_set ?_)
  refine PyProof.Rows.callWith_type1 (PyProof.Rows.args_cons (thn (ha.run pins s σ H _ I h) fun v s1 ⟨x, H1, I1, r1, q1⟩ => PyProof.Rows.args_nil ?_) na) na rfl
  obtain ⟨l, ns, rfl, hq, h1, q1⟩ := q1
  cases r1
  rcases hq with hq | hq
  · obtain ⟨its, r, pl, hz⟩ := I1.tuple hq
    refine call_set_tupI ns (I1.ok.hd hc) pl (by simpa using r.ints) (by unfold scanBound; omega) fun h' tk c hS hcl hk => ?_
    refine PyProof.Rows.args_nil ?_
    obtain ⟨o, es, ep, t, ho, hex, hd, hg, hnd, hmem, hf, hfit, hn, _⟩ := hS
    have I2 : Inv X pins σ H1 { s1 with heap := h', toks := tk } := I1.kept fun b o e => hk b o e
    have hl : c = (once ns).length := by
      have z := once_len (l := ns) hnd fun x => by rw [← hmem x]; exact decide_eq_true_iff
      rw [List.length_map, Array.length_toList, hn] at z
      exact z
    exact call_len_set ho hex hd hfit (by unfold scanBound at hf; omega) ⟨.int (once ns).length, H1, I2.tok _, ⟨_, by rw [hn, hl]⟩, q1⟩
  · obtain ⟨its, r, pl, hz⟩ := I1.list hq
    have hl : its.toArray.size = ns.length := by rw [List.size_toArray, ← r.length, List.length_map]
    refine call_set_list (I1.ok.hd hc) pl.isList (ns := ns) (by simpa using r.ints) (by unfold scanBound; omega) fun h' tk hS hk => ?_
    refine PyProof.Rows.args_nil ?_
    rw [hl, met_once] at hS
    obtain ⟨o, es, ep, t, ho, hex, hd, _, _, _, hf, hn⟩ := hS
    have I2 : Inv X pins σ H1 { s1 with heap := h', toks := tk } := I1.kept fun b o e => hk b o (Heap.lt_size e) e
    have hsm : (once ns).length ≤ ns.length := by
      rw [← met_once]
      exact firstMet_length_le _ _
    exact call_len_set ho hex hd hf (by rw [hn]; omega) ⟨.int (once ns).length, H1, I2.tok _, ⟨_, by rw [hn]⟩, q1⟩
def lenSetA (d : D) : Option D := (items d).bind fun ds => (intsL ds).bind fun ns => if ns.length < 1000 then some (.int (once ns).length) else none
section
variable {ι : Type} {X : ι → Cx} {K : RC} {W : WX} {k : Nat} {e : Expr} {f : M D} {pos p p2 q : Pos}
theorem ed_lenSetA (c : CF X K W k) (hg : ∀ i, Gl (X i) "len") (hm : K.mg "len" = none) (hg2 : ∀ i, Gl (X i) "set") (hm2 : K.mg "set" = none) (h : ED X K W e f) (hs : ∀ i, starEach [e] (X i).env = (false, eval e (X i).env) :: starEach [] (X i).env := by intro _; rfl) :
    ED X K W (.Call (.Name "len" p) [.Call (.Name "set" p2) [e] [] q] [] pos) (e1 lenSetA f) := by
  obtain ⟨t, pp, s⟩ := h.ex
  refine ⟨tLenSetL K.K t, (fun i => by rw [← c.kk i]; exact pe_lenSetL (c.calm i) (hg i) (by rw [c.mg i]; exact hm) (hg2 i) (by rw [c.mg i]; exact hm2) (pp i) (hs i)), fun fr ρ σ H Q S q => s fr ρ σ H _ S ((QR.bind q).mono fun d ρ1 q1 v H1 S1 => ?_)⟩
  obtain ⟨d', e0, q2⟩ := QR.lift q1
  have fin : ∀ ds, items d = some ds → ∃ ns, intsL ds = some ns ∧ ns.length < 1000 ∧ d' = .int (once ns).length := by
    intro ds hds
    unfold lenSetA at e0
    rw [hds] at e0
    simp only [Option.bind_some] at e0
    cases e1 : intsL ds with
    | none => rw [e1] at e0; cases e0
    | some ns =>
      rw [e1] at e0
      simp only [Option.bind_some] at e0
      by_cases hz : ns.length < 1000
      · rw [if_pos hz] at e0; cases e0; exact ⟨ns, rfl, hz, rfl⟩
      · rw [if_neg hz] at e0; cases e0
  obtain ⟨F, B, r, kk⟩ := S1.top
  cases d with
  | tup ds =>
    obtain ⟨ns, e1, hz, rfl⟩ := fin ds rfl
    obtain ⟨_, a, xs, rfl, hx, r⟩ := r
    have ex := ints_rep e1 r
    exact ⟨a, ns, rfl, .inl (by rw [← ex]; exact SqT.mono kk (SqT.of hx)), hz, q2 _ H1 (S1.drop.pushF rfl)⟩
  | lst o ds =>
    obtain ⟨ns, e1, hz, rfl⟩ := fin ds rfl
    cases o with
    | false =>
      obtain ⟨_, a, xs, rfl, hx, r⟩ := r
      have ex := ints_rep e1 r
      exact ⟨a, ns, rfl, .inr (by rw [← ex]; exact SqL.of (kk _ _ hx)), hz, q2 _ H1 (S1.drop.pushF rfl)⟩
    | true =>
      obtain ⟨a, xs, B', rfl, _, hx, r⟩ := r
      have ex := ints_rep e1 r
      exact ⟨a, ns, rfl, .inr (by rw [← ex]; exact SqL.of hx), hz, q2 _ H1 (S1.drop.pushF rfl)⟩
  | scr ms =>
    obtain ⟨ns, e1, hz, rfl⟩ := fin _ rfl
    have : ns = ms := by rw [intsL_map] at e1; exact (Option.some.inj e1).symm
    subst this
    obtain ⟨_, a, rfl, hx⟩ := r
    exact ⟨a, ns, rfl, .inr (SqL.mono kk hx), hz, q2 _ H1 (S1.drop.pushF rfl)⟩
  | _ => cases e0
end
end DL

set_option Elab.async false
set_option linter.all false
set_option maxRecDepth 100000
set_option maxHeartbeats 4000000
namespace DLM
open PySem PySem.Spec PyProof.Rows L2
/-! ### zip of a list and a tuple -/
abbrev mh1 (h : Heap) (a : Addr) : Heap := h.push { cls := .type "list_iterator", data := .fields #[.ref a, .int 0 0] }
abbrev mh2 (h : Heap) (a b : Addr) : Heap := (mh1 h a).push { cls := .type "tuple_iterator", data := .fields #[.ref b, .int 0 0] }
abbrev mh3 (h : Heap) (a b : Addr) : Heap := (mh2 h a b).push { cls := .type "tuple", data := .seq #[.ref h.objs.size, .ref (mh1 h a).objs.size] }
abbrev mh4 (h : Heap) (a b : Addr) : Heap := (mh3 h a b).push { cls := .type "tuple", data := .seq #[.none, .none] }
abbrev mh5 (h : Heap) (a b : Addr) : Heap := (mh4 h a b).push { cls := .type "zip", data := .fields #[.none, .bool false, .bool false, .ref (mh2 h a b).objs.size, .ref (mh3 h a b).objs.size] }
theorem meets_zipM (a b : Addr) (us vs : Array Value) :
    Meets (Builtin.«zip.__new__» ⟨[.type "zip", .ref a, .ref b], []⟩) (fun _ R s => s.heap.IsList a us ∧ s.heap.IsTuple b vs ∧
      R (.ok (.ret (.ref (mh4 s.heap a b).objs.size))) { s with heap := mh5 s.heap a b }) :=
  .of_wp fun prog w A R s hyp => by
    obtain ⟨hh, gg, dd, tt, oo⟩ := s; obtain ⟨ka, kb, hyp⟩ := hyp
    have hsub := sub_zip
    have qa : Heap.IsList (Shared.heap ⟨hh, gg, dd, tt, oo⟩) a us := ka
    have qb : Heap.IsTuple (Shared.heap ⟨mh1 hh a, gg, dd, tt, oo⟩) b vs := Heap.IsTuple.push kb _
    wp_walk using wpAny_pyIter_list qa, wpAny_pyIter_tuple qb
    exact ⟨_, rfl, hyp⟩
section
variable {prog : Program} {w : World} {A : Around} {E : Value → Shared → Prop} {s : Shared}
theorem call_zipM {a b : Addr} {us vs : Array Value} {Q : Value → Shared → Prop} (ka : s.heap.IsList a us) (kb : s.heap.IsTuple b vs)
    (k : ∀ h', IsZip h' (s.heap.objs.size + 4) (s.heap.objs.size + 2) (s.heap.objs.size + 3) .none → IsPair h' (s.heap.objs.size + 2) (.ref s.heap.objs.size) (.ref (s.heap.objs.size + 1)) →
      IsPair h' (s.heap.objs.size + 3) .none .none → h'.IsListIter s.heap.objs.size a 0 → h'.IsTupleIter (s.heap.objs.size + 1) b 0 →
      (∀ c o, s.heap.get? c = some o → h'.get? c = some o) → Q (.ref (s.heap.objs.size + 4)) { s with heap := h' }) :
    wpAny (model prog w) A (call (.type "zip") [.ref a, .ref b]) Q E s := by
  refine callType_new F.called_zip (by decide) (F.typeCall_zip_2 _ _) (F.newCall_zip_2 _ _) (fun ob => F.args_object_init_3 ob _ _) F.entry_zip_new (meets_zipM a b us vs) ⟨ka, kb, ?_⟩
  have s1 : (mh1 s.heap a).objs.size = s.heap.objs.size + 1 := Heap.size_push ..
  have s2 : (mh2 s.heap a b).objs.size = s.heap.objs.size + 2 := by rw [Heap.size_push, s1]
  have s3 : (mh3 s.heap a b).objs.size = s.heap.objs.size + 3 := by rw [Heap.size_push, s2]
  have s4 : (mh4 s.heap a b).objs.size = s.heap.objs.size + 4 := by rw [Heap.size_push, s3]
  have g5 : (mh5 s.heap a b).get? (mh4 s.heap a b).objs.size = some _ := Heap.get?_push_size _ rfl
  have g4 : (mh5 s.heap a b).get? (mh3 s.heap a b).objs.size = some _ := Heap.get?_push_of_some _ (Heap.get?_push_size _ rfl)
  have g3 : (mh5 s.heap a b).get? (mh2 s.heap a b).objs.size = some _ := Heap.get?_push_of_some _ (Heap.get?_push_of_some _ (Heap.get?_push_size _ rfl))
  have g2 : (mh5 s.heap a b).get? (mh1 s.heap a).objs.size = some _ := Heap.get?_push_of_some _ (Heap.get?_push_of_some _ (Heap.get?_push_of_some _ (Heap.get?_push_size _ rfl)))
  have g1 : (mh5 s.heap a b).get? s.heap.objs.size = some _ := Heap.get?_push_of_some _ (Heap.get?_push_of_some _ (Heap.get?_push_of_some _ (Heap.get?_push_of_some _ (Heap.get?_push_size _ rfl))))
  show _ ∧ _
  rw [s2, s3, s4] at g5
  rw [s1, s2] at g3
  rw [s3] at g4
  rw [s1] at g2
  rw [s4]
  refine ⟨⟨_, g5, rfl⟩, k _ g5 g3 g4 ⟨_, g1, rfl, rfl⟩ ⟨_, g2, rfl, rfl⟩ fun c o x => ?_⟩
  have x1 : (mh1 s.heap a).get? c = some o := Heap.get?_push_of_some _ x
  have x2 : (mh2 s.heap a b).get? c = some o := Heap.get?_push_of_some _ x1
  have x3 : (mh3 s.heap a b).get? c = some o := Heap.get?_push_of_some _ x2
  have x4 : (mh4 s.heap a b).get? c = some o := Heap.get?_push_of_some _ x3
  exact Heap.get?_push_of_some _ x4
end
def ItzM (K : PySem.W.Frag) (a b : Addr) : It :=
  ⟨fun i H => ∃ (xs ys : List V) (x y : V), SqL K H a xs ∧ SqT K H b ys ∧ xs[i]? = some x ∧ ys[i]? = some y,
    fun i H v H' => ∃ T x y, v = .ref T ∧ H T = none ∧ H' = upd H T (.tup [x, y]) ∧ (∀ xs, SqL K H a xs → xs[i]? = some x) ∧ ∀ ys, SqT K H b ys → ys[i]? = some y,
    fun i H => ∃ xs ys : List V, SqL K H a xs ∧ SqT K H b ys ∧ (xs.length ≤ i ∨ ys.length ≤ i)⟩
theorem sep_of {z TI TO i1 i2 a b : Addr} (D : ZipApart z TI TO i1 i2 a b) (hb : b ≠ i1) : ZipSep2 z TI TO i1 i2 [i1, a] [i2, b] where
  TIz := D.TIz
  TOz := D.TOz
  TITO := D.TITO
  TIi1 := D.TIi1
  mem1 := by simp
  zf1 := by simp [D.i1z.symm, D.l1z.symm]
  Tf1 := by simp [D.TOi1, D.l1TO.symm]
  TIi2 := D.TIi2
  mem2 := by simp
  zf2 := by simp [D.i2z.symm, D.l2z.symm]
  Tf2 := by simp [D.TOi2, D.l2TO.symm]
  sep1_2 := by simp [D.i12, hb.symm]
  sep2_1 := by simp [D.i12.symm, D.l1i2.symm]
theorem endL {prog : Program} {w : World} {A : Around} (hh : A.handled = none) {it l : Addr} {items : Array Value} {i : Nat} (hx : items[i]? = none) :
    Draws prog w A it [it, l] i (fun _ _ => True) (fun j h => i ≤ j ∧ h.IsListIter it l j ∧ h.IsList l items) where
  live := fun _ _ st => let ⟨o, ho, _⟩ := st.2.1; ⟨o, ho⟩
  frame := fun _ _ _ st hk => ⟨st.1, st.2.1.at fun o e => hk it (by simp) o e, st.2.2.at fun o e => hk l (by simp) o e⟩
  item := fun j s Q E hi st hQ => absurd hi (Nat.not_lt.mpr st.1)
  done := fun s Q E st hE => wpAny_nextOf_list_end hh st.2.1 st.2.2 hx hE
theorem endT {prog : Program} {w : World} {A : Around} (hh : A.handled = none) {it l : Addr} {items : Array Value} {i : Nat} (hx : items[i]? = none) :
    Draws prog w A it [it, l] i (fun _ _ => True) (fun j h => i ≤ j ∧ h.IsTupleIter it l j ∧ h.IsTuple l items) where
  live := fun _ _ st => let ⟨o, ho, _⟩ := st.2.1; ⟨o, ho⟩
  frame := fun _ _ _ st hk => ⟨st.1, st.2.1.at fun o e => hk it (by simp) o e, st.2.2.at fun o e => hk l (by simp) o e⟩
  item := fun j s Q E hi st hQ => absurd hi (Nat.not_lt.mpr st.1)
  done := fun s Q E st hE => wpAny_nextOf_tuple_end hh st.2.1 st.2.2 hx hE
theorem nextM_end {prog : Program} {w : World} {A : Around} {E : Value → Shared → Prop} {s : Shared} {z TI TO i1 i2 a b : Addr} {i : Nat} {us vs : Array Value} {p q : Value} {Q : Option Value → Shared → Prop} (hh : A.handled = none) (D : ZipApart z TI TO i1 i2 a b)
    (kz : IsZip s.heap z TI TO .none) (kI : IsPair s.heap TI (.ref i1) (.ref i2)) (kO : IsPair s.heap TO p q) (k1 : s.heap.IsListIter i1 a i) (k2 : s.heap.IsTupleIter i2 b i) (ka : s.heap.IsList a us) (kb : s.heap.IsTuple b vs) (he : us[i]? = none ∨ vs[i]? = none)
    (k : ∀ h' tk, (∀ c o, c ≠ z → c ≠ TO → c ≠ i1 → c ≠ i2 → s.heap.get? c = some o → h'.get? c = some o) → Q none { s with heap := h', toks := tk }) : wpAny (model prog w) A (pyNext (.ref z)) Q E s := by
  have hh : A.in1.handled = none := hh
  cases h1 : us[i]? with
  | none =>
    cases h2 : vs[i]? with
    | none =>
      have D1 := endL (prog := prog) (w := w) (it := i1) (l := a) hh h1
      have D2 := endT (prog := prog) (w := w) (it := i2) (l := b) hh h2
      exact wpAny_pyNext_zipD2_end (sep_of D D.l2i1) D1 D2 kz kI kO ⟨Nat.le_refl _, k1, ka⟩ ⟨Nat.le_refl _, k2, kb⟩ (Nat.le_refl _) (Nat.le_refl _) (.inl rfl) k
    | some y =>
      have l2 : i < vs.size := (Array.getElem?_eq_some_iff.mp h2).1
      have D1 := endL (prog := prog) (w := w) (it := i1) (l := a) hh h1
      have D2 := Draws.tuple (prog := prog) (w := w) hh i2 b D.l2i2 vs
      exact wpAny_pyNext_zipD2_end (sep_of D D.l2i1) D1 D2 kz kI kO ⟨Nat.le_refl _, k1, ka⟩ ⟨k2, kb⟩ (Nat.le_refl _) (by omega) (.inl rfl) k
  | some x =>
    have l1 : i < us.size := (Array.getElem?_eq_some_iff.mp h1).1
    have h2 : vs[i]? = none := by
      rcases he with e | e
      · rw [e] at h1; cases h1
      · exact e
    have D1 := Draws.list (prog := prog) (w := w) hh i1 a D.l1i1 us
    have D2 := endT (prog := prog) (w := w) (it := i2) (l := b) hh h2
    exact wpAny_pyNext_zipD2_end (sep_of D D.l2i1) D1 D2 kz kI kO ⟨k1, ka⟩ ⟨Nat.le_refl _, k2, kb⟩ (by omega) (Nat.le_refl _) (.inr rfl) k
theorem turn_zipM {P : Program} {w : World} {K : PySem.W.Frag} {elts : List Expr} {kk : Nat} {tpos : Pos} {a b z TI TO i1 i2 : Addr} (D : ZipApart z TI TO i1 i2 a b) :
    Turn P w K (.Tuple elts kk tpos) (ItzM K a b) [z, TI, TO, i1, i2] z (fun i h => IsZip h z TI TO .none ∧ IsPair h TI (.ref i1) (.ref i2) ∧ (∃ x y, IsPair h TO x y) ∧ h.IsListIter i1 a i ∧ h.IsTupleIter i2 b i) where
  mem := by simp
  obj := fun i h st c hc => by
    obtain ⟨kz, kI, ⟨p, q, kO⟩, ⟨o1, y1, _, d1⟩, ⟨o2, y2, _, d2⟩⟩ := st
    have w : c = z ∨ c = TI ∨ c = TO ∨ c = i1 ∨ c = i2 := by simpa using hc
    rcases w with r | r | r | r | r <;> rw [r]
    · exact ⟨_, kz, fun v t => nomatch t⟩
    · exact ⟨_, kI, fun v t => nomatch t⟩
    · exact ⟨_, kO, fun v t => nomatch t⟩
    · exact ⟨o1, y1, fun v t => by rw [d1] at t; cases t⟩
    · exact ⟨o2, y2, fun v t => by rw [d2] at t; cases t⟩
  keep := fun i h h' st k => by
    obtain ⟨kz, kI, ⟨p, q, kO⟩, k1, k2⟩ := st
    exact ⟨k z (by simp) _ kz, k TI (by simp) _ kI, ⟨p, q, k TO (by simp) _ kO⟩, k1.at fun o t => k i1 (by simp) o t, k2.at fun o t => k i2 (by simp) o t⟩
  item := by
    intro X hP hw hK hc i pins s σ H E I hf st hg
    subst hP hw hK
    obtain ⟨kz, kI, ⟨p0, q0, kO⟩, k1, k2⟩ := st
    obtain ⟨xs, ys, x, y, hqx, hqy, hx, hy⟩ := hg
    obtain ⟨its, rv, p, _⟩ := I.list hqx
    obtain ⟨its2, rv2, p2, _⟩ := I.tuple hqy
    obtain ⟨u, hu, ru⟩ := rv.get hx
    obtain ⟨u2, hu2, ru2⟩ := rv2.get hy
    have hzl : z < s.heap.objs.size := Heap.lt_size kz
    have l1 : i < its.toArray.size := by simpa using (List.getElem?_eq_some_iff.mp hu).1
    have l2 : i < its2.toArray.size := by simpa using (List.getElem?_eq_some_iff.mp hu2).1
    have hh : X.A.in1.handled = none := I.ok.hd hc
    have D1 := Draws.list (prog := X.prog) (w := X.w) hh i1 a D.l1i1 its.toArray
    have D2 := Draws.tuple (prog := X.prog) (w := X.w) hh i2 b D.l2i2 its2.toArray
    refine wpAny_pyNext_zipD2_item (sep_of D D.l2i1) D1 D2 kz kI kO ⟨k1, p.isList⟩ ⟨k2, p2⟩ l1 l2 fun v1 v2 h' tk r1 r2 z' TO' t1 t2 hT hsz hk => ?_
    have er1 : u = v1 := by simpa [hu] using r1
    have er2 : u2 = v2 := by simpa [hu2] using r2
    subst er1
    subst er2
    refine ⟨_, rfl, wpAny_letOwnedTupleGo_zip (s := { s with heap := h', toks := tk }) z' fun h2 z2 sb => ?_⟩
    have hT2 : h2.get? s.heap.objs.size = some { cls := .type "tuple", data := .seq #[u, u2] } := (sb.2 _ (Nat.ne_of_gt hzl)).trans hT
    have nw : ObjOk X.prog X.w (upd H s.heap.objs.size (.tup [x, y])) h2 s.heap.objs.size (.tup [x, y]) :=
      ⟨by show 2 ≤ sizeLine; decide, [u, u2], .cons ru (.cons ru2 .nil), ⟨_, hT2, rfl, _, rfl⟩⟩
    have kp : ∀ c o, c ∉ [z, TI, TO, i1, i2] → s.heap.get? c = some o → h2.get? c = some o := fun c o hb t =>
      (sb.2 c (fun w => hb (by simp [w]))).trans (hk c o (fun w => hb (by simp [w])) (fun w => hb (by simp [w])) (fun w => hb (by simp [w])) (fun w => hb (by simp [w])) t)
    have I1 : Inv X pins σ (upd H s.heap.objs.size (.tup [x, y])) { s with heap := h2, toks := tk } := I.turnedNew (t' := tk) (ch := [z, TI, TO, i1, i2]) kp hf (Nat.le_refl _) nw
    refine ⟨.ref s.heap.objs.size, _, I1, rfl, ⟨_, x, y, rfl, I.hok.fresh (Nat.le_refl _), rfl, fun l hl => by rw [I.list_inj hl hqx]; exact hx, fun l hl => by rw [I.tuple_inj hl hqy]; exact hy⟩, ⟨z2, ?_, ⟨u, u2, ?_⟩, ?_, ?_⟩, fun c hcm => ?_⟩
    · exact (sb.2 _ D.TIz).trans (hk _ _ D.TIz D.TITO D.TIi1 D.TIi2 kI)
    · exact (sb.2 _ D.TOz).trans TO'
    · exact t1.1.at fun o q => (sb.2 _ D.i1z).trans q
    · exact t2.1.at fun o q => (sb.2 _ D.i2z).trans q
    · have hlt : c < s.heap.objs.size := by
        have w : c = z ∨ c = TI ∨ c = TO ∨ c = i1 ∨ c = i2 := by simpa using hcm
        rcases w with r | r | r | r | r <;> rw [r]
        · exact hzl
        · exact Heap.lt_size kI
        · exact Heap.lt_size kO
        · obtain ⟨_, w1, _⟩ := k1; exact Heap.lt_size w1
        · obtain ⟨_, w2, _⟩ := k2; exact Heap.lt_size w2
      rw [upd_ne (Nat.ne_of_lt hlt)]
      exact (hf c hcm).1
  done := by
    intro X hP hw hK hc i pins s σ H E I hf st hg
    subst hP hw hK
    obtain ⟨kz, kI, ⟨p0, q0, kO⟩, k1, k2⟩ := st
    obtain ⟨xs, ys, hqx, hqy, hend⟩ := hg
    obtain ⟨its, rv, p, _⟩ := I.list hqx
    obtain ⟨its2, rv2, p2, _⟩ := I.tuple hqy
    have l1 := rv.length
    have l2 := rv2.length
    have he : its.toArray[i]? = none ∨ its2.toArray[i]? = none := by
      rcases hend with q | q
      · exact .inl (by simp; omega)
      · exact .inr (by simp; omega)
    exact nextM_end (I.ok.hd hc) D kz kI kO k1 k2 p.isList p2 he fun h' tk hk => ⟨rfl, I.turnedL (t' := tk) (ch := [z, TI, TO, i1, i2]) (fun c o hb q =>
      hk c o (fun w => hb (by simp [w])) (fun w => hb (by simp [w])) (fun w => hb (by simp [w])) (fun w => hb (by simp [w])) q) hf⟩
  self := fun A i s Q E st h => wpAny_pyIter_zip st.1 h
def iZipM (K : PySem.W.Frag) (ta : TA) : TI := fun σ H R => ta σ H fun vs H1 => ∃ a b xs ys, vs = [.ref a, .ref b] ∧ SqL K H1 a xs ∧ SqT K H1 b ys ∧ R (ItzM K a b) H1
theorem pi_zipM {X : Cx} {e e2 : Expr} {ta : TA} {p pos tpos : Pos} {elts : List Expr} {kk : Nat} (hg : Gl X "zip") (hm : X.mg "zip" = none) (ha : PA X [e, e2] ta)
    (hs : starEach [e, e2] X.env = (false, eval e X.env) :: starEach [e2] X.env := by rfl) (hpl : (backTo pos (starEach [e2] X.env)).any (·.1) = false := by rfl) :
    PI X (.Tuple elts kk tpos) (.Call (.Name "zip" p) [e, e2] [] pos) (iZipM X.K ta) := by
  refine ⟨fun pins s σ H R I h => Call_ (ld_blt I hg hm PyProof.Rows.boot_zip (PyProof.Rows.callWith_type1 (thn (ha.run pos pins s σ H _ I h) fun us s1 ⟨vs, H1, I1, r1, q1⟩ => ?_) hs hpl))⟩
  obtain ⟨a, b, xs, ys, ex, qa, qb, q⟩ := q1
  subst ex
  cases r1 with
  | cons r rr =>
    cases rr with
    | cons r' rr =>
      cases rr
      cases r
      cases r'
      obtain ⟨its, rv, p1, _⟩ := I1.list qa
      obtain ⟨its2, rv2, p2, _⟩ := I1.tuple qb
      obtain ⟨o2, ho2, _⟩ := id p2
      have n5 : ∀ c, c ∈ [s1.heap.objs.size + 4, s1.heap.objs.size + 2, s1.heap.objs.size + 3, s1.heap.objs.size, s1.heap.objs.size + 1] → FpOk X pins H1 c := fun c m => by
        have le : s1.heap.objs.size ≤ c := by
          simp only [List.mem_cons, List.not_mem_nil, or_false] at m
          omega
        exact I1.fpOk le (I1.hok.fresh le)
      refine call_zipM p1.isList (show s1.heap.IsTuple b its2.toArray from p2) fun h' kz kI kO k1 k2 hk => wpAny_pyIter_zip kz ?_
      have I2 : Inv X pins σ H1 { s1 with heap := h' } := I1.kept (t' := s1.toks) hk
      exact ⟨s1.heap.objs.size + 4, [s1.heap.objs.size + 4, s1.heap.objs.size + 2, s1.heap.objs.size + 3, s1.heap.objs.size, s1.heap.objs.size + 1], _, _, H1, rfl, I2, turn_zipM (PySem.W.ktu_apart s1.heap.objs.size a b p1.lt (Heap.lt_size ho2)), ⟨kz, kI, ⟨_, _, kO⟩, k1, k2⟩, n5, q⟩
end DLM
namespace DL
open PySem PySem.Spec L2
def zipMf : D → D → Option (List D)
  | .lst _ xs, .tup ys => some (zipD xs ys)
  | _, _ => none
def zip2M : List D → Option (List D)
  | [x, y] => zipMf (frz x) (frz y)
  | _ => none
theorem zip2M_two {ds l : List D} (h : zip2M ds = some l) : ∃ x y, ds = [x, y] ∧ zipMf (frz x) (frz y) = some l := by
  unfold zip2M at h
  split at h
  · exact ⟨_, _, rfl, h⟩
  · cases h
theorem zipMf_cases {x y : D} {l : List D} (h : zipMf x y = some l) : ∃ o xs ys, x = .lst o xs ∧ y = .tup ys ∧ l = zipD xs ys := by
  unfold zipMf at h
  split at h
  · cases h; exact ⟨_, _, _, rfl, rfl, rfl⟩
  · cases h
def iZipMD (g : M (List D)) : M (List D) := mbind g fun ds => mlift (zip2M ds)
section
variable {K : RC} {fr : Fr}
theorem yields_zipM {ds es : List D} {xs ys : List V} {H0 : Hp} {a b : Addr} (hs : SqL K.K (VF fr) a xs) (r : RepL K (VF fr) H0 ds xs []) (hs2 : SqT K.K (VF fr) b ys) (r2 : RepL K (VF fr) H0 es ys []) : Yields K (DLM.ItzM K.K a b) fr (zipD ds es) where
  go := fun i H ρ σ S hi => by
    obtain ⟨x, y, h1, h2, _⟩ := zipD_get (List.getElem?_eq_getElem hi)
    obtain ⟨u, hu, _⟩ := r.get h1
    obtain ⟨v, hv, _⟩ := r2.get h2
    exact ⟨xs, ys, u, v, SqL.mono S.vfH hs, SqT.mono S.vfH hs2, hu, hv⟩
  stop := fun i H ρ σ S hi => by
    rw [zipD_len, ← r.len, ← r2.len] at hi
    exact ⟨xs, ys, SqL.mono S.vfH hs, SqT.mono S.vfH hs2, by omega⟩
  yld := fun i H x H' ρ σ d S e hy => by
    obtain ⟨T, u, v, rfl, hT, rfl, h1, h2⟩ := hy
    obtain ⟨p, q, hp, hq, rfl⟩ := zipD_get e
    obtain ⟨u', hu, ru⟩ := r.get hp
    obtain ⟨v', hv, rv⟩ := r2.get hq
    have e1 := h1 xs (SqL.mono S.vfH hs)
    have e2 := h2 ys (SqT.mono S.vfH hs2)
    rw [hu] at e1
    rw [hv] at e2
    cases e1
    cases e2
    exact zip_yld S ru rv hT
end
section
variable {ι : Type} {X : ι → Cx} {K : RC} {W : WX} {k : Nat} {a b : Expr} {g : M (List D)} {pos : Pos}
theorem id_zipM {p tpos : Pos} {elts : List Expr} {kk : Nat} (c : CF X K W k) (hg : ∀ i, Gl (X i) "zip") (hm : K.mg "zip" = none) (ha : AM X K W [a, b] g []) (hs : ∀ i, starEach [a, b] (X i).env = (false, eval a (X i).env) :: starEach [b] (X i).env := by intro _; rfl) (hpl : ∀ i, (backTo pos (starEach [b] (X i).env)).any (·.1) = false := by intro _; rfl) :
    ID X K W (.Tuple elts kk tpos) (.Call (.Name "zip" p) [a, b] [] pos) (iZipMD g) := by
  obtain ⟨t, pa, s⟩ := ha.ex
  refine ⟨DLM.iZipM K.K t, (fun i => by rw [← c.kk i]; exact DLM.pi_zipM (hg i) (by rw [c.mg i]; exact hm) (pa i) (hs i) (hpl i)), fun fr ρ σ H R S q => s fr ρ σ H _ S ((QR.bind q).mono fun ds ρ1 q1 vs H1 hl _ S1 => ?_)⟩
  obtain ⟨l, el, q1⟩ := QR.lift q1
  obtain ⟨x, y, rfl, el⟩ := zip2M_two el
  match vs, hl with
  | [vx, vy], _ =>
    obtain ⟨fr', S2, r, back⟩ := Sim.holdFL (ds := [x, y]) (vs := [vx, vy]) rfl S1
    obtain ⟨v1, w1, B, C, e1, e2, r1, v2, w2, B2, C2, e3, e4, r2, e5, e6⟩ := r
    cases e1
    cases e3
    have eB := (List.append_eq_nil_iff.mp e2.symm).1
    subst eB
    have eC := (List.append_eq_nil_iff.mp e2.symm).2
    subst eC
    have eB2 := (List.append_eq_nil_iff.mp e4.symm).1
    subst eB2
    obtain ⟨o, xs, ys, h1, h2, rfl⟩ := zipMf_cases el
    rw [h1] at r1
    rw [h2] at r2
    have f1 := fro_frz x
    rw [h1] at f1
    cases o with
    | true => cases f1
    | false =>
      obtain ⟨_, p, us, rfl, hs, rr⟩ := r1
      obtain ⟨_, p2, us2, rfl, hs2, rr2⟩ := r2
      exact ⟨p, p2, us, us2, rfl, SqL.mono S2.vfH (SqL.of hs), SqT.mono S2.vfH (SqT.of hs2), q1 _ H1 fr' S2 back (yields_zipM (SqL.of hs) rr (SqT.of hs2) rr2)⟩
end
end DL

set_option Elab.async false
set_option linter.all false
set_option maxRecDepth 100000
set_option maxHeartbeats 4000000
namespace DL
open PySem PySem.Spec L2
/-! ### f(x, g(x)): x is handed over by both, one behind the other -/
def aMvL (i : Nat) (g : M (List D)) : M (List D) := fun ρ => match ρ[i]? with
  | some (some _) => mbind g (fun ds ρ1 => match ρ1[i]? with
    | some (some d) => .ok (d :: ds) (ρ1.set i none)
    | _ => .stuck) ρ
  | _ => .stuck
section
variable {ι : Type} {X : ι → Cx} {K : RC} {W : WX} {es : List Expr} {g : M (List D)} {rs : List (Nat × Nat)} {pos : Pos}
theorem am_mvL (i : Nat) {x : Str} (h : ∀ j, PE (X j) (.Name x pos) (tVar i)) (hr : AM X K W es g rs) (hs : ∀ i, starEach (.Name x pos :: es) (X i).env = (false, eval (.Name x pos) (X i).env) :: starEach es (X i).env := by intro _; rfl) : AM X K W (.Name x pos :: es) (aMvL i g) ((0, i) :: shift rs) := by
  obtain ⟨u, p2, s2⟩ := hr.ex
  refine ⟨tCons (tVar i) u, (fun j => pa_cons (h j) (p2 j) (hs j)), fun fr ρ σ H Q S q => ?_⟩
  unfold QM aMvL at q
  cases e : ρ[i]? with
  | none => rw [e] at q; exact q.elim
  | some o => cases o with
    | none => rw [e] at q; exact q.elim
    | some d0 =>
      rw [e] at q
      obtain ⟨v, e1, _⟩ := S.move e
      refine ⟨v, e1, ?_⟩
      refine s2 fr ρ σ H _ S ((QR.bind q).mono fun ds ρ2 q2 vs H2 hl hrs S2 => ?_)
      cases e2 : ρ2[i]? with
      | none => rw [e2] at q2; exact q2.elim
      | some o2 => cases o2 with
        | none => rw [e2] at q2; exact q2.elim
        | some d =>
          rw [e2] at q2
          have ha : (ds.map some ++ ρ2)[ds.length + i]? = some (some d) := by
            rw [List.getElem?_append_right (by rw [List.length_map]; omega), List.length_map, Nat.add_sub_cancel_left, e2]
          obtain ⟨v', e3, S3⟩ := S2.move ha
          have ev : v' = v := by
            rw [← hl, List.getElem?_append_right (by rw [List.length_map]; omega), List.length_map, Nat.add_sub_cancel_left, e1] at e3
            cases e3
            rfl
          subst ev
          rw [List.set_append_right _ _ (by rw [List.length_map]; omega), List.length_map, Nat.add_sub_cancel_left] at S3
          refine q2 (v' :: vs) H2 (by simp [hl]) (fun p hp => ?_) S3
          rcases List.mem_cons.mp hp with z | hp
          · subst z; exact ⟨v', rfl, e1⟩
          · obtain ⟨p', hp', rfl⟩ := List.mem_map.mp hp
            obtain ⟨u, h1, h2⟩ := hrs p' hp'
            exact ⟨u, by simpa using h1, h2⟩
end
theorem al_mvL {i : Nat} {g : M (List D)} {n : Nat} (h : ALen g n) : ALen (aMvL i g) (n + 1) := fun ρ ds ρ' e => by
  unfold aMvL at e
  split at e
  · obtain ⟨ds', ρ1, h1, h2⟩ := mbind_ok e
    split at h2
    · cases h2
      rw [List.length_cons, h _ _ _ h1]
    · cases h2
  · cases e
section
variable {ρ ρ1 : DL.Env} {g : M (List D)} {d0 d : D} {ds : List D} {i : Nat}
theorem aMvL_ok (h0 : ρ[i]? = some (some d0)) (h1 : g ρ = .ok ds ρ1) (h2 : ρ1[i]? = some (some d)) : aMvL i g ρ = .ok (d :: ds) (ρ1.set i none) := by
  unfold aMvL
  simp only [h0]
  rw [mbind_of h1]
  simp only [h2]
end
end DL

set_option Elab.async false
set_option linter.all false
set_option maxRecDepth 100000
set_option maxHeartbeats 4000000
namespace DL
open PySem PySem.Spec L2
/-! ### dicts of one's own: d[k] = v, d[k], k in d; the keys ints, texts, or tuples of both -/
def key1 : D → Option Key
  | .int i => some (.inl i)
  | .str x => some (.inr x)
  | _ => none
def keysL : List D → Option (List Key)
  | [] => some []
  | d :: ds => (key1 d).bind fun k => (keysL ds).map fun ks => k :: ks
def keyT : D → Option (List Key)
  | .tup ds => keysL ds
  | _ => none
section
variable {κ : Type} [DecidableEq κ]
def putKs (ks : List κ) (k : κ) : List κ := if k ∈ ks then ks else ks ++ [k]
def repV (k : κ) (d : D) : List κ → List D → List D
  | k' :: ks, x :: xs => (if k' = k then d else x) :: repV k d ks xs
  | _, _ => []
def putV (ks : List κ) (ds : List D) (k : κ) (d : D) : List D := if k ∈ ks then repV k d ks ds else ds ++ [d]
def getV (k : κ) : List κ → List D → Option D
  | k' :: ks, x :: xs => if k' = k then some x else getV k ks xs
  | _, _ => none
theorem any_mem {kvs : List (κ × V)} {k : κ} : (kvs.any fun kv => decide (kv.1 = k)) = true ↔ k ∈ kvs.map Prod.fst := by
  rw [List.any_eq_true, List.mem_map]
  exact ⟨fun ⟨x, h1, h2⟩ => ⟨x, h1, of_decide_eq_true h2⟩, fun ⟨x, h1, h2⟩ => ⟨x, h1, decide_eq_true h2⟩⟩
theorem putK_fst {kvs : List (κ × V)} {k : κ} {v : V} : (putK kvs k v).map Prod.fst = putKs (kvs.map Prod.fst) k := by
  unfold putK putKs
  by_cases h : k ∈ kvs.map Prod.fst
  · rw [if_pos (any_mem.mpr h), if_pos h, List.map_map]
    refine List.map_congr_left fun kv _ => ?_
    show (if kv.1 = k then (kv.1, v) else kv).1 = kv.1
    split <;> rfl
  · rw [if_neg (fun z => h (any_mem.mp z)), if_neg h, List.map_append]
    rfl
theorem repV_rep {K : RC} {F H : Hp} {k : κ} {d : D} {v : V} (rd : Rep K F H d v []) : ∀ {kvs : List (κ × V)} {ds : List D}, RepL K F H ds (kvs.map Prod.snd) [] → RepL K F H (repV k d (kvs.map Prod.fst) ds) ((kvs.map fun kv => if kv.1 = k then (kv.1, v) else kv).map Prod.snd) []
  | [], ds, r => by
    cases ds with
    | nil => exact ⟨rfl, rfl⟩
    | cons d ds => obtain ⟨v, ws, B, C, e, _⟩ := r; cases e
  | kv :: kvs, ds, r => by
    cases ds with
    | nil => have := r.1; cases this
    | cons x ds =>
      obtain ⟨u, ws, B, C, e1, e2, r1, r2⟩ := r
      cases e1
      have e3 := List.append_eq_nil_iff.mp e2.symm
      obtain ⟨rfl, rfl⟩ := e3
      have ih := repV_rep (k := k) rd r2
      by_cases h : kv.1 = k
      · show RepL K F H ((if kv.1 = k then d else x) :: _) ((if kv.1 = k then (kv.1, v) else kv).2 :: _) []
        rw [if_pos h, if_pos h]
        exact ⟨v, _, [], [], rfl, rfl, rd, ih⟩
      · show RepL K F H ((if kv.1 = k then d else x) :: _) ((if kv.1 = k then (kv.1, v) else kv).2 :: _) []
        rw [if_neg h, if_neg h]
        exact ⟨kv.2, _, [], [], rfl, rfl, r1, ih⟩
theorem repL_app1 {K : RC} {F H : Hp} {d : D} {v : V} (rd : Rep K F H d v []) : ∀ {ds : List D} {vs : List V}, RepL K F H ds vs [] → RepL K F H (ds ++ [d]) (vs ++ [v]) []
  | [], vs, r => by rw [r.1]; exact ⟨v, [], [], [], rfl, rfl, rd, rfl, rfl⟩
  | x :: ds, vs, r => by
    obtain ⟨u, ws, B, C, rfl, e2, r1, r2⟩ := r
    obtain ⟨rfl, rfl⟩ := List.append_eq_nil_iff.mp e2.symm
    exact ⟨u, ws ++ [v], [], [], rfl, rfl, r1, repL_app1 rd r2⟩
theorem putV_rep {K : RC} {F H : Hp} {k : κ} {d : D} {v : V} (rd : Rep K F H d v []) {kvs : List (κ × V)} {ds : List D} (r : RepL K F H ds (kvs.map Prod.snd) []) : RepL K F H (putV (kvs.map Prod.fst) ds k d) ((putK kvs k v).map Prod.snd) [] := by
  unfold putV putK
  by_cases h : k ∈ kvs.map Prod.fst
  · rw [if_pos h, if_pos (any_mem.mpr h)]
    exact repV_rep rd r
  · rw [if_neg h, if_neg (fun z => h (any_mem.mp z)), List.map_append]
    exact repL_app1 rd r
theorem getV_rep {K : RC} {F H : Hp} {k : κ} : ∀ {kvs : List (κ × V)} {ds : List D} {B : List Addr}, RepL K F H ds (kvs.map Prod.snd) B → match getV k (kvs.map Prod.fst) ds with
    | some e => ∃ v B', valV kvs k = some v ∧ Rep K F H e v B'
    | none => valV kvs k = none
  | [], ds, B, r => by
    cases ds with
    | nil => rfl
    | cons d ds => obtain ⟨v, ws, B, C, e, _⟩ := r; cases e
  | kv :: kvs, ds, B, r => by
    cases ds with
    | nil => have := r.1; cases this
    | cons x ds =>
      obtain ⟨u, ws, B1, C, e1, e2, r1, r2⟩ := r
      cases e1
      by_cases h : kv.1 = k
      · show match (if kv.1 = k then some x else getV k (kvs.map Prod.fst) ds) with | some e => _ | none => _
        rw [if_pos h, valV_pos h]
        exact ⟨_, _, rfl, r1⟩
      · show match (if kv.1 = k then some x else getV k (kvs.map Prod.fst) ds) with | some e => _ | none => _
        rw [if_neg h, valV_neg h]
        exact getV_rep r2
end
section
variable {K : RC} {fr : Fr} {ρ : Env} {σ : L2.St} {H : Hp}
theorem key1_rep {F : Hp} {y : D} {vy : V} {B : List Addr} {k : Key} (r : Rep K F H y vy B) (e : key1 y = some k) : vy = kV k := by
  cases y with
  | int i => cases e; exact r.1
  | str x => cases e; exact r.1
  | _ => cases e
theorem keysL_rep {F : Hp} : ∀ {ds : List D} {vs : List V} {B : List Addr} {ks : List Key}, RepL K F H ds vs B → keysL ds = some ks → vs = ks.map kV
  | [], vs, B, ks, r, e => by cases e; exact r.1
  | d :: ds, vs, B, ks, r, e => by
    obtain ⟨v, ws, B1, C, rfl, _, r1, r2⟩ := r
    unfold keysL at e
    cases h1 : key1 d with
    | none => rw [h1] at e; cases e
    | some k =>
      cases h2 : keysL ds with
      | none => rw [h1, h2] at e; cases e
      | some ks' =>
        rw [h1, h2] at e
        cases e
        rw [key1_rep r1 h1, keysL_rep r2 h2]
        rfl
theorem keyT_rep {F : Hp} {y : D} {vy : V} {B : List Addr} {k : List Key} (hF : ∀ a o, F a = some o → H a = some o) (r : Rep K F H y vy B) (e : keyT y = some k) : ∃ b, vy = .ref b ∧ H b = some (.tup (k.map kV)) := by
  cases y with
  | tup ds =>
    obtain ⟨_, a, xs, rfl, s, r⟩ := r
    have := keysL_rep r (show keysL ds = some k from e)
    subst this
    exact ⟨a, rfl, hF _ _ s⟩
  | _ => cases e
/-- what a dict holds -/
def dget : D → D → Option (Option D)
  | .dk _ ks ds, y => (key1 y).map fun k => getV k ks ds
  | .dt _ ks ds, y => (keyT y).map fun k => getV k ks ds
  | _, _ => none
def LookR (K : RC) (fr : Fr) (ρ : DL.Env) (σ : L2.St) (H : Hp) : Option D → Option V → Prop
  | none, o => o = none
  | some e, o => ∃ v, o = some v ∧ (fro e = true → Sim K fr (some e :: ρ) (some v :: σ) H)
theorem Sim.dlook {i : Nat} {d y : D} {vy : V} {r : Option D} (S : Sim K fr ρ σ H) (h : ρ[i]? = some (some d)) (Sy : Sim K fr (some y :: ρ) (some vy :: σ) H) (hr : dget d y = some r) :
    ∃ a o, σ[i]? = some (some (.ref a)) ∧ DGet H a vy o ∧ LookR K fr ρ σ H r o := by
  obtain ⟨A, T⟩ := id S
  obtain ⟨s, A1, B, A2, e1, eA, ⟨v, rfl, rd⟩, _⟩ := T.sl.at h
  have hH : ∀ a o, hid (A ++ fr.N) H a = some o → H a = some o := fun a o e => (hid_some.mp e).2
  obtain ⟨F2, B2, ry, k2⟩ := Sy.top
  have fin : ∀ {κ : Type} [DecidableEq κ] (kvs : List (κ × V)) (ds : List D) (B' : List Addr) (k : κ), RepL K (hid (A ++ fr.N) H) H ds (kvs.map Prod.snd) B' → LookR K fr ρ σ H (getV k (kvs.map Prod.fst) ds) (valV kvs k) := fun {κ} _ kvs ds B' k r => by
    have z := getV_rep (k := k) r
    cases hg : getV k (kvs.map Prod.fst) ds with
    | none => rw [hg] at z; exact z
    | some e =>
      rw [hg] at z
      obtain ⟨v, B'', h1, h2⟩ := z
      exact ⟨v, h1, fun hf => by
        have := fro_rep hf h2
        subst this
        exact S.pushB (i := i) T h2⟩
  cases d with
  | dk o ks ds =>
    have hr : (key1 y).map (fun k => getV k ks ds) = some r := hr
    cases hk : key1 y with
    | none => rw [hk] at hr; cases hr
    | some k =>
      rw [hk] at hr
      cases hr
      have ev := key1_rep ry hk
      subst ev
      cases o with
      | false =>
        obtain ⟨_, a, kvs, rfl, s, rfl, r⟩ := rd
        exact ⟨a, valV kvs k, e1, .k (hH _ _ s), fin kvs ds _ k r⟩
      | true =>
        obtain ⟨a, kvs, B1, rfl, _, s, rfl, r⟩ := rd
        exact ⟨a, valV kvs k, e1, .k s, fin kvs ds _ k r⟩
  | dt o ks ds =>
    have hr : (keyT y).map (fun k => getV k ks ds) = some r := hr
    cases hk : keyT y with
    | none => rw [hk] at hr; cases hr
    | some k =>
      rw [hk] at hr
      cases hr
      obtain ⟨b, rfl, hb⟩ := keyT_rep k2 ry hk
      cases o with
      | false =>
        obtain ⟨_, a, kvs, rfl, s, rfl, r⟩ := rd
        exact ⟨a, valV kvs k, e1, .t (hH _ _ s) hb, fin kvs ds _ k r⟩
      | true =>
        obtain ⟨a, kvs, B1, rfl, _, s, rfl, r⟩ := rd
        exact ⟨a, valV kvs k, e1, .t s hb, fin kvs ds _ k r⟩
  | _ => cases hr
/-- behind a store: what the dict holds is frozen -/
def dput : D → D → D → Option D
  | .dk true ks ds, y, d => (key1 y).bind fun k => if ks.length < sizeLine then some (.dk true (putKs ks k) (putV ks (frzL ds) k (frz d))) else none
  | .dt true ks ds, y, d => (keyT y).bind fun k => if ks.length < sizeLine then some (.dt true (putKs ks k) (putV ks (frzL ds) k (frz d))) else none
  | _, _, _ => none
theorem Sim.dputG {κ : Type} [DecidableEq κ] {mkD : List κ → List D → D} {mkH : List (κ × V) → HO} (hrep : ∀ (F H : Hp) (ks : List κ) (ds : List D) (v : V) (A : List Addr), Rep K F H (mkD ks ds) v A ↔ ∃ a kvs B, v = .ref a ∧ A = a :: B ∧ H a = some (mkH kvs) ∧ kvs.map Prod.fst = ks ∧ RepL K F H ds (kvs.map Prod.snd) B)
    {ks : List κ} {ds : List D} {d : D} {w v : V} (S : Sim K fr (some (mkD ks ds) :: some d :: ρ) (some w :: some v :: σ) H) (k : κ) : ∃ p kvs, w = .ref p ∧ H p = some (mkH kvs) ∧ kvs.length = ks.length ∧ Sim K fr (some (mkD (putKs ks k) (putV ks (frzL ds) k (DL.frz d))) :: ρ) (some (.ref p) :: σ) (upd H p (mkH (putK kvs k v))) := by
  obtain ⟨A, S⟩ := S
  obtain ⟨s1, τ1, B1, C1, e1, rfl, ⟨v1, ev, r1⟩, r2⟩ := S.sl
  injection e1 with e1 e2
  subst e1 e2
  cases ev
  obtain ⟨s2, τ2, B2, C2, e3, rfl, ⟨v2, ev, r3⟩, r4⟩ := r2
  injection e3 with e3 e4
  subst e3 e4
  cases ev
  obtain ⟨p, kvs, B, rfl, rfl, hx, rfl, rr1⟩ := (hrep _ _ _ _ _ _).mp r1
  refine ⟨p, kvs, rfl, hx, (List.length_map ..).symm, p :: C2, ?_⟩
  have nd0 : (p :: (B ++ (B2 ++ C2))).Nodup := S.nd
  have nd1 := (List.nodup_cons.mp nd0).2
  have pn := (List.nodup_cons.mp nd0).1
  have sub : ∀ a ∈ p :: C2, a ∈ p :: B ++ (B2 ++ C2) ∨ H a = none := fun a z => .inl (by
    rcases List.mem_cons.mp z with z | z
    · rw [z]; exact List.mem_cons_self
    · exact List.mem_cons_of_mem _ (List.mem_append_right _ (List.mem_append_right _ z)))
  have ndc : (p :: C2).Nodup := List.nodup_cons.mpr ⟨fun z => pn (List.mem_append_right _ (List.mem_append_right _ z)), (List.nodup_append.mp (List.nodup_append.mp nd1).2.1).2.1⟩
  have kp : ∀ a o, a ≠ p → H a = some o → upd H p (mkH (putK kvs k v)) a = some o := fun a o n e => by rw [upd_ne n]; exact e
  have kpA : ∀ a o, a ∉ p :: B ++ (B2 ++ C2) → H a = some o → upd H p (mkH (putK kvs k v)) a = some o := fun a o n e => kp a o (fun z => n (by rw [z]; exact List.mem_cons_self)) e
  have f := S.fro sub (H' := upd H p (mkH (putK kvs k v))) kpA
  have vis : ∀ a ∈ B ++ B2, ∀ o, H a = some o → hid (p :: C2 ++ fr.N) (upd H p (mkH (putK kvs k v))) a = some o := fun a z o e => by
    have hne : a ≠ p := fun q => pn (by
      rw [← q]
      rcases List.mem_append.mp z with z | z
      · exact List.mem_append_left _ z
      · exact List.mem_append_right _ (List.mem_append_left _ z))
    refine hid_some.mpr ⟨fun q => ?_, kp a o hne e⟩
    rcases List.mem_append.mp q with q | q
    · rcases List.mem_cons.mp q with q | q
      · exact hne q
      · rcases List.mem_append.mp z with z | z
        · exact (List.nodup_append.mp nd1).2.2 a z a (List.mem_append_right _ q) rfl
        · exact (List.nodup_append.mp (List.nodup_append.mp nd1).2.1).2.2 a z a q rfl
    · refine (S.off a ?_).1 q
      rcases List.mem_append.mp z with z | z
      · exact List.mem_append_left _ (List.mem_cons_of_mem _ z)
      · exact List.mem_append_right _ (List.mem_append_left _ z)
  have rds := RepL.frz f ds (kvs.map Prod.snd) B (fun a z o e => vis a (List.mem_append_left _ z) o e) rr1
  have rd := Rep.frz f d v B2 (fun a z o e => vis a (List.mem_append_right _ z) o e) r3
  have rr := putV_rep (k := k) rd rds
  have rr2 : RepL K (hid (p :: C2 ++ fr.N) (upd H p (mkH (putK kvs k v)))) (upd H p (mkH (putK kvs k v))) (putV (kvs.map Prod.fst) (frzL ds) k (DL.frz d)) ((putK kvs k v).map Prod.snd) [] := RepL.mono (fun _ _ e => e) _ _ _ (fun _ z => nomatch z) rr
  refine S.next sub ndc kpA ⟨some (.ref p), _, [p], C2, rfl, rfl, ⟨.ref p, rfl, (hrep _ _ _ _ _ _).mpr ⟨p, putK kvs k v, [], rfl, rfl, upd_same, putK_fst, rr2⟩⟩, r4.mono f fun a z o e => kp a o (fun q => pn (by rw [← q]; exact List.mem_append_right _ (List.mem_append_right _ z))) e⟩
theorem Sim.dput {c y d d' : D} {w v vy : V} (S : Sim K fr (some c :: some d :: ρ) (some w :: some v :: σ) H) (hy : ∀ k, key1 y = some k → vy = kV k) (hyT : ∀ k, keyT y = some k → ∃ b, vy = .ref b ∧ H b = some (.tup (k.map kV))) (e : DL.dput c y d = some d') :
    ∃ p H', w = .ref p ∧ DPut H p vy v H' ∧ Sim K fr (some d' :: ρ) (some (.ref p) :: σ) H' := by
  cases c with
  | dk o ks ds =>
    cases o with
    | false => cases e
    | true =>
      have e : (key1 y).bind (fun k => if ks.length < sizeLine then some (D.dk true (putKs ks k) (putV ks (frzL ds) k (DL.frz d))) else none) = some d' := e
      cases hk : key1 y with
      | none => rw [hk] at e; cases e
      | some k =>
        rw [hk] at e
        simp only [Option.bind_some] at e
        by_cases hz : ks.length < sizeLine
        · rw [if_pos hz] at e
          cases e
          obtain ⟨p, kvs, rfl, hx, hl, S1⟩ := Sim.dputG (mkD := fun ks ds => .dk true ks ds) (mkH := .dK) (fun _ _ _ _ _ _ => Iff.rfl) S k
          rw [hy k hk]
          exact ⟨p, _, rfl, .k hx (by rw [hl]; exact hz), S1⟩
        · rw [if_neg hz] at e; cases e
  | dt o ks ds =>
    cases o with
    | false => cases e
    | true =>
      have e : (keyT y).bind (fun k => if ks.length < sizeLine then some (D.dt true (putKs ks k) (putV ks (frzL ds) k (DL.frz d))) else none) = some d' := e
      cases hk : keyT y with
      | none => rw [hk] at e; cases e
      | some k =>
        rw [hk] at e
        simp only [Option.bind_some] at e
        by_cases hz : ks.length < sizeLine
        · rw [if_pos hz] at e
          cases e
          obtain ⟨p, kvs, rfl, hx, hl, S1⟩ := Sim.dputG (mkD := fun ks ds => .dt true ks ds) (mkH := .dT) (fun _ _ _ _ _ _ => Iff.rfl) S k
          obtain ⟨b, rfl, hb⟩ := hyT k hk
          exact ⟨p, _, rfl, .t hx hb (by rw [hl]; exact hz), S1⟩
        · rw [if_neg hz] at e; cases e
  | _ => cases e
theorem Sim.newDt (S : Sim K fr ρ σ H) {p : Addr} (hp : H p = none) : Sim K fr (some (.dt true [] []) :: ρ) (some (.ref p) :: σ) (upd H p (.dT [])) := by
  obtain ⟨A, S⟩ := S
  have tr := S.sl.tr
  have sub : ∀ a ∈ p :: A, a ∈ A ∨ H a = none := fun a z => by
    rcases List.mem_cons.mp z with z | z
    · subst z; exact .inr hp
    · exact .inl z
  have kp : ∀ a o, H a = some o → upd H p (.dT []) a = some o := fun a o e => by rw [upd_ne (ne_of_none e hp)]; exact e
  have f := S.fro sub (H' := upd H p (.dT [])) fun a o _ e => kp a o e
  exact ⟨p :: A, S.next sub (nodup_cons_fresh S.nd hp tr) (fun a o _ e => kp a o e) ⟨some (.ref p), σ, [p], A, rfl, rfl, ⟨.ref p, rfl, p, [], [], rfl, rfl, upd_same, rfl, rfl, rfl⟩, S.sl.mono f fun a _ o e => kp a o e⟩⟩
end
def sDPutI (i : Nat) (fv fk : M D) : SF := sE fv fun d ρ1 => match ρ1[i]? with
  | some (some _) => sE fk (fun y ρ2 => match ρ2[i]? with
    | some (some c) => (match dput c y d with
      | some c' => .nx (ρ2.set i (some c'))
      | none => .stuck)
    | _ => .stuck) ρ1
  | _ => .stuck
def eDix (i : Nat) (fk : M D) : M D := fun ρ => match ρ[i]? with
  | some (some _) => mbind fk (fun y ρ1 => match ρ1[i]? with
    | some (some c) => (match dget c y with
      | some (some e) => if fro e = true then .ok e ρ1 else .stuck
      | _ => .stuck)
    | _ => .stuck) ρ
  | _ => .stuck
def eDin (neg : Bool) (i : Nat) (fk : M D) : M D := mbind fk fun y ρ1 => match ρ1[i]? with
  | some (some c) => (match dget c y with
    | some r => .ok (.bl (if neg then !r.isSome else r.isSome)) ρ1
    | _ => .stuck)
  | _ => .stuck
section
variable {ι : Type} {X : ι → Cx} {K : RC} {W : WX} {k : Nat} {b e : Expr} {fb fv : M D} {pos : Pos} {pr : List Nat}
theorem ed_dict0T : ED X K W (.Dict [] [] pos) (eC (.dt true [] [])) := ⟨tDNewT, (fun _ => pe_dnewT), fun fr ρ σ H Q S q p hp => q _ _ (S.newDt hp)⟩
theorem ed_dix (i : Nat) {x : Str} {p0 : Pos} (c : CF X K W k) (h : ∀ j, PE (X j) (.Name x p0) (tVar i)) (hb : ED X K W b fb) (hs : NoSl b := by exact fun _ _ => rfl) : ED X K W (.Subscript (.Name x p0) b pos) (eDix i fb) := by
  obtain ⟨tb, pb, sb⟩ := hb.ex
  refine ⟨tDGet (tVar i) tb, (fun j => pe_dget (by have := (c.room j).un; omega) (h j) (pb j) hs), fun fr ρ σ H Q S q => ?_⟩
  unfold eDix at q
  split at q
  rotate_left
  · exact q.elim
  rename_i d0 e0
  obtain ⟨v0, hv0⟩ := S.slotV e0
  refine ⟨v0, hv0, ?_⟩
  refine sb fr ρ σ H _ S ((QR.bind q).mono fun y ρ1 q1 vy H1 S1 => ?_)
  split at q1
  rotate_left
  · exact q1.elim
  rename_i d e1
  split at q1
  rotate_left
  · exact q1.elim
  rename_i e eg
  by_cases hf : fro e = true
  · simp only [hf, if_true] at q1
    obtain ⟨a, o, h1, h2, v, rfl, h3⟩ := Sim.dlook S1.drop e1 S1 eg
    rw [hv0] at h1
    cases h1
    exact ⟨a, v, rfl, h2, q1 v H1 (h3 hf)⟩
  · simp only [hf, if_false] at q1
    exact q1.elim
theorem ed_dinT (neg : Bool) (i : Nat) {x : Str} {p0 : Pos} (c : CF X K W k) (h : ∀ j, PE (X j) (.Name x p0) (tVar i)) (hb : ED X K W b fb) :
    ∃ t, (∀ j, neg = false → PC (X j) .In b (.Name x p0) t) ∧ (∀ j, neg = true → PC (X j) .NotIn b (.Name x p0) t) ∧ ∀ fr ρ σ H Q, Sim K fr ρ σ H → QE K W fr σ (eDin neg i fb ρ) Q → t σ H Q := by
  obtain ⟨tb, pb, sb⟩ := hb.ex
  have core : ∀ fr ρ σ H Q, Sim K fr ρ σ H → QE K W fr σ (eDin neg i fb ρ) Q → tb σ H fun y H1 => tVar i σ H1 fun x H2 => ∃ a o, x = .ref a ∧ DGet H2 a y o ∧ Q (.bl (if neg then !o.isSome else o.isSome)) H2 := fun fr ρ σ H Q S q => by
    refine sb fr ρ σ H _ S ((QR.bind q).mono fun y ρ1 q1 vy H1 S1 => ?_)
    split at q1
    rotate_left
    · exact q1.elim
    rename_i d e1
    split at q1
    rotate_left
    · exact q1.elim
    rename_i r eg
    obtain ⟨a, o, h1, h2, h3⟩ := Sim.dlook S1.drop e1 S1 eg
    have ho : o.isSome = r.isSome := by
      cases r with
      | none => have h3 : o = none := h3; rw [h3]; rfl
      | some e => obtain ⟨v, rfl, _⟩ := h3; rfl
    refine ⟨.ref a, h1, a, o, rfl, h2, ?_⟩
    rw [ho]
    exact q1 _ H1 (S1.drop.pushF rfl)
  cases neg with
  | false => exact ⟨tDIn tb (tVar i), (fun j _ => pc_din (by have := (c.room j).un; omega) (pb j) (h j)), (fun j z => by cases z), core⟩
  | true => exact ⟨tDNotIn tb (tVar i), (fun j z => by cases z), (fun j _ => pc_dnotin (by have := (c.room j).un; omega) (pb j) (h j)), core⟩
theorem sd_dput (i : Nat) {x : Str} {p0 p1 : Pos} (c : CF X K W k) (h : ∀ j, PE (X j) (.Name x p0) (tVar i)) (hv : ED X K W e fv) (hb : ED X K W b fb) (hs : ∀ j, swapsWith e (some (.Subscript (.Name x p0) b p1)) pos.line (X j).env = pure false := by intro _; rfl) : SD X K W pr (.Assign [.Subscript (.Name x p0) b p1] e pos) (sDPutI i fv fb) := by
  obtain ⟨tv, pv, sv⟩ := hv.ex
  obtain ⟨tb, pb, sb⟩ := hb.ex
  refine ⟨sDPut (tVar i) tb tv, (fun j => ps_dput (by have := (c.room j).un; omega) (h j) (pb j) (pv j) (hs j)), fun fr ρ σ H Dn S q => ?_⟩
  refine sv fr ρ σ H _ S (q.ofE.mono fun d ρ1 q1 v H1 S1 => ?_)
  split at q1
  rotate_left
  · exact q1.elim
  rename_i c0 e0
  obtain ⟨w0, hw0⟩ := S1.drop.slotV e0
  refine ⟨w0, hw0, ?_⟩
  obtain ⟨fr', S2, back⟩ := S1.hold
  refine sb fr' ρ1 σ H1 _ S2 ((q1.ofE.frame fun ρ H s => (back ρ σ H s).drop).mono fun y ρ2 q2 vy H2 S3 => ?_)
  split at q2
  rotate_left
  · exact q2.elim
  rename_i c1 e1
  split at q2
  rotate_left
  · exact q2.elim
  rename_i c2 e2
  obtain ⟨F, B, ry, kF⟩ := S3.top
  have S4 := back _ _ _ S3.drop
  obtain ⟨u, hu, S5⟩ := S4.move (i := i + 1) (show (some d :: ρ2)[i + 1]? = _ from by simpa using e1)
  have hu : σ[i]? = some (some u) := by simpa using hu
  rw [hw0] at hu
  cases hu
  have S5 : Sim K fr (some c1 :: some d :: ρ2.set i none) (some w0 :: some v :: σ) H2 := S5
  obtain ⟨p, H', rfl, hd, S6⟩ := S5.dput (fun k hk => key1_rep ry hk) (fun k hk => keyT_rep kF ry hk) e2
  have S7 := S6.back hw0
  rw [set_set_] at S7
  exact ⟨p, H', rfl, hd, q2 σ H' .refl S7⟩
theorem ed_din (i : Nat) {x : Str} {p0 : Pos} (c : CF X K W k) (h : ∀ j, PE (X j) (.Name x p0) (tVar i)) (hb : ED X K W b fb) : ED X K W (.Compare b [.In] [.Name x p0] pos) (eDin false i fb) := by
  obtain ⟨t, h1, _, h3⟩ := ed_dinT false i c h hb
  exact ⟨t, (fun j => pe_cmp (h1 j rfl) rfl), h3⟩
theorem ed_dnin (i : Nat) {x : Str} {p0 : Pos} (c : CF X K W k) (h : ∀ j, PE (X j) (.Name x p0) (tVar i)) (hb : ED X K W b fb) : ED X K W (.Compare b [.NotIn] [.Name x p0] pos) (eDin true i fb) := by
  obtain ⟨t, _, h2, h3⟩ := ed_dinT true i c h hb
  exact ⟨t, (fun j => pe_cmp (h2 j rfl) rfl), h3⟩
theorem td_din (i : Nat) {x : Str} {p0 : Pos} (c : CF X K W k) (h : ∀ j, PE (X j) (.Name x p0) (tVar i)) (hb : ED X K W b fb) : TD X K W (.Compare b [.In] [.Name x p0] pos) (eB (eDin false i fb)) := by
  obtain ⟨t, h1, _, h3⟩ := ed_dinT false i c h hb
  exact ⟨tTest t, (fun j => pt_cmp (h1 j rfl) rfl), fun fr ρ σ H Q S q => sim_tTest h3 S q⟩
theorem td_dnin (i : Nat) {x : Str} {p0 : Pos} (c : CF X K W k) (h : ∀ j, PE (X j) (.Name x p0) (tVar i)) (hb : ED X K W b fb) : TD X K W (.Compare b [.NotIn] [.Name x p0] pos) (eB (eDin true i fb)) := by
  obtain ⟨t, _, h2, h3⟩ := ed_dinT true i c h hb
  exact ⟨tTest t, (fun j => pt_cmp (h2 j rfl) rfl), fun fr ρ σ H Q S q => sim_tTest h3 S q⟩
end
section
variable {ρ ρ1 ρ2 : DL.Env} {fv fk : M D} {d y c c' e c0 : D} {i : Nat} {r : Option D}
theorem dput_ok (h1 : fv ρ = .ok d ρ1) (h2 : ρ1[i]? = some (some c0)) (h3 : fk ρ1 = .ok y ρ2) (h4 : ρ2[i]? = some (some c)) (h5 : dput c y d = some c') : sDPutI i fv fk ρ = .nx (ρ2.set i (some c')) := by
  unfold sDPutI
  rw [sE_of h1]
  simp only [h2]
  rw [sE_of h3]
  simp only [h4, h5]
theorem dix_ok (h2 : ρ[i]? = some (some c0)) (h3 : fk ρ = .ok y ρ1) (h4 : ρ1[i]? = some (some c)) (h5 : dget c y = some (some e)) (hf : fro e = true) : eDix i fk ρ = .ok e ρ1 := by
  unfold eDix
  simp only [h2]
  rw [mbind_of h3]
  simp only [h4, h5, hf, if_true]
theorem din_ok {neg : Bool} (h3 : fk ρ = .ok y ρ1) (h4 : ρ1[i]? = some (some c)) (h5 : dget c y = some r) : eDin neg i fk ρ = .ok (.bl (if neg then !r.isSome else r.isSome)) ρ1 := by
  unfold eDin
  rw [mbind_of h3]
  simp only [h4, h5]
end
end DL

set_option Elab.async false
set_option linter.all false
set_option maxRecDepth 100000
set_option maxHeartbeats 4000000
noncomputable section
namespace Lk63
open PySem PySem.Spec L2 DL
def top (i : Nat) : Stmt := PySem.Challenge.pw_owncause_k63_whole_sums_of_boxes.main.body.getD i (.Pass ⟨0, 0, 0, 0⟩)
structure Txt (K : PySem.W.Frag) (mg : Str → Option Value) : Prop where
  f_abs : mg "abs" = none
  f_all : mg "all" = none
  f_bool : mg "bool" = none
  f_enumerate : mg "enumerate" = none
  f_int : mg "int" = none
  f_isinstance : mg "isinstance" = none
  f_len : mg "len" = none
  f_range : mg "range" = none
  f_reversed : mg "reversed" = none
  f_sum : mg "sum" = none
  f_tuple : mg "tuple" = none
  f_zip : mg "zip" = none
  i_MOST_MEMBERS : ∃ t, mg "MOST_MEMBERS" = some (.int 8 t)
  i_MOST_ROWS : ∃ t, mg "MOST_ROWS" = some (.int 256 t)
  i_MOST_SORTS : ∃ t, mg "MOST_SORTS" = some (.int 4 t)
  x_NoBox : ExF ⟨K, mg⟩ "NoBox"
  x_NoClub : ExF ⟨K, mg⟩ "NoClub"
  x_NoTotals : ExF ⟨K, mg⟩ "NoTotals"
variable {P : Program} {w : World} {K : PySem.W.Frag} {mg : Str → Option Value} {base : Heap}
abbrev s_law_pool : Stmt := top 28
abbrev N_law_pool : List Str := ["_law_script", "_law_great", "_law_small", "_law_cell"]
abbrev P_law_pool : List Str := ["_law_script"]
theorem sc_law_pool : FnScope N_law_pool P_law_pool (defScope s_law_pool) := ⟨rfl, rfl, rfl, by decide +kernel, rfl, by decide +kernel, by decide +kernel⟩
def b_law_pool : SF := (sSeq (sAsg (eFrz (eLcL 4 (iSeq (eSl (eVar 0) pNone (pSome (eC (.int 63))))) (gSet 3) (eB (e2 geD (eBi absD (aCons (eVar 3) aNil)) (e2 powD (eC (.int 10)) (eC (.int 18))))) (eBi absD (aCons (eVar 3) aNil)) [3])) (gSet 1))
  (sSeq (sAsg (eFrz (eLcL 4 (iSeq (eSl (eVar 0) pNone (pSome (eC (.int 63))))) (gSet 3) (eB (e2 ltD (eBi absD (aCons (eVar 3) aNil)) (e2 powD (eC (.int 10)) (eC (.int 18))))) (e2 modD (eBi intD (aCons (eVar 3) aNil)) (eC (.int 1000003))) [3])) (gSet 2))
  (sRet (eLst (aCons (eVar 1) (aCons (eVar 2) (aCons (eC (.int 0)) (aCons (eC (.int 0)) aNil))))))))
def F_law_pool : List D → Res D := runS [] 1 4 b_law_pool
theorem ok_law_pool (T : Txt K mg)  {f : Addr} {fd : FuncData} (F : FunD K "_law_pool" "_law_pool" (defArgs s_law_pool) (defBody s_law_pool) (defScope s_law_pool) [] [] f fd) : FnOk P w K mg base (L2.CX P w) 1 f fd P_law_pool (spD ⟨K, mg⟩ P_law_pool.length F_law_pool) :=
  fnok_of (pr := []) F sc_law_pool fun cdv A outer s H E hr => by
    have c := cf_of (P := P) (w := w) (K := K) (mg := mg) (base := base) (E := E) (H := H) (outer := outer) sc_law_pool hr
    have po : ∀ i : Unit, PassesOwn (model ((fun _ : Unit => cxOf (L2.CX P w) P w K mg base N_law_pool "_law_pool" (defScope s_law_pool) f cdv A outer s H E) i).prog ((fun _ : Unit => cxOf (L2.CX P w) P w K mg base N_law_pool "_law_pool" (defScope s_law_pool) f cdv A outer s H E) i).w) ((fun _ : Unit => cxOf (L2.CX P w) P w K mg base N_law_pool "_law_pool" (defScope s_law_pool) f cdv A outer s H E) i).A ((fun _ : Unit => cxOf (L2.CX P w) P w K mg base N_law_pool "_law_pool" (defScope s_law_pool) f cdv A outer s H E) i).env ((fun _ : Unit => cxOf (L2.CX P w) P w K mg base N_law_pool "_law_pool" (defScope s_law_pool) f cdv A outer s H E) i).xe := fun _ => passes_of rfl
    exact (ss_cons (by first | exact (sd_setLcF (own := [("_law_cell", 3)]) 4 c.calm c.nd (fun _ => rfl) (fun _ => rfl) (fun _ => rfl) (by kernel_rfl) (by kernel_rfl) (by decide) (id_seq c (ed_sl c (ed_var 0 (fun _ => pv 0)) pod_none (pod_some ed_int))) (fun _ => blkOk_by (by kernel_rfl)) (gd_name (i := 3) (fun j => pg_name ((c.blk _).nd j) rfl (by first | exact Or.inl rfl | exact Or.inr rfl))) (ld_one (td_ge (c.blk _) (ed_abs (c.blk _) (fun _ => by rfl) T.f_abs (am_cons (ed_var 3 (fun _ => pv 3)) am_nil)) (ed_pow (c.blk _) ed_int ed_int))) (ed_abs (c.blk _) (fun _ => by rfl) T.f_abs (am_cons (ed_var 3 (fun _ => pv 3)) am_nil))) | exact (sd_asg (fun i te tg he hg => ps_asg he hg) (ed_frz (ed_lc (own := [("_law_cell", 3)]) 4 c.calm c.nd (id_seq c (ed_sl c (ed_var 0 (fun _ => pv 0)) pod_none (pod_some ed_int))) (fun _ => blkOk_by (by kernel_rfl)) (gd_name (i := 3) (fun j => pg_name ((c.blk _).nd j) rfl (by first | exact Or.inl rfl | exact Or.inr rfl))) (ld_one (td_ge (c.blk _) (ed_abs (c.blk _) (fun _ => by rfl) T.f_abs (am_cons (ed_var 3 (fun _ => pv 3)) am_nil)) (ed_pow (c.blk _) ed_int ed_int))) (ed_abs (c.blk _) (fun _ => by rfl) T.f_abs (am_cons (ed_var 3 (fun _ => pv 3)) am_nil)))) (gd_name (i := 1) (fun j => pg_name (c.nd j) rfl (by first | exact Or.inl rfl | exact Or.inr rfl)))))
  (ss_cons (by first | exact (sd_setLcF (own := [("_law_cell", 3)]) 4 c.calm c.nd (fun _ => rfl) (fun _ => rfl) (fun _ => rfl) (by kernel_rfl) (by kernel_rfl) (by decide) (id_seq c (ed_sl c (ed_var 0 (fun _ => pv 0)) pod_none (pod_some ed_int))) (fun _ => blkOk_by (by kernel_rfl)) (gd_name (i := 3) (fun j => pg_name ((c.blk _).nd j) rfl (by first | exact Or.inl rfl | exact Or.inr rfl))) (ld_one (td_lt (c.blk _) (ed_abs (c.blk _) (fun _ => by rfl) T.f_abs (am_cons (ed_var 3 (fun _ => pv 3)) am_nil)) (ed_pow (c.blk _) ed_int ed_int))) (ed_mod (c.blk _) (ed_toint (c.blk _) (fun _ => by rfl) T.f_int (am_cons (ed_var 3 (fun _ => pv 3)) am_nil)) ed_int)) | exact (sd_asg (fun i te tg he hg => ps_asg he hg) (ed_frz (ed_lc (own := [("_law_cell", 3)]) 4 c.calm c.nd (id_seq c (ed_sl c (ed_var 0 (fun _ => pv 0)) pod_none (pod_some ed_int))) (fun _ => blkOk_by (by kernel_rfl)) (gd_name (i := 3) (fun j => pg_name ((c.blk _).nd j) rfl (by first | exact Or.inl rfl | exact Or.inr rfl))) (ld_one (td_lt (c.blk _) (ed_abs (c.blk _) (fun _ => by rfl) T.f_abs (am_cons (ed_var 3 (fun _ => pv 3)) am_nil)) (ed_pow (c.blk _) ed_int ed_int))) (ed_mod (c.blk _) (ed_toint (c.blk _) (fun _ => by rfl) T.f_int (am_cons (ed_var 3 (fun _ => pv 3)) am_nil)) ed_int))) (gd_name (i := 2) (fun j => pg_name (c.nd j) rfl (by first | exact Or.inl rfl | exact Or.inr rfl)))))
  (ss_one (sd_ret (ed_lst (am_cons (ed_var 1 (fun _ => pv 1)) (am_cons (ed_var 2 (fun _ => pv 2)) (am_cons ed_int (am_cons ed_int am_nil)))))))))
abbrev s_law_draw : Stmt := top 29
abbrev N_law_draw : List Str := ["_law_pool_here", "_law_many", "_law_cell", "_law_number_here", "_law_digit"]
abbrev P_law_draw : List Str := ["_law_pool_here", "_law_many"]
theorem sc_law_draw : FnScope N_law_draw P_law_draw (defScope s_law_draw) := ⟨rfl, rfl, rfl, by decide +kernel, rfl, by decide +kernel, by decide +kernel⟩
def b_law_draw : SF := (sSeq (sIf (tBor (mAnd (eB (e2 lebD (e2 ixD (eVar 0) (eC (.int 2))) (eC (.int 1)))) (eB (e2 gtD (eBi lenD (aCons (e2 ixD (eVar 0) (eC (.int 0))) aNil)) (eC (.int 0)))))) (sSeq (sAsg (eFrz (e2 ixD (eVix 0 (eC (.int 0))) (eC (.int 0)))) (gItem 0 (eC (.int 2))))
  (sAsg (eFrz (eSl (eVix 0 (eC (.int 0))) (pSome (eC (.int 1))) pNone)) (gItem 0 (eC (.int 0))))) sNext)
  (sSeq (sIf (tBor (eB (e2 gtD (e2 ixD (eVar 0) (eC (.int 2))) (eC (.int 1))))) (sSeq (sAsg (eBor (e2 modD (eBi intD (aCons (e2 ixD (eVar 0) (eC (.int 2))) aNil)) (eVar 1))) (gSet 4))
  (sSeq (sAsg (eBor (e2 fdivD (e2 ixD (eVar 0) (eC (.int 2))) (eVar 1))) (gItem 0 (eC (.int 2))))
  (sRet (eVar 4)))) sNext)
  (sSeq (sAsg (eFrz (eBor (e2 addD (e2 ixD (eVar 0) (eC (.int 3))) (eC (.int 1))))) (gItem 0 (eC (.int 3))))
  (sSeq (sAsg (eC (.int 0)) (gSet 2))
  (sSeq (sIf (tBor (eB (e2 gtD (eBi lenD (aCons (e2 ixD (eVar 0) (eC (.int 1))) aNil)) (eC (.int 0))))) (sAsg (eFrz (e2 ixD (eVix 0 (eC (.int 1))) (eBor (e2 modD (eBi intD (aCons (e2 ixD (eVar 0) (eC (.int 3))) aNil)) (eBi lenD (aCons (e2 ixD (eVar 0) (eC (.int 1))) aNil)))))) (gSet 2)) sNext)
  (sSeq (sAsg (eBor (e2 modD (eBi intD (aCons (e2 mulD (e2 addD (e2 addD (eVar 2) (e2 mulD (eC (.int 7919)) (e2 ixD (eVar 0) (eC (.int 3))))) (eC (.int 1))) (eC (.int 48271))) aNil)) (eC (.int 2147483647)))) (gSet 3))
  (sSeq (sAsg (e2 modD (eBi intD (aCons (e2 mulD (eVar 3) (e2 addD (e2 fdivD (eVar 3) (eC (.int 1009))) (eC (.int 69621)))) aNil)) (eC (.int 2147483647))) (gSet 3))
  (sSeq (sAsg (e2 modD (eBi intD (aCons (e2 mulD (eVar 3) (e2 addD (e2 fdivD (eVar 3) (eC (.int 2003))) (eC (.int 40692)))) aNil)) (eC (.int 2147483399))) (gSet 3))
  (sRet (e2 modD (eBi intD (aCons (e2 fdivD (eVar 3) (eC (.int 16))) aNil)) (eVar 1)))))))))))
def F_law_draw : List D → Res D := runS [0] 2 5 b_law_draw
theorem ok_law_draw (T : Txt K mg)  {f : Addr} {fd : FuncData} (F : FunD K "_law_draw" "_law_draw" (defArgs s_law_draw) (defBody s_law_draw) (defScope s_law_draw) [] [] f fd) : FnOk P w K mg base (L2.CX P w) 1 f fd P_law_draw (spD ⟨K, mg⟩ P_law_draw.length F_law_draw) :=
  fnok_of (pr := [0]) F sc_law_draw fun cdv A outer s H E hr => by
    have c := cf_of (P := P) (w := w) (K := K) (mg := mg) (base := base) (E := E) (H := H) (outer := outer) sc_law_draw hr
    have po : ∀ i : Unit, PassesOwn (model ((fun _ : Unit => cxOf (L2.CX P w) P w K mg base N_law_draw "_law_draw" (defScope s_law_draw) f cdv A outer s H E) i).prog ((fun _ : Unit => cxOf (L2.CX P w) P w K mg base N_law_draw "_law_draw" (defScope s_law_draw) f cdv A outer s H E) i).w) ((fun _ : Unit => cxOf (L2.CX P w) P w K mg base N_law_draw "_law_draw" (defScope s_law_draw) f cdv A outer s H E) i).A ((fun _ : Unit => cxOf (L2.CX P w) P w K mg base N_law_draw "_law_draw" (defScope s_law_draw) f cdv A outer s H E) i).env ((fun _ : Unit => cxOf (L2.CX P w) P w K mg base N_law_draw "_law_draw" (defScope s_law_draw) f cdv A outer s H E) i).xe := fun _ => passes_of rfl
    exact (ss_cons (sd_if (td_bor (td_of (wd_and (td_le c (ed_ix c (ed_var 0 (fun _ => pv 0)) ed_int) ed_int) (wd_and1 (td_gt c (ed_len c (fun _ => by rfl) T.f_len (am_cons (ed_ix c (ed_var 0 (fun _ => pv 0)) ed_int) am_nil)) ed_int))))) (ss_cons (sd_asg (fun i te tg he hg => ps_asg he hg) (ed_frz (ed_ix c (ed_vix 0 c (fun _ => pv 0) ed_int) ed_int)) (gd_item 0 c (fun _ => pv 0) ed_int))
  (ss_one (sd_asg (fun i te tg he hg => ps_asg he hg) (ed_frz (ed_sl c (ed_vix 0 c (fun _ => pv 0) ed_int) (pod_some ed_int) pod_none)) (gd_item 0 c (fun _ => pv 0) ed_int)))) ss_nil)
  (ss_cons (sd_if (td_bor (td_gt c (ed_ix c (ed_var 0 (fun _ => pv 0)) ed_int) ed_int)) (ss_cons (sd_asg (fun i te tg he hg => ps_asg he hg) (ed_bor (ed_mod c (ed_toint c (fun _ => by rfl) T.f_int (am_cons (ed_ix c (ed_var 0 (fun _ => pv 0)) ed_int) am_nil)) (ed_var 1 (fun _ => pv 1)))) (gd_name (i := 4) (fun j => pg_name (c.nd j) rfl (by first | exact Or.inl rfl | exact Or.inr rfl))))
  (ss_cons (sd_asg (fun i te tg he hg => ps_asg he hg) (ed_bor (ed_fdiv c (ed_ix c (ed_var 0 (fun _ => pv 0)) ed_int) (ed_var 1 (fun _ => pv 1)))) (gd_item 0 c (fun _ => pv 0) ed_int))
  (ss_one (sd_ret (ed_var 4 (fun _ => pv 4)))))) ss_nil)
  (ss_cons (sd_asg (fun i te tg he hg => ps_asg he hg) (ed_frz (ed_bor (ed_add c (ed_ix c (ed_var 0 (fun _ => pv 0)) ed_int) ed_int))) (gd_item 0 c (fun _ => pv 0) ed_int))
  (ss_cons (sd_asg (fun i te tg he hg => ps_asg he hg) ed_int (gd_name (i := 2) (fun j => pg_name (c.nd j) rfl (by first | exact Or.inl rfl | exact Or.inr rfl))))
  (ss_cons (sd_if (td_bor (td_gt c (ed_len c (fun _ => by rfl) T.f_len (am_cons (ed_ix c (ed_var 0 (fun _ => pv 0)) ed_int) am_nil)) ed_int)) (ss_one (sd_asg (fun i te tg he hg => ps_asg he hg) (ed_frz (ed_ix c (ed_vix 0 c (fun _ => pv 0) ed_int) (ed_bor (ed_mod c (ed_toint c (fun _ => by rfl) T.f_int (am_cons (ed_ix c (ed_var 0 (fun _ => pv 0)) ed_int) am_nil)) (ed_len c (fun _ => by rfl) T.f_len (am_cons (ed_ix c (ed_var 0 (fun _ => pv 0)) ed_int) am_nil)))))) (gd_name (i := 2) (fun j => pg_name (c.nd j) rfl (by first | exact Or.inl rfl | exact Or.inr rfl))))) ss_nil)
  (ss_cons (sd_asg (fun i te tg he hg => ps_asg he hg) (ed_bor (ed_mod c (ed_toint c (fun _ => by rfl) T.f_int (am_cons (ed_mul c (ed_add c (ed_add c (ed_var 2 (fun _ => pv 2)) (ed_mul c ed_int (ed_ix c (ed_var 0 (fun _ => pv 0)) ed_int))) ed_int) ed_int) am_nil)) ed_int)) (gd_name (i := 3) (fun j => pg_name (c.nd j) rfl (by first | exact Or.inl rfl | exact Or.inr rfl))))
  (ss_cons (sd_asg (fun i te tg he hg => ps_asg he hg) (ed_mod c (ed_toint c (fun _ => by rfl) T.f_int (am_cons (ed_mul c (ed_var 3 (fun _ => pv 3)) (ed_add c (ed_fdiv c (ed_var 3 (fun _ => pv 3)) ed_int) ed_int)) am_nil)) ed_int) (gd_name (i := 3) (fun j => pg_name (c.nd j) rfl (by first | exact Or.inl rfl | exact Or.inr rfl))))
  (ss_cons (sd_asg (fun i te tg he hg => ps_asg he hg) (ed_mod c (ed_toint c (fun _ => by rfl) T.f_int (am_cons (ed_mul c (ed_var 3 (fun _ => pv 3)) (ed_add c (ed_fdiv c (ed_var 3 (fun _ => pv 3)) ed_int) ed_int)) am_nil)) ed_int) (gd_name (i := 3) (fun j => pg_name (c.nd j) rfl (by first | exact Or.inl rfl | exact Or.inr rfl))))
  (ss_one (sd_ret (ed_mod c (ed_toint c (fun _ => by rfl) T.f_int (am_cons (ed_fdiv c (ed_var 3 (fun _ => pv 3)) ed_int) am_nil)) (ed_var 1 (fun _ => pv 1)))))))))))))
abbrev s_law_pick : Stmt := top 30
abbrev N_law_pick : List Str := ["_law_pool_here", "_law_things"]
abbrev P_law_pick : List Str := ["_law_pool_here", "_law_things"]
theorem sc_law_pick : FnScope N_law_pick P_law_pick (defScope s_law_pick) := ⟨rfl, rfl, rfl, by decide +kernel, rfl, by decide +kernel, by decide +kernel⟩
def b_law_pick : SF := (sRet (e2 ixD (eVar 1) (eCall F_law_draw (aCons (eMove 0) (aCons (eBi lenD (aCons (eVar 1) aNil)) aNil)) [] [(0, 0)])))
def F_law_pick : List D → Res D := runS [0] 2 2 b_law_pick
theorem ok_law_pick (T : Txt K mg) (h_law_draw_2 : FnD P w K mg base 1 "_law_draw" 2 [] F_law_draw) {f : Addr} {fd : FuncData} (F : FunD K "_law_pick" "_law_pick" (defArgs s_law_pick) (defBody s_law_pick) (defScope s_law_pick) [] [] f fd) : FnOk P w K mg base (L2.CX P w) 2 f fd P_law_pick (spD ⟨K, mg⟩ P_law_pick.length F_law_pick) :=
  fnok_of (pr := [0]) F sc_law_pick fun cdv A outer s H E hr => by
    have c := cf_of (P := P) (w := w) (K := K) (mg := mg) (base := base) (E := E) (H := H) (outer := outer) sc_law_pick hr
    have po : ∀ i : Unit, PassesOwn (model ((fun _ : Unit => cxOf (L2.CX P w) P w K mg base N_law_pick "_law_pick" (defScope s_law_pick) f cdv A outer s H E) i).prog ((fun _ : Unit => cxOf (L2.CX P w) P w K mg base N_law_pick "_law_pick" (defScope s_law_pick) f cdv A outer s H E) i).w) ((fun _ : Unit => cxOf (L2.CX P w) P w K mg base N_law_pick "_law_pick" (defScope s_law_pick) f cdv A outer s H E) i).A ((fun _ : Unit => cxOf (L2.CX P w) P w K mg base N_law_pick "_law_pick" (defScope s_law_pick) f cdv A outer s H E) i).env ((fun _ : Unit => cxOf (L2.CX P w) P w K mg base N_law_pick "_law_pick" (defScope s_law_pick) f cdv A outer s H E) i).xe := fun _ => passes_of rfl
    exact (ss_one (sd_ret (ed_ix c (ed_var 1 (fun _ => pv 1)) (ed_fn c (fun _ => h_law_draw_2) (by decide) (fun _ => by rfl) (am_mv 0 (fun _ => pv 0) (am_cons (ed_len c (fun _ => by rfl) T.f_len (am_cons (ed_var 1 (fun _ => pv 1)) am_nil)) am_nil)) (al_cons (al_cons al_nil))))))
abbrev s_law_club : Stmt := top 34
abbrev N_law_club : List Str := ["_law_pool_here", "_law_most", "_law_found", "_law_size", "_law_member", "_law_sorts"]
abbrev P_law_club : List Str := ["_law_pool_here", "_law_most"]
theorem sc_law_club : FnScope N_law_club P_law_club (defScope s_law_club) := ⟨rfl, rfl, rfl, by decide +kernel, rfl, by decide +kernel, by decide +kernel⟩
def b_law_club : SF := (sSeq (sAsg (eLst aNil) (gSet 2))
  (sSeq (sAsg (eC (.int 1)) (gSet 3))
  (sSeq (sFor (iRg1 (aCons (eCall F_law_pick (aCons (eMove 0) (aCons (eFrz (eLst (aCons (eC (.int 1)) (aCons (eC (.int 2)) (aCons (eC (.int 2)) (aCons (eC (.int 3)) (aCons (eC (.int 3)) (aCons (eC (.int 4)) (aCons (eC (.int 5)) (aCons (eC (.int 8)) aNil)))))))))) aNil)) [] [(0, 0)]) aNil)) (gSet 4) (sSeq (sAsg (eFrz (eCall F_law_pick (aCons (eMove 0) (aCons (eFrz (eLst (aCons (eC (.int 1)) (aCons (eC (.int 2)) (aCons (eC (.int 2)) (aCons (eC (.int 2)) (aCons (eC (.int 3)) (aCons (eC (.int 4)) aNil)))))))) aNil)) [] [(0, 0)])) (gSet 5))
  (sSeq (sIf (eB (e2 gtD (e2 mulD (eVar 3) (eVar 5)) (eVar 1))) (sAsg (eFrz (eIf (eB (e2 lebD (e2 mulD (eVar 3) (eC (.int 2))) (eVar 1))) (eC (.int 2)) (eC (.int 1)))) (gSet 5)) sNext)
  (sSeq (sDrop (eApp 2 (eVar 5)))
  (sAsg (eFrz (e2 mulD (eVar 3) (eVar 5))) (gSet 3))))))
  (sFrz 2 (sRet (eBi tupleD (aCons (eVar 2) aNil)))))))
def F_law_club : List D → Res D := runS [0] 2 6 b_law_club
theorem ok_law_club (T : Txt K mg) (h_law_pick_2 : FnD P w K mg base 2 "_law_pick" 2 [] F_law_pick) {f : Addr} {fd : FuncData} (F : FunD K "_law_club" "_law_club" (defArgs s_law_club) (defBody s_law_club) (defScope s_law_club) [] [] f fd) : FnOk P w K mg base (L2.CX P w) 3 f fd P_law_club (spD ⟨K, mg⟩ P_law_club.length F_law_club) :=
  fnok_of (pr := [0]) F sc_law_club fun cdv A outer s H E hr => by
    have c := cf_of (P := P) (w := w) (K := K) (mg := mg) (base := base) (E := E) (H := H) (outer := outer) sc_law_club hr
    have po : ∀ i : Unit, PassesOwn (model ((fun _ : Unit => cxOf (L2.CX P w) P w K mg base N_law_club "_law_club" (defScope s_law_club) f cdv A outer s H E) i).prog ((fun _ : Unit => cxOf (L2.CX P w) P w K mg base N_law_club "_law_club" (defScope s_law_club) f cdv A outer s H E) i).w) ((fun _ : Unit => cxOf (L2.CX P w) P w K mg base N_law_club "_law_club" (defScope s_law_club) f cdv A outer s H E) i).A ((fun _ : Unit => cxOf (L2.CX P w) P w K mg base N_law_club "_law_club" (defScope s_law_club) f cdv A outer s H E) i).env ((fun _ : Unit => cxOf (L2.CX P w) P w K mg base N_law_club "_law_club" (defScope s_law_club) f cdv A outer s H E) i).xe := fun _ => passes_of rfl
    exact (ss_cons (sd_asg (fun i te tg he hg => ps_asg he hg) (ed_lst am_nil) (gd_name (i := 2) (fun j => pg_name (c.nd j) rfl (by first | exact Or.inl rfl | exact Or.inr rfl))))
  (ss_cons (sd_asg (fun i te tg he hg => ps_asg he hg) ed_int (gd_name (i := 3) (fun j => pg_name (c.nd j) rfl (by first | exact Or.inl rfl | exact Or.inr rfl))))
  (ss_cons (sd_for po c.calm (id_rg1 c (fun _ => by rfl) T.f_range (am_cons (ed_fn c (fun _ => h_law_pick_2) (by decide) (fun _ => by rfl) (am_mv 0 (fun _ => pv 0) (am_cons (ed_frz (ed_lst (am_cons ed_int (am_cons ed_int (am_cons ed_int (am_cons ed_int (am_cons ed_int (am_cons ed_int (am_cons ed_int (am_cons ed_int am_nil)))))))))) am_nil)) (al_cons (al_cons al_nil))) am_nil)) (gd_name (i := 4) (fun j => pg_name (c.nd j) rfl (by first | exact Or.inl rfl | exact Or.inr rfl))) (ss_cons (sd_asg (fun i te tg he hg => ps_asg he hg) (ed_frz (ed_fn c (fun _ => h_law_pick_2) (by decide) (fun _ => by rfl) (am_mv 0 (fun _ => pv 0) (am_cons (ed_frz (ed_lst (am_cons ed_int (am_cons ed_int (am_cons ed_int (am_cons ed_int (am_cons ed_int (am_cons ed_int am_nil)))))))) am_nil)) (al_cons (al_cons al_nil)))) (gd_name (i := 5) (fun j => pg_name (c.nd j) rfl (by first | exact Or.inl rfl | exact Or.inr rfl))))
  (ss_cons (sd_if (td_gt c (ed_mul c (ed_var 3 (fun _ => pv 3)) (ed_var 5 (fun _ => pv 5))) (ed_var 1 (fun _ => pv 1))) (ss_one (sd_asg (fun i te tg he hg => ps_asg he hg) (ed_frz (ed_if (td_le c (ed_mul c (ed_var 3 (fun _ => pv 3)) ed_int) (ed_var 1 (fun _ => pv 1))) ed_int ed_int)) (gd_name (i := 5) (fun j => pg_name (c.nd j) rfl (by first | exact Or.inl rfl | exact Or.inr rfl))))) ss_nil)
  (ss_cons (sd_expr (ed_app 2 (fun _ => pv 2) (ed_var 5 (fun _ => pv 5)) c))
  (ss_one (sd_asg (fun i te tg he hg => ps_asg he hg) (ed_frz (ed_mul c (ed_var 3 (fun _ => pv 3)) (ed_var 5 (fun _ => pv 5)))) (gd_name (i := 3) (fun j => pg_name (c.nd j) rfl (by first | exact Or.inl rfl | exact Or.inr rfl)))))))))
  (ss_frz (i := 2) (ss_one (sd_ret (ed_tuple c (fun _ => by rfl) T.f_tuple (am_cons (ed_var 2 (fun _ => pv 2)) am_nil))))))))
abbrev s_law_rows : Stmt := top 35
abbrev N_law_rows : List Str := ["_law_club_here", "_law_found", "_law_sorts", "_law_later", "_law_row", "_law_slip"]
abbrev P_law_rows : List Str := ["_law_club_here"]
theorem sc_law_rows : FnScope N_law_rows P_law_rows (defScope s_law_rows) := ⟨rfl, rfl, rfl, by decide +kernel, rfl, by decide +kernel, by decide +kernel⟩
def b_law_rows : SF := (sSeq (sAsg (eFrz (eLst (aCons (eTup aNil) aNil))) (gSet 1))
  (sSeq (sFor (iSeq (eVar 0)) (gSet 2) (sSeq (sAsg (eLst aNil) (gSet 3))
  (sSeq (sFor (iSeq (eVar 1)) (gSet 4) (sDrop (eExt 3 (eLcL 6 (iRg1 (aCons (eVar 2) aNil)) (gSet 5) mYes (eFrz (e2 addD (eVar 4) (eTup (aCons (eVar 5) aNil)))) [5]))))
  (sAsg (eFrz (eMove 3)) (gSet 1)))))
  (sRet (eVar 1))))
def F_law_rows : List D → Res D := runS [] 1 6 b_law_rows
theorem ok_law_rows (T : Txt K mg)  {f : Addr} {fd : FuncData} (F : FunD K "_law_rows" "_law_rows" (defArgs s_law_rows) (defBody s_law_rows) (defScope s_law_rows) [] [] f fd) : FnOk P w K mg base (L2.CX P w) 1 f fd P_law_rows (spD ⟨K, mg⟩ P_law_rows.length F_law_rows) :=
  fnok_of (pr := []) F sc_law_rows fun cdv A outer s H E hr => by
    have c := cf_of (P := P) (w := w) (K := K) (mg := mg) (base := base) (E := E) (H := H) (outer := outer) sc_law_rows hr
    have po : ∀ i : Unit, PassesOwn (model ((fun _ : Unit => cxOf (L2.CX P w) P w K mg base N_law_rows "_law_rows" (defScope s_law_rows) f cdv A outer s H E) i).prog ((fun _ : Unit => cxOf (L2.CX P w) P w K mg base N_law_rows "_law_rows" (defScope s_law_rows) f cdv A outer s H E) i).w) ((fun _ : Unit => cxOf (L2.CX P w) P w K mg base N_law_rows "_law_rows" (defScope s_law_rows) f cdv A outer s H E) i).A ((fun _ : Unit => cxOf (L2.CX P w) P w K mg base N_law_rows "_law_rows" (defScope s_law_rows) f cdv A outer s H E) i).env ((fun _ : Unit => cxOf (L2.CX P w) P w K mg base N_law_rows "_law_rows" (defScope s_law_rows) f cdv A outer s H E) i).xe := fun _ => passes_of rfl
    exact (ss_cons (sd_asg (fun i te tg he hg => ps_asg he hg) (ed_frz (ed_lst (am_cons (ed_tup am_nil) am_nil))) (gd_name (i := 1) (fun j => pg_name (c.nd j) rfl (by first | exact Or.inl rfl | exact Or.inr rfl))))
  (ss_cons (sd_for po c.calm (id_seq c (ed_var 0 (fun _ => pv 0))) (gd_name (i := 2) (fun j => pg_name (c.nd j) rfl (by first | exact Or.inl rfl | exact Or.inr rfl))) (ss_cons (sd_asg (fun i te tg he hg => ps_asg he hg) (ed_lst am_nil) (gd_name (i := 3) (fun j => pg_name (c.nd j) rfl (by first | exact Or.inl rfl | exact Or.inr rfl))))
  (ss_cons (sd_for po c.calm (id_seq c (ed_var 1 (fun _ => pv 1))) (gd_name (i := 4) (fun j => pg_name (c.nd j) rfl (by first | exact Or.inl rfl | exact Or.inr rfl))) (ss_one (sd_expr (ed_ext 3 (fun _ => pv 3) (ed_lc (own := [("_law_slip", 5)]) 6 c.calm c.nd (id_rg1 c (fun _ => by rfl) T.f_range (am_cons (ed_var 2 (fun _ => pv 2)) am_nil)) (fun _ => blkOk_by (by kernel_rfl)) (gd_name (i := 5) (fun j => pg_name ((c.blk _).nd j) rfl (by first | exact Or.inl rfl | exact Or.inr rfl))) ld_nil (ed_frz (ed_add (c.blk _) (ed_var 4 (fun _ => pv 4)) (ed_tup (am_cons (ed_var 5 (fun _ => pv 5)) am_nil))))) c))))
  (ss_one (sd_asg (fun i te tg he hg => ps_asg he hg) (ed_frz (ed_move 3 (fun _ => pv 3))) (gd_name (i := 1) (fun j => pg_name (c.nd j) rfl (by first | exact Or.inl rfl | exact Or.inr rfl))))))))
  (ss_one (sd_ret (ed_var 1 (fun _ => pv 1))))))
abbrev s_is_integer : Stmt := top 7
abbrev N_is_integer : List Str := ["thing"]
abbrev P_is_integer : List Str := ["thing"]
theorem sc_is_integer : FnScope N_is_integer P_is_integer (defScope s_is_integer) := ⟨rfl, rfl, rfl, by decide +kernel, rfl, by decide +kernel, by decide +kernel⟩
def b_is_integer : SF := (sRet (eAnd (eInst .int (eVar 0)) (eNot (eInst .bool (eVar 0)))))
def F_is_integer : List D → Res D := runS [] 1 1 b_is_integer
theorem ok_is_integer (T : Txt K mg)  {f : Addr} {fd : FuncData} (F : FunD K "is_integer" "is_integer" (defArgs s_is_integer) (defBody s_is_integer) (defScope s_is_integer) [] [] f fd) : FnOk P w K mg base (L2.CX P w) 1 f fd P_is_integer (spD ⟨K, mg⟩ P_is_integer.length F_is_integer) :=
  fnok_of (pr := []) F sc_is_integer fun cdv A outer s H E hr => by
    have c := cf_of (P := P) (w := w) (K := K) (mg := mg) (base := base) (E := E) (H := H) (outer := outer) sc_is_integer hr
    have po : ∀ i : Unit, PassesOwn (model ((fun _ : Unit => cxOf (L2.CX P w) P w K mg base N_is_integer "is_integer" (defScope s_is_integer) f cdv A outer s H E) i).prog ((fun _ : Unit => cxOf (L2.CX P w) P w K mg base N_is_integer "is_integer" (defScope s_is_integer) f cdv A outer s H E) i).w) ((fun _ : Unit => cxOf (L2.CX P w) P w K mg base N_is_integer "is_integer" (defScope s_is_integer) f cdv A outer s H E) i).A ((fun _ : Unit => cxOf (L2.CX P w) P w K mg base N_is_integer "is_integer" (defScope s_is_integer) f cdv A outer s H E) i).env ((fun _ : Unit => cxOf (L2.CX P w) P w K mg base N_is_integer "is_integer" (defScope s_is_integer) f cdv A outer s H E) i).xe := fun _ => passes_of rfl
    exact (ss_one (sd_ret (ed_and (ed_inst .int c (fun _ => by rfl) T.f_isinstance (fun _ => by rfl) T.f_int (by decide +kernel) (ed_var 0 (fun _ => pv 0))) (ed_one (ed_not (ed_inst .bool c (fun _ => by rfl) T.f_isinstance (fun _ => by rfl) T.f_bool (by decide +kernel) (ed_var 0 (fun _ => pv 0))))))))
abbrev s_is_within : Stmt := top 8
abbrev N_is_within : List Str := ["thing", "least", "most"]
abbrev P_is_within : List Str := ["thing", "least", "most"]
theorem sc_is_within : FnScope N_is_within P_is_within (defScope s_is_within) := ⟨rfl, rfl, rfl, by decide +kernel, rfl, by decide +kernel, by decide +kernel⟩
def b_is_within : SF := (sRet (eAnd (eCall F_is_integer (aCons (eVar 0) aNil) [] []) (eChain lebD lebD (eVar 1) (eVar 0) (eVar 2))))
def F_is_within : List D → Res D := runS [] 3 3 b_is_within
theorem ok_is_within (T : Txt K mg) (h_is_integer_1 : FnD P w K mg base 1 "is_integer" 1 [] F_is_integer) {f : Addr} {fd : FuncData} (F : FunD K "is_within" "is_within" (defArgs s_is_within) (defBody s_is_within) (defScope s_is_within) [] [] f fd) : FnOk P w K mg base (L2.CX P w) 2 f fd P_is_within (spD ⟨K, mg⟩ P_is_within.length F_is_within) :=
  fnok_of (pr := []) F sc_is_within fun cdv A outer s H E hr => by
    have c := cf_of (P := P) (w := w) (K := K) (mg := mg) (base := base) (E := E) (H := H) (outer := outer) sc_is_within hr
    have po : ∀ i : Unit, PassesOwn (model ((fun _ : Unit => cxOf (L2.CX P w) P w K mg base N_is_within "is_within" (defScope s_is_within) f cdv A outer s H E) i).prog ((fun _ : Unit => cxOf (L2.CX P w) P w K mg base N_is_within "is_within" (defScope s_is_within) f cdv A outer s H E) i).w) ((fun _ : Unit => cxOf (L2.CX P w) P w K mg base N_is_within "is_within" (defScope s_is_within) f cdv A outer s H E) i).A ((fun _ : Unit => cxOf (L2.CX P w) P w K mg base N_is_within "is_within" (defScope s_is_within) f cdv A outer s H E) i).env ((fun _ : Unit => cxOf (L2.CX P w) P w K mg base N_is_within "is_within" (defScope s_is_within) f cdv A outer s H E) i).xe := fun _ => passes_of rfl
    exact (ss_one (sd_ret (ed_and (ed_fn c (fun _ => h_is_integer_1) (by decide) (fun _ => by rfl) (am_cons (ed_var 0 (fun _ => pv 0)) am_nil) (al_cons al_nil)) (ed_one (ed_chain (fun _ => op_le) (fun _ => op_le) ops_le ops_le (ed_var 1 (fun _ => pv 1)) (ed_var 0 (fun _ => pv 0)) (ed_var 2 (fun _ => pv 2)))))))
abbrev s_is_many : Stmt := top 11
abbrev N_is_many : List Str := ["thing"]
abbrev P_is_many : List Str := ["thing"]
theorem sc_is_many : FnScope N_is_many P_is_many (defScope s_is_many) := ⟨rfl, rfl, rfl, by decide +kernel, rfl, by decide +kernel, by decide +kernel⟩
def b_is_many : SF := (sRet (eCall F_is_within (aCons (eVar 0) (aCons (eC (.int 1)) (aCons (eC (.int 8)) aNil))) [] []))
def F_is_many : List D → Res D := runS [] 1 1 b_is_many
theorem ok_is_many (T : Txt K mg) (h_is_within_3 : FnD P w K mg base 2 "is_within" 3 [] F_is_within) {f : Addr} {fd : FuncData} (F : FunD K "is_many" "is_many" (defArgs s_is_many) (defBody s_is_many) (defScope s_is_many) [] [] f fd) : FnOk P w K mg base (L2.CX P w) 3 f fd P_is_many (spD ⟨K, mg⟩ P_is_many.length F_is_many) :=
  fnok_of (pr := []) F sc_is_many fun cdv A outer s H E hr => by
    have c := cf_of (P := P) (w := w) (K := K) (mg := mg) (base := base) (E := E) (H := H) (outer := outer) sc_is_many hr
    have po : ∀ i : Unit, PassesOwn (model ((fun _ : Unit => cxOf (L2.CX P w) P w K mg base N_is_many "is_many" (defScope s_is_many) f cdv A outer s H E) i).prog ((fun _ : Unit => cxOf (L2.CX P w) P w K mg base N_is_many "is_many" (defScope s_is_many) f cdv A outer s H E) i).w) ((fun _ : Unit => cxOf (L2.CX P w) P w K mg base N_is_many "is_many" (defScope s_is_many) f cdv A outer s H E) i).A ((fun _ : Unit => cxOf (L2.CX P w) P w K mg base N_is_many "is_many" (defScope s_is_many) f cdv A outer s H E) i).env ((fun _ : Unit => cxOf (L2.CX P w) P w K mg base N_is_many "is_many" (defScope s_is_many) f cdv A outer s H E) i).xe := fun _ => passes_of rfl
    exact (ss_one (sd_ret (ed_fn c (fun _ => h_is_within_3) (by decide) (fun _ => by rfl) (am_cons (ed_var 0 (fun _ => pv 0)) (am_cons ed_int (am_cons (ed_gint c T.i_MOST_MEMBERS (fun _ => by rfl)) am_nil))) (al_cons (al_cons (al_cons al_nil))))))
abbrev s_size_of : Stmt := top 15
abbrev N_size_of : List Str := ["club", "found", "sorts"]
abbrev P_size_of : List Str := ["club"]
theorem sc_size_of : FnScope N_size_of P_size_of (defScope s_size_of) := ⟨rfl, rfl, rfl, by decide +kernel, rfl, by decide +kernel, by decide +kernel⟩
def b_size_of : SF := (sSeq (sAsg (eC (.int 1)) (gSet 1))
  (sSeq (sFor (iSeq (eVar 0)) (gSet 2) (sAug 1 mulI (eVar 2)))
  (sRet (eVar 1))))
def F_size_of : List D → Res D := runS [] 1 3 b_size_of
theorem ok_size_of (T : Txt K mg)  {f : Addr} {fd : FuncData} (F : FunD K "size_of" "size_of" (defArgs s_size_of) (defBody s_size_of) (defScope s_size_of) [] [] f fd) : FnOk P w K mg base (L2.CX P w) 1 f fd P_size_of (spD ⟨K, mg⟩ P_size_of.length F_size_of) :=
  fnok_of (pr := []) F sc_size_of fun cdv A outer s H E hr => by
    have c := cf_of (P := P) (w := w) (K := K) (mg := mg) (base := base) (E := E) (H := H) (outer := outer) sc_size_of hr
    have po : ∀ i : Unit, PassesOwn (model ((fun _ : Unit => cxOf (L2.CX P w) P w K mg base N_size_of "size_of" (defScope s_size_of) f cdv A outer s H E) i).prog ((fun _ : Unit => cxOf (L2.CX P w) P w K mg base N_size_of "size_of" (defScope s_size_of) f cdv A outer s H E) i).w) ((fun _ : Unit => cxOf (L2.CX P w) P w K mg base N_size_of "size_of" (defScope s_size_of) f cdv A outer s H E) i).A ((fun _ : Unit => cxOf (L2.CX P w) P w K mg base N_size_of "size_of" (defScope s_size_of) f cdv A outer s H E) i).env ((fun _ : Unit => cxOf (L2.CX P w) P w K mg base N_size_of "size_of" (defScope s_size_of) f cdv A outer s H E) i).xe := fun _ => passes_of rfl
    exact (ss_cons (sd_asg (fun i te tg he hg => ps_asg he hg) ed_int (gd_name (i := 1) (fun j => pg_name (c.nd j) rfl (by first | exact Or.inl rfl | exact Or.inr rfl))))
  (ss_cons (sd_for po c.calm (id_seq c (ed_var 0 (fun _ => pv 0))) (gd_name (i := 2) (fun j => pg_name (c.nd j) rfl (by first | exact Or.inl rfl | exact Or.inr rfl))) (ss_one (sd_augM c.nd (fun _ => rfl) (fun _ => by first | exact Or.inl rfl | exact Or.inr rfl) (fun _ => by first | exact Or.inl rfl | exact Or.inr rfl) (by decide) (ed_var 2 (fun _ => pv 2)))))
  (ss_one (sd_ret (ed_var 1 (fun _ => pv 1))))))
abbrev s_is_club : Stmt := top 16
abbrev N_is_club : List Str := ["thing", "sorts"]
abbrev P_is_club : List Str := ["thing"]
theorem sc_is_club : FnScope N_is_club P_is_club (defScope s_is_club) := ⟨rfl, rfl, rfl, by decide +kernel, rfl, by decide +kernel, by decide +kernel⟩
def b_is_club : SF := (sSeq (sIf (mOr (mNot (eB (eInst .tuple (eVar 0)))) (mNot (eB (eCall F_is_many (aCons (eBi lenD (aCons (eVar 0) aNil)) aNil) [] [])))) (sRet (eC (.bl false))) sNext)
  (sRet (eAnd (eBi allD (aCons (eLcL 2 (iSeq (eVar 0)) (gSet 1) mYes (eFrz (eCall F_is_within (aCons (eVar 1) (aCons (eC (.int 1)) (aCons (eC (.int 4)) aNil))) [] [])) [1]) aNil)) (e2 lebD (eCall F_size_of (aCons (eVar 0) aNil) [] []) (eC (.int 256))))))
def F_is_club : List D → Res D := runS [] 1 2 b_is_club
theorem ok_is_club (T : Txt K mg) (h_is_many_1 : FnD P w K mg base 3 "is_many" 1 [] F_is_many) (h_size_of_1 : FnD P w K mg base 1 "size_of" 1 [] F_size_of) (h_is_within_3 : FnD P w K mg base 2 "is_within" 3 [] F_is_within) {f : Addr} {fd : FuncData} (F : FunD K "is_club" "is_club" (defArgs s_is_club) (defBody s_is_club) (defScope s_is_club) [] [] f fd) : FnOk P w K mg base (L2.CX P w) 4 f fd P_is_club (spD ⟨K, mg⟩ P_is_club.length F_is_club) :=
  fnok_of (pr := []) F sc_is_club fun cdv A outer s H E hr => by
    have c := cf_of (P := P) (w := w) (K := K) (mg := mg) (base := base) (E := E) (H := H) (outer := outer) sc_is_club hr
    have po : ∀ i : Unit, PassesOwn (model ((fun _ : Unit => cxOf (L2.CX P w) P w K mg base N_is_club "is_club" (defScope s_is_club) f cdv A outer s H E) i).prog ((fun _ : Unit => cxOf (L2.CX P w) P w K mg base N_is_club "is_club" (defScope s_is_club) f cdv A outer s H E) i).w) ((fun _ : Unit => cxOf (L2.CX P w) P w K mg base N_is_club "is_club" (defScope s_is_club) f cdv A outer s H E) i).A ((fun _ : Unit => cxOf (L2.CX P w) P w K mg base N_is_club "is_club" (defScope s_is_club) f cdv A outer s H E) i).env ((fun _ : Unit => cxOf (L2.CX P w) P w K mg base N_is_club "is_club" (defScope s_is_club) f cdv A outer s H E) i).xe := fun _ => passes_of rfl
    exact (ss_cons (sd_if (td_of (wd_or (td_not (td_val (ed_inst .tuple c (fun _ => by rfl) T.f_isinstance (fun _ => by rfl) T.f_tuple (by decide +kernel) (ed_var 0 (fun _ => pv 0))))) (wd_or1 (td_not (td_val (ed_fn c (fun _ => h_is_many_1) (by decide) (fun _ => by rfl) (am_cons (ed_len c (fun _ => by rfl) T.f_len (am_cons (ed_var 0 (fun _ => pv 0)) am_nil)) am_nil) (al_cons al_nil))))))) (ss_one (sd_ret ed_bl)) ss_nil)
  (ss_one (sd_ret (ed_and (ed_all c (fun _ => by rfl) T.f_all (am_cons (ed_lc (own := [("sorts", 1)]) 2 c.calm c.nd (id_seq c (ed_var 0 (fun _ => pv 0))) (fun _ => blkOk_by (by kernel_rfl)) (gd_name (i := 1) (fun j => pg_name ((c.blk _).nd j) rfl (by first | exact Or.inl rfl | exact Or.inr rfl))) ld_nil (ed_frz (ed_fn (c.blk _) (fun _ => h_is_within_3) (by decide) (fun _ => by rfl) (am_cons (ed_var 1 (fun _ => pv 1)) (am_cons ed_int (am_cons (ed_gint (c.blk _) T.i_MOST_SORTS (fun _ => by rfl)) am_nil))) (al_cons (al_cons (al_cons al_nil)))))) am_nil)) (ed_one (ed_le c (ed_fn c (fun _ => h_size_of_1) (by decide) (fun _ => by rfl) (am_cons (ed_var 0 (fun _ => pv 0)) am_nil) (al_cons al_nil)) (ed_gint c T.i_MOST_ROWS (fun _ => by rfl))))))))
abbrev s_check_club : Stmt := top 17
abbrev N_check_club : List Str := ["club"]
abbrev P_check_club : List Str := ["club"]
theorem sc_check_club : FnScope N_check_club P_check_club (defScope s_check_club) := ⟨rfl, rfl, rfl, by decide +kernel, rfl, by decide +kernel, by decide +kernel⟩
def b_check_club : SF := (sIf (mNot (eB (eCall F_is_club (aCons (eVar 0) aNil) [] []))) (sRaise "NoClub") sNext)
def F_check_club : List D → Res D := runS [] 1 1 b_check_club
theorem ok_check_club (T : Txt K mg) (h_is_club_1 : FnD P w K mg base 4 "is_club" 1 [] F_is_club) {f : Addr} {fd : FuncData} (F : FunD K "check_club" "check_club" (defArgs s_check_club) (defBody s_check_club) (defScope s_check_club) [] [] f fd) : FnOk P w K mg base (L2.CX P w) 5 f fd P_check_club (spD ⟨K, mg⟩ P_check_club.length F_check_club) :=
  fnok_of (pr := []) F sc_check_club fun cdv A outer s H E hr => by
    have c := cf_of (P := P) (w := w) (K := K) (mg := mg) (base := base) (E := E) (H := H) (outer := outer) sc_check_club hr
    have po : ∀ i : Unit, PassesOwn (model ((fun _ : Unit => cxOf (L2.CX P w) P w K mg base N_check_club "check_club" (defScope s_check_club) f cdv A outer s H E) i).prog ((fun _ : Unit => cxOf (L2.CX P w) P w K mg base N_check_club "check_club" (defScope s_check_club) f cdv A outer s H E) i).w) ((fun _ : Unit => cxOf (L2.CX P w) P w K mg base N_check_club "check_club" (defScope s_check_club) f cdv A outer s H E) i).A ((fun _ : Unit => cxOf (L2.CX P w) P w K mg base N_check_club "check_club" (defScope s_check_club) f cdv A outer s H E) i).env ((fun _ : Unit => cxOf (L2.CX P w) P w K mg base N_check_club "check_club" (defScope s_check_club) f cdv A outer s H E) i).xe := fun _ => passes_of rfl
    exact (ss_one (sd_if (td_not (td_val (ed_fn c (fun _ => h_is_club_1) (by decide) (fun _ => by rfl) (am_cons (ed_var 0 (fun _ => pv 0)) am_nil) (al_cons al_nil)))) (ss_one (sd_raise0 c T.x_NoClub (fun _ => by rfl))) ss_nil))
abbrev s_is_table : Stmt := top 10
abbrev N_is_table : List Str := ["thing", "size"]
abbrev P_is_table : List Str := ["thing", "size"]
theorem sc_is_table : FnScope N_is_table P_is_table (defScope s_is_table) := ⟨rfl, rfl, rfl, by decide +kernel, rfl, by decide +kernel, by decide +kernel⟩
def b_is_table : SF := (sRet (eAnd (eInst .tuple (eVar 0)) (e2 eqD (eBi lenD (aCons (eVar 0) aNil)) (eVar 1))))
def F_is_table : List D → Res D := runS [] 2 2 b_is_table
theorem ok_is_table (T : Txt K mg)  {f : Addr} {fd : FuncData} (F : FunD K "is_table" "is_table" (defArgs s_is_table) (defBody s_is_table) (defScope s_is_table) [] [] f fd) : FnOk P w K mg base (L2.CX P w) 1 f fd P_is_table (spD ⟨K, mg⟩ P_is_table.length F_is_table) :=
  fnok_of (pr := []) F sc_is_table fun cdv A outer s H E hr => by
    have c := cf_of (P := P) (w := w) (K := K) (mg := mg) (base := base) (E := E) (H := H) (outer := outer) sc_is_table hr
    have po : ∀ i : Unit, PassesOwn (model ((fun _ : Unit => cxOf (L2.CX P w) P w K mg base N_is_table "is_table" (defScope s_is_table) f cdv A outer s H E) i).prog ((fun _ : Unit => cxOf (L2.CX P w) P w K mg base N_is_table "is_table" (defScope s_is_table) f cdv A outer s H E) i).w) ((fun _ : Unit => cxOf (L2.CX P w) P w K mg base N_is_table "is_table" (defScope s_is_table) f cdv A outer s H E) i).A ((fun _ : Unit => cxOf (L2.CX P w) P w K mg base N_is_table "is_table" (defScope s_is_table) f cdv A outer s H E) i).env ((fun _ : Unit => cxOf (L2.CX P w) P w K mg base N_is_table "is_table" (defScope s_is_table) f cdv A outer s H E) i).xe := fun _ => passes_of rfl
    exact (ss_one (sd_ret (ed_and (ed_inst .tuple c (fun _ => by rfl) T.f_isinstance (fun _ => by rfl) T.f_tuple (by decide +kernel) (ed_var 0 (fun _ => pv 0))) (ed_one (ed_eq c (ed_len c (fun _ => by rfl) T.f_len (am_cons (ed_var 0 (fun _ => pv 0)) am_nil)) (ed_var 1 (fun _ => pv 1)))))))
abbrev s_check_totals : Stmt := top 22
abbrev N_check_totals : List Str := ["club", "totals", "total"]
abbrev P_check_totals : List Str := ["club", "totals"]
theorem sc_check_totals : FnScope N_check_totals P_check_totals (defScope s_check_totals) := ⟨rfl, rfl, rfl, by decide +kernel, rfl, by decide +kernel, by decide +kernel⟩
def b_check_totals : SF := (sIf (mOr (mNot (eB (eCall F_is_table (aCons (eVar 1) (aCons (eFrz (eCall F_size_of (aCons (eVar 0) aNil) [] [])) aNil)) [] []))) (mNot (eB (eBi allD (aCons (eLcL 3 (iSeq (eVar 1)) (gSet 2) mYes (eFrz (eCall F_is_integer (aCons (eVar 2) aNil) [] [])) [2]) aNil))))) (sRaise "NoTotals") sNext)
def F_check_totals : List D → Res D := runS [] 2 3 b_check_totals
theorem ok_check_totals (T : Txt K mg) (h_is_integer_1 : FnD P w K mg base 1 "is_integer" 1 [] F_is_integer) (h_is_table_2 : FnD P w K mg base 1 "is_table" 2 [] F_is_table) (h_size_of_1 : FnD P w K mg base 1 "size_of" 1 [] F_size_of) {f : Addr} {fd : FuncData} (F : FunD K "check_totals" "check_totals" (defArgs s_check_totals) (defBody s_check_totals) (defScope s_check_totals) [] [] f fd) : FnOk P w K mg base (L2.CX P w) 2 f fd P_check_totals (spD ⟨K, mg⟩ P_check_totals.length F_check_totals) :=
  fnok_of (pr := []) F sc_check_totals fun cdv A outer s H E hr => by
    have c := cf_of (P := P) (w := w) (K := K) (mg := mg) (base := base) (E := E) (H := H) (outer := outer) sc_check_totals hr
    have po : ∀ i : Unit, PassesOwn (model ((fun _ : Unit => cxOf (L2.CX P w) P w K mg base N_check_totals "check_totals" (defScope s_check_totals) f cdv A outer s H E) i).prog ((fun _ : Unit => cxOf (L2.CX P w) P w K mg base N_check_totals "check_totals" (defScope s_check_totals) f cdv A outer s H E) i).w) ((fun _ : Unit => cxOf (L2.CX P w) P w K mg base N_check_totals "check_totals" (defScope s_check_totals) f cdv A outer s H E) i).A ((fun _ : Unit => cxOf (L2.CX P w) P w K mg base N_check_totals "check_totals" (defScope s_check_totals) f cdv A outer s H E) i).env ((fun _ : Unit => cxOf (L2.CX P w) P w K mg base N_check_totals "check_totals" (defScope s_check_totals) f cdv A outer s H E) i).xe := fun _ => passes_of rfl
    exact (ss_one (sd_if (td_of (wd_or (td_not (td_val (ed_fn c (fun _ => h_is_table_2) (by decide) (fun _ => by rfl) (am_cons (ed_var 1 (fun _ => pv 1)) (am_cons (ed_frz (ed_fn c (fun _ => h_size_of_1) (by decide) (fun _ => by rfl) (am_cons (ed_var 0 (fun _ => pv 0)) am_nil) (al_cons al_nil))) am_nil)) (al_cons (al_cons al_nil))))) (wd_or1 (td_not (td_val (ed_all c (fun _ => by rfl) T.f_all (am_cons (ed_lc (own := [("total", 2)]) 3 c.calm c.nd (id_seq c (ed_var 1 (fun _ => pv 1))) (fun _ => blkOk_by (by kernel_rfl)) (gd_name (i := 2) (fun j => pg_name ((c.blk _).nd j) rfl (by first | exact Or.inl rfl | exact Or.inr rfl))) ld_nil (ed_frz (ed_fn (c.blk _) (fun _ => h_is_integer_1) (by decide) (fun _ => by rfl) (am_cons (ed_var 2 (fun _ => pv 2)) am_nil) (al_cons al_nil)))) am_nil))))))) (ss_one (sd_raise0 c T.x_NoTotals (fun _ => by rfl))) ss_nil))
abbrev s_slips_of : Stmt := top 20
abbrev N_slips_of : List Str := ["club", "number", "found", "sorts"]
abbrev P_slips_of : List Str := ["club", "number"]
theorem sc_slips_of : FnScope N_slips_of P_slips_of (defScope s_slips_of) := ⟨rfl, rfl, rfl, by decide +kernel, rfl, by decide +kernel, by decide +kernel⟩
def b_slips_of : SF := (sSeq (sAsg (eLst aNil) (gSet 2))
  (sSeq (sFor (iRevD (eVar 0)) (gSet 3) (sSeq (sDrop (eApp 2 (e2 modD (eVar 1) (eVar 3))))
  (sAsg (e2 fdivD (eVar 1) (eVar 3)) (gSet 1))))
  (sFrz 2 (sRet (eTupRev (eVar 2))))))
def F_slips_of : List D → Res D := runS [] 2 4 b_slips_of
theorem ok_slips_of (T : Txt K mg)  {f : Addr} {fd : FuncData} (F : FunD K "slips_of" "slips_of" (defArgs s_slips_of) (defBody s_slips_of) (defScope s_slips_of) [] [] f fd) : FnOk P w K mg base (L2.CX P w) 1 f fd P_slips_of (spD ⟨K, mg⟩ P_slips_of.length F_slips_of) :=
  fnok_of (pr := []) F sc_slips_of fun cdv A outer s H E hr => by
    have c := cf_of (P := P) (w := w) (K := K) (mg := mg) (base := base) (E := E) (H := H) (outer := outer) sc_slips_of hr
    have po : ∀ i : Unit, PassesOwn (model ((fun _ : Unit => cxOf (L2.CX P w) P w K mg base N_slips_of "slips_of" (defScope s_slips_of) f cdv A outer s H E) i).prog ((fun _ : Unit => cxOf (L2.CX P w) P w K mg base N_slips_of "slips_of" (defScope s_slips_of) f cdv A outer s H E) i).w) ((fun _ : Unit => cxOf (L2.CX P w) P w K mg base N_slips_of "slips_of" (defScope s_slips_of) f cdv A outer s H E) i).A ((fun _ : Unit => cxOf (L2.CX P w) P w K mg base N_slips_of "slips_of" (defScope s_slips_of) f cdv A outer s H E) i).env ((fun _ : Unit => cxOf (L2.CX P w) P w K mg base N_slips_of "slips_of" (defScope s_slips_of) f cdv A outer s H E) i).xe := fun _ => passes_of rfl
    exact (ss_cons (sd_asg (fun i te tg he hg => ps_asg he hg) (ed_lst am_nil) (gd_name (i := 2) (fun j => pg_name (c.nd j) rfl (by first | exact Or.inl rfl | exact Or.inr rfl))))
  (ss_cons (sd_for po c.calm (id_rev c (fun _ => by rfl) T.f_reversed (ed_var 0 (fun _ => pv 0))) (gd_name (i := 3) (fun j => pg_name (c.nd j) rfl (by first | exact Or.inl rfl | exact Or.inr rfl))) (ss_cons (sd_expr (ed_app 2 (fun _ => pv 2) (ed_mod c (ed_var 1 (fun _ => pv 1)) (ed_var 3 (fun _ => pv 3))) c))
  (ss_one (sd_asg (fun i te tg he hg => ps_asg he hg) (ed_fdiv c (ed_var 1 (fun _ => pv 1)) (ed_var 3 (fun _ => pv 3))) (gd_name (i := 1) (fun j => pg_name (c.nd j) rfl (by first | exact Or.inl rfl | exact Or.inr rfl)))))))
  (ss_frz (i := 2) (ss_one (sd_ret (ed_tupRev c (fun _ => by rfl) T.f_tuple (fun _ => by rfl) T.f_reversed (ed_var 2 (fun _ => pv 2))))))))
abbrev s_place_of : Stmt := top 19
abbrev N_place_of : List Str := ["club", "row", "found", "slip", "sorts"]
abbrev P_place_of : List Str := ["club", "row"]
theorem sc_place_of : FnScope N_place_of P_place_of (defScope s_place_of) := ⟨rfl, rfl, rfl, by decide +kernel, rfl, by decide +kernel, by decide +kernel⟩
def b_place_of : SF := (sSeq (sAsg (eC (.int 0)) (gSet 2))
  (sSeq (sFor (iZipD (aCons (eVar 1) (aCons (eVar 0) aNil))) (gTupD 2 (gsCons (gSet 3) (gsCons (gSet 4) gsNil))) (sAsg (eFrz (e2 addD (e2 mulD (eVar 2) (eVar 4)) (eVar 3))) (gSet 2)))
  (sRet (eVar 2))))
def F_place_of : List D → Res D := runS [] 2 5 b_place_of
theorem ok_place_of (T : Txt K mg)  {f : Addr} {fd : FuncData} (F : FunD K "place_of" "place_of" (defArgs s_place_of) (defBody s_place_of) (defScope s_place_of) [] [] f fd) : FnOk P w K mg base (L2.CX P w) 1 f fd P_place_of (spD ⟨K, mg⟩ P_place_of.length F_place_of) :=
  fnok_of (pr := []) F sc_place_of fun cdv A outer s H E hr => by
    have c := cf_of (P := P) (w := w) (K := K) (mg := mg) (base := base) (E := E) (H := H) (outer := outer) sc_place_of hr
    have po : ∀ i : Unit, PassesOwn (model ((fun _ : Unit => cxOf (L2.CX P w) P w K mg base N_place_of "place_of" (defScope s_place_of) f cdv A outer s H E) i).prog ((fun _ : Unit => cxOf (L2.CX P w) P w K mg base N_place_of "place_of" (defScope s_place_of) f cdv A outer s H E) i).w) ((fun _ : Unit => cxOf (L2.CX P w) P w K mg base N_place_of "place_of" (defScope s_place_of) f cdv A outer s H E) i).A ((fun _ : Unit => cxOf (L2.CX P w) P w K mg base N_place_of "place_of" (defScope s_place_of) f cdv A outer s H E) i).env ((fun _ : Unit => cxOf (L2.CX P w) P w K mg base N_place_of "place_of" (defScope s_place_of) f cdv A outer s H E) i).xe := fun _ => passes_of rfl
    exact (ss_cons (sd_asg (fun i te tg he hg => ps_asg he hg) ed_int (gd_name (i := 2) (fun j => pg_name (c.nd j) rfl (by first | exact Or.inl rfl | exact Or.inr rfl))))
  (ss_cons (sd_for po c.calm (id_zip c (fun _ => by rfl) T.f_zip (am_cons (ed_var 1 (fun _ => pv 1)) (am_cons (ed_var 0 (fun _ => pv 0)) am_nil))) (gd_tup (n := 2) (t := gNil) (fun i t h => by rw [← c.kk i]; exact pg_tup (c.calm i) h) (gds_cons (gd_name (i := 3) (fun j => pg_name (c.nd j) rfl (by first | exact Or.inl rfl | exact Or.inr rfl))) (gds_cons (gd_name (i := 4) (fun j => pg_name (c.nd j) rfl (by first | exact Or.inl rfl | exact Or.inr rfl))) gds_nil))) (ss_one (sd_asg (fun i te tg he hg => ps_asg he hg) (ed_frz (ed_add c (ed_mul c (ed_var 2 (fun _ => pv 2)) (ed_var 4 (fun _ => pv 4))) (ed_var 3 (fun _ => pv 3)))) (gd_name (i := 2) (fun j => pg_name (c.nd j) rfl (by first | exact Or.inl rfl | exact Or.inr rfl))))))
  (ss_one (sd_ret (ed_var 2 (fun _ => pv 2))))))
abbrev s_corners : Stmt := top 23
abbrev N_corners : List Str := ["club", "one", "other", "found", "slip", "more", "later", "row", "sign"]
abbrev P_corners : List Str := ["club", "one", "other"]
theorem sc_corners : FnScope N_corners P_corners (defScope s_corners) := ⟨rfl, rfl, rfl, by decide +kernel, rfl, by decide +kernel, by decide +kernel⟩
def b_corners : SF := (sSeq (sAsg (eFrz (eLst (aCons (eTup (aCons (eTup aNil) (aCons (eC (.int 1)) aNil))) aNil))) (gSet 3))
  (sSeq (sFor (iZipD (aCons (eCall F_slips_of (aCons (eVar 0) (aCons (eVar 1) aNil)) [] []) (aCons (eCall F_slips_of (aCons (eVar 0) (aCons (eVar 2) aNil)) [] []) aNil))) (gTupD 2 (gsCons (gSet 4) (gsCons (gSet 5) gsNil))) (sSeq (sAsg (eLcL 9 (iSeq (eVar 3)) (gTupD 2 (gsCons (gSet 7) (gsCons (gSet 8) gsNil))) mYes (eFrz (eTup (aCons (e2 addD (eVar 7) (eTup (aCons (eVar 4) aNil))) (aCons (eVar 8) aNil)))) [7, 8]) (gSet 6))
  (sSeq (sIf (eB (e2 neD (eVar 5) (eVar 4))) (sDrop (eExt 6 (eLcL 9 (iSeq (eVar 3)) (gTupD 2 (gsCons (gSet 7) (gsCons (gSet 8) gsNil))) mYes (eFrz (eTup (aCons (e2 addD (eVar 7) (eTup (aCons (eVar 5) aNil))) (aCons (e1 negD (eVar 8)) aNil)))) [7, 8]))) sNext)
  (sAsg (eFrz (eMove 6)) (gSet 3)))))
  (sRet (eLcL 9 (iSeq (eVar 3)) (gTupD 2 (gsCons (gSet 7) (gsCons (gSet 8) gsNil))) mYes (eFrz (eTup (aCons (eCall F_place_of (aCons (eVar 0) (aCons (eVar 7) aNil)) [] []) (aCons (eVar 8) aNil)))) [7, 8]))))
def F_corners : List D → Res D := runS [] 3 9 b_corners
theorem ok_corners (T : Txt K mg) (h_slips_of_2 : FnD P w K mg base 1 "slips_of" 2 [] F_slips_of) (h_place_of_2 : FnD P w K mg base 1 "place_of" 2 [] F_place_of) {f : Addr} {fd : FuncData} (F : FunD K "corners" "corners" (defArgs s_corners) (defBody s_corners) (defScope s_corners) [] [] f fd) : FnOk P w K mg base (L2.CX P w) 2 f fd P_corners (spD ⟨K, mg⟩ P_corners.length F_corners) :=
  fnok_of (pr := []) F sc_corners fun cdv A outer s H E hr => by
    have c := cf_of (P := P) (w := w) (K := K) (mg := mg) (base := base) (E := E) (H := H) (outer := outer) sc_corners hr
    have po : ∀ i : Unit, PassesOwn (model ((fun _ : Unit => cxOf (L2.CX P w) P w K mg base N_corners "corners" (defScope s_corners) f cdv A outer s H E) i).prog ((fun _ : Unit => cxOf (L2.CX P w) P w K mg base N_corners "corners" (defScope s_corners) f cdv A outer s H E) i).w) ((fun _ : Unit => cxOf (L2.CX P w) P w K mg base N_corners "corners" (defScope s_corners) f cdv A outer s H E) i).A ((fun _ : Unit => cxOf (L2.CX P w) P w K mg base N_corners "corners" (defScope s_corners) f cdv A outer s H E) i).env ((fun _ : Unit => cxOf (L2.CX P w) P w K mg base N_corners "corners" (defScope s_corners) f cdv A outer s H E) i).xe := fun _ => passes_of rfl
    exact (ss_cons (sd_asg (fun i te tg he hg => ps_asg he hg) (ed_frz (ed_lst (am_cons (ed_tup (am_cons (ed_tup am_nil) (am_cons ed_int am_nil))) am_nil))) (gd_name (i := 3) (fun j => pg_name (c.nd j) rfl (by first | exact Or.inl rfl | exact Or.inr rfl))))
  (ss_cons (sd_for po c.calm (id_zip c (fun _ => by rfl) T.f_zip (am_cons (ed_fn c (fun _ => h_slips_of_2) (by decide) (fun _ => by rfl) (am_cons (ed_var 0 (fun _ => pv 0)) (am_cons (ed_var 1 (fun _ => pv 1)) am_nil)) (al_cons (al_cons al_nil))) (am_cons (ed_fn c (fun _ => h_slips_of_2) (by decide) (fun _ => by rfl) (am_cons (ed_var 0 (fun _ => pv 0)) (am_cons (ed_var 2 (fun _ => pv 2)) am_nil)) (al_cons (al_cons al_nil))) am_nil))) (gd_tup (n := 2) (t := gNil) (fun i t h => by rw [← c.kk i]; exact pg_tup (c.calm i) h) (gds_cons (gd_name (i := 4) (fun j => pg_name (c.nd j) rfl (by first | exact Or.inl rfl | exact Or.inr rfl))) (gds_cons (gd_name (i := 5) (fun j => pg_name (c.nd j) rfl (by first | exact Or.inl rfl | exact Or.inr rfl))) gds_nil))) (ss_cons (by first | exact (sd_setLc (own := [("row", 7), ("sign", 8)]) 9 c.calm c.nd (fun _ => rfl) (fun _ => rfl) (fun _ => rfl) (by kernel_rfl) (by kernel_rfl) (by decide) (id_seq c (ed_var 3 (fun _ => pv 3))) (fun _ => blkOk_by (by kernel_rfl)) (gd_tup (n := 2) (t := gNil) (fun i t h => by rw [← (c.blk _).kk i]; exact pg_tup ((c.blk _).calm i) h) (gds_cons (gd_name (i := 7) (fun j => pg_name ((c.blk _).nd j) rfl (by first | exact Or.inl rfl | exact Or.inr rfl))) (gds_cons (gd_name (i := 8) (fun j => pg_name ((c.blk _).nd j) rfl (by first | exact Or.inl rfl | exact Or.inr rfl))) gds_nil))) ld_nil (ed_frz (ed_tup (am_cons (ed_add (c.blk _) (ed_var 7 (fun _ => pv 7)) (ed_tup (am_cons (ed_var 4 (fun _ => pv 4)) am_nil))) (am_cons (ed_var 8 (fun _ => pv 8)) am_nil))))) | exact (sd_asg (fun i te tg he hg => ps_asg he hg) (ed_lc (own := [("row", 7), ("sign", 8)]) 9 c.calm c.nd (id_seq c (ed_var 3 (fun _ => pv 3))) (fun _ => blkOk_by (by kernel_rfl)) (gd_tup (n := 2) (t := gNil) (fun i t h => by rw [← (c.blk _).kk i]; exact pg_tup ((c.blk _).calm i) h) (gds_cons (gd_name (i := 7) (fun j => pg_name ((c.blk _).nd j) rfl (by first | exact Or.inl rfl | exact Or.inr rfl))) (gds_cons (gd_name (i := 8) (fun j => pg_name ((c.blk _).nd j) rfl (by first | exact Or.inl rfl | exact Or.inr rfl))) gds_nil))) ld_nil (ed_frz (ed_tup (am_cons (ed_add (c.blk _) (ed_var 7 (fun _ => pv 7)) (ed_tup (am_cons (ed_var 4 (fun _ => pv 4)) am_nil))) (am_cons (ed_var 8 (fun _ => pv 8)) am_nil))))) (gd_name (i := 6) (fun j => pg_name (c.nd j) rfl (by first | exact Or.inl rfl | exact Or.inr rfl)))))
  (ss_cons (sd_if (td_ne c (ed_var 5 (fun _ => pv 5)) (ed_var 4 (fun _ => pv 4))) (ss_one (sd_expr (ed_ext 6 (fun _ => pv 6) (ed_lc (own := [("row", 7), ("sign", 8)]) 9 c.calm c.nd (id_seq c (ed_var 3 (fun _ => pv 3))) (fun _ => blkOk_by (by kernel_rfl)) (gd_tup (n := 2) (t := gNil) (fun i t h => by rw [← (c.blk _).kk i]; exact pg_tup ((c.blk _).calm i) h) (gds_cons (gd_name (i := 7) (fun j => pg_name ((c.blk _).nd j) rfl (by first | exact Or.inl rfl | exact Or.inr rfl))) (gds_cons (gd_name (i := 8) (fun j => pg_name ((c.blk _).nd j) rfl (by first | exact Or.inl rfl | exact Or.inr rfl))) gds_nil))) ld_nil (ed_frz (ed_tup (am_cons (ed_add (c.blk _) (ed_var 7 (fun _ => pv 7)) (ed_tup (am_cons (ed_var 5 (fun _ => pv 5)) am_nil))) (am_cons (ed_neg (c.blk _) (ed_var 8 (fun _ => pv 8))) am_nil))))) c))) ss_nil)
  (ss_one (sd_asg (fun i te tg he hg => ps_asg he hg) (ed_frz (ed_move 6 (fun _ => pv 6))) (gd_name (i := 3) (fun j => pg_name (c.nd j) rfl (by first | exact Or.inl rfl | exact Or.inr rfl))))))))
  (ss_one (sd_ret (ed_lc (own := [("row", 7), ("sign", 8)]) 9 c.calm c.nd (id_seq c (ed_var 3 (fun _ => pv 3))) (fun _ => blkOk_by (by kernel_rfl)) (gd_tup (n := 2) (t := gNil) (fun i t h => by rw [← (c.blk _).kk i]; exact pg_tup ((c.blk _).calm i) h) (gds_cons (gd_name (i := 7) (fun j => pg_name ((c.blk _).nd j) rfl (by first | exact Or.inl rfl | exact Or.inr rfl))) (gds_cons (gd_name (i := 8) (fun j => pg_name ((c.blk _).nd j) rfl (by first | exact Or.inl rfl | exact Or.inr rfl))) gds_nil))) ld_nil (ed_frz (ed_tup (am_cons (ed_fn (c.blk _) (fun _ => h_place_of_2) (by decide) (fun _ => by rfl) (am_cons (ed_var 0 (fun _ => pv 0)) (am_cons (ed_var 7 (fun _ => pv 7)) am_nil)) (al_cons (al_cons al_nil))) (am_cons (ed_var 8 (fun _ => pv 8)) am_nil)))))))))
abbrev s_sum_of_box : Stmt := top 24
abbrev N_sum_of_box : List Str := ["club", "totals", "one", "other", "number", "sign"]
abbrev P_sum_of_box : List Str := ["club", "totals", "one", "other"]
theorem sc_sum_of_box : FnScope N_sum_of_box P_sum_of_box (defScope s_sum_of_box) := ⟨rfl, rfl, rfl, by decide +kernel, rfl, by decide +kernel, by decide +kernel⟩
def b_sum_of_box : SF := (sRet (eBi sumD (aCons (eLcL 6 (iSeq (eCall F_corners (aCons (eVar 0) (aCons (eVar 2) (aCons (eVar 3) aNil))) [] [])) (gTupD 2 (gsCons (gSet 4) (gsCons (gSet 5) gsNil))) mYes (eFrz (e2 mulD (eVar 5) (e2 ixD (eVar 1) (eVar 4)))) [4, 5]) aNil)))
def F_sum_of_box : List D → Res D := runS [] 4 6 b_sum_of_box
theorem ok_sum_of_box (T : Txt K mg) (h_corners_3 : FnD P w K mg base 2 "corners" 3 [] F_corners) {f : Addr} {fd : FuncData} (F : FunD K "sum_of_box" "sum_of_box" (defArgs s_sum_of_box) (defBody s_sum_of_box) (defScope s_sum_of_box) [] [] f fd) : FnOk P w K mg base (L2.CX P w) 3 f fd P_sum_of_box (spD ⟨K, mg⟩ P_sum_of_box.length F_sum_of_box) :=
  fnok_of (pr := []) F sc_sum_of_box fun cdv A outer s H E hr => by
    have c := cf_of (P := P) (w := w) (K := K) (mg := mg) (base := base) (E := E) (H := H) (outer := outer) sc_sum_of_box hr
    have po : ∀ i : Unit, PassesOwn (model ((fun _ : Unit => cxOf (L2.CX P w) P w K mg base N_sum_of_box "sum_of_box" (defScope s_sum_of_box) f cdv A outer s H E) i).prog ((fun _ : Unit => cxOf (L2.CX P w) P w K mg base N_sum_of_box "sum_of_box" (defScope s_sum_of_box) f cdv A outer s H E) i).w) ((fun _ : Unit => cxOf (L2.CX P w) P w K mg base N_sum_of_box "sum_of_box" (defScope s_sum_of_box) f cdv A outer s H E) i).A ((fun _ : Unit => cxOf (L2.CX P w) P w K mg base N_sum_of_box "sum_of_box" (defScope s_sum_of_box) f cdv A outer s H E) i).env ((fun _ : Unit => cxOf (L2.CX P w) P w K mg base N_sum_of_box "sum_of_box" (defScope s_sum_of_box) f cdv A outer s H E) i).xe := fun _ => passes_of rfl
    exact (ss_one (sd_ret (ed_sum c (fun _ => by rfl) T.f_sum (am_cons (ed_lc (own := [("number", 4), ("sign", 5)]) 6 c.calm c.nd (id_seq c (ed_fn c (fun _ => h_corners_3) (by decide) (fun _ => by rfl) (am_cons (ed_var 0 (fun _ => pv 0)) (am_cons (ed_var 2 (fun _ => pv 2)) (am_cons (ed_var 3 (fun _ => pv 3)) am_nil))) (al_cons (al_cons (al_cons al_nil))))) (fun _ => blkOk_by (by kernel_rfl)) (gd_tup (n := 2) (t := gNil) (fun i t h => by rw [← (c.blk _).kk i]; exact pg_tup ((c.blk _).calm i) h) (gds_cons (gd_name (i := 4) (fun j => pg_name ((c.blk _).nd j) rfl (by first | exact Or.inl rfl | exact Or.inr rfl))) (gds_cons (gd_name (i := 5) (fun j => pg_name ((c.blk _).nd j) rfl (by first | exact Or.inl rfl | exact Or.inr rfl))) gds_nil))) ld_nil (ed_frz (ed_mul (c.blk _) (ed_var 5 (fun _ => pv 5)) (ed_ix (c.blk _) (ed_var 1 (fun _ => pv 1)) (ed_var 4 (fun _ => pv 4)))))) am_nil))))
abbrev s_is_pair : Stmt := top 9
abbrev N_is_pair : List Str := ["thing"]
abbrev P_is_pair : List Str := ["thing"]
theorem sc_is_pair : FnScope N_is_pair P_is_pair (defScope s_is_pair) := ⟨rfl, rfl, rfl, by decide +kernel, rfl, by decide +kernel, by decide +kernel⟩
def b_is_pair : SF := (sRet (eAnd (eInst .tuple (eVar 0)) (e2 eqD (eBi lenD (aCons (eVar 0) aNil)) (eC (.int 2)))))
def F_is_pair : List D → Res D := runS [] 1 1 b_is_pair
theorem ok_is_pair (T : Txt K mg)  {f : Addr} {fd : FuncData} (F : FunD K "is_pair" "is_pair" (defArgs s_is_pair) (defBody s_is_pair) (defScope s_is_pair) [] [] f fd) : FnOk P w K mg base (L2.CX P w) 1 f fd P_is_pair (spD ⟨K, mg⟩ P_is_pair.length F_is_pair) :=
  fnok_of (pr := []) F sc_is_pair fun cdv A outer s H E hr => by
    have c := cf_of (P := P) (w := w) (K := K) (mg := mg) (base := base) (E := E) (H := H) (outer := outer) sc_is_pair hr
    have po : ∀ i : Unit, PassesOwn (model ((fun _ : Unit => cxOf (L2.CX P w) P w K mg base N_is_pair "is_pair" (defScope s_is_pair) f cdv A outer s H E) i).prog ((fun _ : Unit => cxOf (L2.CX P w) P w K mg base N_is_pair "is_pair" (defScope s_is_pair) f cdv A outer s H E) i).w) ((fun _ : Unit => cxOf (L2.CX P w) P w K mg base N_is_pair "is_pair" (defScope s_is_pair) f cdv A outer s H E) i).A ((fun _ : Unit => cxOf (L2.CX P w) P w K mg base N_is_pair "is_pair" (defScope s_is_pair) f cdv A outer s H E) i).env ((fun _ : Unit => cxOf (L2.CX P w) P w K mg base N_is_pair "is_pair" (defScope s_is_pair) f cdv A outer s H E) i).xe := fun _ => passes_of rfl
    exact (ss_one (sd_ret (ed_and (ed_inst .tuple c (fun _ => by rfl) T.f_isinstance (fun _ => by rfl) T.f_tuple (by decide +kernel) (ed_var 0 (fun _ => pv 0))) (ed_one (ed_eq c (ed_len c (fun _ => by rfl) T.f_len (am_cons (ed_var 0 (fun _ => pv 0)) am_nil)) ed_int)))))
abbrev s_is_place : Stmt := top 18
abbrev N_is_place : List Str := ["club", "thing"]
abbrev P_is_place : List Str := ["club", "thing"]
theorem sc_is_place : FnScope N_is_place P_is_place (defScope s_is_place) := ⟨rfl, rfl, rfl, by decide +kernel, rfl, by decide +kernel, by decide +kernel⟩
def b_is_place : SF := (sRet (eCall F_is_within (aCons (eVar 1) (aCons (eC (.int 0)) (aCons (e2 subD (eCall F_size_of (aCons (eVar 0) aNil) [] []) (eC (.int 1))) aNil))) [] []))
def F_is_place : List D → Res D := runS [] 2 2 b_is_place
theorem ok_is_place (T : Txt K mg) (h_is_within_3 : FnD P w K mg base 2 "is_within" 3 [] F_is_within) (h_size_of_1 : FnD P w K mg base 1 "size_of" 1 [] F_size_of) {f : Addr} {fd : FuncData} (F : FunD K "is_place" "is_place" (defArgs s_is_place) (defBody s_is_place) (defScope s_is_place) [] [] f fd) : FnOk P w K mg base (L2.CX P w) 3 f fd P_is_place (spD ⟨K, mg⟩ P_is_place.length F_is_place) :=
  fnok_of (pr := []) F sc_is_place fun cdv A outer s H E hr => by
    have c := cf_of (P := P) (w := w) (K := K) (mg := mg) (base := base) (E := E) (H := H) (outer := outer) sc_is_place hr
    have po : ∀ i : Unit, PassesOwn (model ((fun _ : Unit => cxOf (L2.CX P w) P w K mg base N_is_place "is_place" (defScope s_is_place) f cdv A outer s H E) i).prog ((fun _ : Unit => cxOf (L2.CX P w) P w K mg base N_is_place "is_place" (defScope s_is_place) f cdv A outer s H E) i).w) ((fun _ : Unit => cxOf (L2.CX P w) P w K mg base N_is_place "is_place" (defScope s_is_place) f cdv A outer s H E) i).A ((fun _ : Unit => cxOf (L2.CX P w) P w K mg base N_is_place "is_place" (defScope s_is_place) f cdv A outer s H E) i).env ((fun _ : Unit => cxOf (L2.CX P w) P w K mg base N_is_place "is_place" (defScope s_is_place) f cdv A outer s H E) i).xe := fun _ => passes_of rfl
    exact (ss_one (sd_ret (ed_fn c (fun _ => h_is_within_3) (by decide) (fun _ => by rfl) (am_cons (ed_var 1 (fun _ => pv 1)) (am_cons ed_int (am_cons (ed_sub c (ed_fn c (fun _ => h_size_of_1) (by decide) (fun _ => by rfl) (am_cons (ed_var 0 (fun _ => pv 0)) am_nil) (al_cons al_nil)) ed_int) am_nil))) (al_cons (al_cons (al_cons al_nil))))))
abbrev s_are_places : Stmt := top 25
abbrev N_are_places : List Str := ["club", "thing"]
abbrev P_are_places : List Str := ["club", "thing"]
theorem sc_are_places : FnScope N_are_places P_are_places (defScope s_are_places) := ⟨rfl, rfl, rfl, by decide +kernel, rfl, by decide +kernel, by decide +kernel⟩
def b_are_places : SF := (sRet (eAnd (eCall F_is_pair (aCons (eVar 1) aNil) [] []) (eAnd (eCall F_is_place (aCons (eVar 0) (aCons (e2 ixD (eVar 1) (eC (.int 0))) aNil)) [] []) (eCall F_is_place (aCons (eVar 0) (aCons (e2 ixD (eVar 1) (eC (.int 1))) aNil)) [] []))))
def F_are_places : List D → Res D := runS [] 2 2 b_are_places
theorem ok_are_places (T : Txt K mg) (h_is_place_2 : FnD P w K mg base 3 "is_place" 2 [] F_is_place) (h_is_pair_1 : FnD P w K mg base 1 "is_pair" 1 [] F_is_pair) {f : Addr} {fd : FuncData} (F : FunD K "are_places" "are_places" (defArgs s_are_places) (defBody s_are_places) (defScope s_are_places) [] [] f fd) : FnOk P w K mg base (L2.CX P w) 4 f fd P_are_places (spD ⟨K, mg⟩ P_are_places.length F_are_places) :=
  fnok_of (pr := []) F sc_are_places fun cdv A outer s H E hr => by
    have c := cf_of (P := P) (w := w) (K := K) (mg := mg) (base := base) (E := E) (H := H) (outer := outer) sc_are_places hr
    have po : ∀ i : Unit, PassesOwn (model ((fun _ : Unit => cxOf (L2.CX P w) P w K mg base N_are_places "are_places" (defScope s_are_places) f cdv A outer s H E) i).prog ((fun _ : Unit => cxOf (L2.CX P w) P w K mg base N_are_places "are_places" (defScope s_are_places) f cdv A outer s H E) i).w) ((fun _ : Unit => cxOf (L2.CX P w) P w K mg base N_are_places "are_places" (defScope s_are_places) f cdv A outer s H E) i).A ((fun _ : Unit => cxOf (L2.CX P w) P w K mg base N_are_places "are_places" (defScope s_are_places) f cdv A outer s H E) i).env ((fun _ : Unit => cxOf (L2.CX P w) P w K mg base N_are_places "are_places" (defScope s_are_places) f cdv A outer s H E) i).xe := fun _ => passes_of rfl
    exact (ss_one (sd_ret (ed_and (ed_fn c (fun _ => h_is_pair_1) (by decide) (fun _ => by rfl) (am_cons (ed_var 1 (fun _ => pv 1)) am_nil) (al_cons al_nil)) (ed_and (ed_fn c (fun _ => h_is_place_2) (by decide) (fun _ => by rfl) (am_cons (ed_var 0 (fun _ => pv 0)) (am_cons (ed_ix c (ed_var 1 (fun _ => pv 1)) ed_int) am_nil)) (al_cons (al_cons al_nil))) (ed_one (ed_fn c (fun _ => h_is_place_2) (by decide) (fun _ => by rfl) (am_cons (ed_var 0 (fun _ => pv 0)) (am_cons (ed_ix c (ed_var 1 (fun _ => pv 1)) ed_int) am_nil)) (al_cons (al_cons al_nil))))))))
abbrev s_box_sum : Stmt := top 26
abbrev N_box_sum : List Str := ["club", "totals", "box"]
abbrev P_box_sum : List Str := ["club", "totals", "box"]
theorem sc_box_sum : FnScope N_box_sum P_box_sum (defScope s_box_sum) := ⟨rfl, rfl, rfl, by decide +kernel, rfl, by decide +kernel, by decide +kernel⟩
def b_box_sum : SF := (sSeq (sDrop (eCall F_check_club (aCons (eVar 0) aNil) [] []))
  (sSeq (sDrop (eCall F_check_totals (aCons (eVar 0) (aCons (eVar 1) aNil)) [] []))
  (sSeq (sIf (mNot (eB (eCall F_are_places (aCons (eVar 0) (aCons (eVar 2) aNil)) [] []))) (sRaise "NoBox") sNext)
  (sRet (eCall F_sum_of_box (aCons (eVar 0) (aCons (eVar 1) (aCons (e2 ixD (eVar 2) (eC (.int 0))) (aCons (e2 ixD (eVar 2) (eC (.int 1))) aNil)))) [] [])))))
def F_box_sum : List D → Res D := runS [] 3 3 b_box_sum
theorem ok_box_sum (T : Txt K mg) (h_check_club_1 : FnD P w K mg base 5 "check_club" 1 [] F_check_club) (h_check_totals_2 : FnD P w K mg base 2 "check_totals" 2 [] F_check_totals) (h_are_places_2 : FnD P w K mg base 4 "are_places" 2 [] F_are_places) (h_sum_of_box_4 : FnD P w K mg base 3 "sum_of_box" 4 [] F_sum_of_box) {f : Addr} {fd : FuncData} (F : FunD K "box_sum" "box_sum" (defArgs s_box_sum) (defBody s_box_sum) (defScope s_box_sum) [] [] f fd) : FnOk P w K mg base (L2.CX P w) 6 f fd P_box_sum (spD ⟨K, mg⟩ P_box_sum.length F_box_sum) :=
  fnok_of (pr := []) F sc_box_sum fun cdv A outer s H E hr => by
    have c := cf_of (P := P) (w := w) (K := K) (mg := mg) (base := base) (E := E) (H := H) (outer := outer) sc_box_sum hr
    have po : ∀ i : Unit, PassesOwn (model ((fun _ : Unit => cxOf (L2.CX P w) P w K mg base N_box_sum "box_sum" (defScope s_box_sum) f cdv A outer s H E) i).prog ((fun _ : Unit => cxOf (L2.CX P w) P w K mg base N_box_sum "box_sum" (defScope s_box_sum) f cdv A outer s H E) i).w) ((fun _ : Unit => cxOf (L2.CX P w) P w K mg base N_box_sum "box_sum" (defScope s_box_sum) f cdv A outer s H E) i).A ((fun _ : Unit => cxOf (L2.CX P w) P w K mg base N_box_sum "box_sum" (defScope s_box_sum) f cdv A outer s H E) i).env ((fun _ : Unit => cxOf (L2.CX P w) P w K mg base N_box_sum "box_sum" (defScope s_box_sum) f cdv A outer s H E) i).xe := fun _ => passes_of rfl
    exact (ss_cons (sd_expr (ed_fn c (fun _ => h_check_club_1) (by decide) (fun _ => by rfl) (am_cons (ed_var 0 (fun _ => pv 0)) am_nil) (al_cons al_nil)))
  (ss_cons (sd_expr (ed_fn c (fun _ => h_check_totals_2) (by decide) (fun _ => by rfl) (am_cons (ed_var 0 (fun _ => pv 0)) (am_cons (ed_var 1 (fun _ => pv 1)) am_nil)) (al_cons (al_cons al_nil))))
  (ss_cons (sd_if (td_not (td_val (ed_fn c (fun _ => h_are_places_2) (by decide) (fun _ => by rfl) (am_cons (ed_var 0 (fun _ => pv 0)) (am_cons (ed_var 2 (fun _ => pv 2)) am_nil)) (al_cons (al_cons al_nil))))) (ss_one (sd_raise0 c T.x_NoBox (fun _ => by rfl))) ss_nil)
  (ss_one (sd_ret (ed_fn c (fun _ => h_sum_of_box_4) (by decide) (fun _ => by rfl) (am_cons (ed_var 0 (fun _ => pv 0)) (am_cons (ed_var 1 (fun _ => pv 1)) (am_cons (ed_ix c (ed_var 2 (fun _ => pv 2)) ed_int) (am_cons (ed_ix c (ed_var 2 (fun _ => pv 2)) ed_int) am_nil)))) (al_cons (al_cons (al_cons (al_cons al_nil))))))))))
abbrev s_law_unlike : Stmt := top 39
abbrev N_law_unlike : List Str := ["_law_one", "_law_other", "_law_member"]
abbrev P_law_unlike : List Str := ["_law_one", "_law_other"]
theorem sc_law_unlike : FnScope N_law_unlike P_law_unlike (defScope s_law_unlike) := ⟨rfl, rfl, rfl, by decide +kernel, rfl, by decide +kernel, by decide +kernel⟩
def b_law_unlike : SF := (sRet (eBi tupleD (aCons (eLcL 3 (iRg1 (aCons (eBi lenD (aCons (eVar 0) aNil)) aNil)) (gSet 2) (eB (e2 neD (e2 ixD (eVar 0) (eVar 2)) (e2 ixD (eVar 1) (eVar 2)))) (eFrz (eVar 2)) [2]) aNil)))
def F_law_unlike : List D → Res D := runS [] 2 3 b_law_unlike
theorem ok_law_unlike (T : Txt K mg)  {f : Addr} {fd : FuncData} (F : FunD K "_law_unlike" "_law_unlike" (defArgs s_law_unlike) (defBody s_law_unlike) (defScope s_law_unlike) [] [] f fd) : FnOk P w K mg base (L2.CX P w) 1 f fd P_law_unlike (spD ⟨K, mg⟩ P_law_unlike.length F_law_unlike) :=
  fnok_of (pr := []) F sc_law_unlike fun cdv A outer s H E hr => by
    have c := cf_of (P := P) (w := w) (K := K) (mg := mg) (base := base) (E := E) (H := H) (outer := outer) sc_law_unlike hr
    have po : ∀ i : Unit, PassesOwn (model ((fun _ : Unit => cxOf (L2.CX P w) P w K mg base N_law_unlike "_law_unlike" (defScope s_law_unlike) f cdv A outer s H E) i).prog ((fun _ : Unit => cxOf (L2.CX P w) P w K mg base N_law_unlike "_law_unlike" (defScope s_law_unlike) f cdv A outer s H E) i).w) ((fun _ : Unit => cxOf (L2.CX P w) P w K mg base N_law_unlike "_law_unlike" (defScope s_law_unlike) f cdv A outer s H E) i).A ((fun _ : Unit => cxOf (L2.CX P w) P w K mg base N_law_unlike "_law_unlike" (defScope s_law_unlike) f cdv A outer s H E) i).env ((fun _ : Unit => cxOf (L2.CX P w) P w K mg base N_law_unlike "_law_unlike" (defScope s_law_unlike) f cdv A outer s H E) i).xe := fun _ => passes_of rfl
    exact (ss_one (sd_ret (ed_tuple c (fun _ => by rfl) T.f_tuple (am_cons (ed_lc (own := [("_law_member", 2)]) 3 c.calm c.nd (id_rg1 c (fun _ => by rfl) T.f_range (am_cons (ed_len c (fun _ => by rfl) T.f_len (am_cons (ed_var 0 (fun _ => pv 0)) am_nil)) am_nil)) (fun _ => blkOk_by (by kernel_rfl)) (gd_name (i := 2) (fun j => pg_name ((c.blk _).nd j) rfl (by first | exact Or.inl rfl | exact Or.inr rfl))) (ld_one (td_ne (c.blk _) (ed_ix (c.blk _) (ed_var 0 (fun _ => pv 0)) (ed_var 2 (fun _ => pv 2))) (ed_ix (c.blk _) (ed_var 1 (fun _ => pv 1)) (ed_var 2 (fun _ => pv 2))))) (ed_frz (ed_var 2 (fun _ => pv 2)))) am_nil))))
abbrev s_law_near : Stmt := top 32
abbrev N_law_near : List Str := ["_law_pool_here", "_law_size", "_law_number_here", "_law_turn"]
abbrev P_law_near : List Str := ["_law_pool_here", "_law_size"]
theorem sc_law_near : FnScope N_law_near P_law_near (defScope s_law_near) := ⟨rfl, rfl, rfl, by decide +kernel, rfl, by decide +kernel, by decide +kernel⟩
def b_law_near : SF := (sSeq (sIf (eB (e2 ltD (eVar 1) (e2 powD (eC (.int 10)) (eC (.int 9))))) (sRet (e2 subD (eCall F_law_draw (aCons (eMove 0) (aCons (e2 addD (e2 mulD (eC (.int 2)) (eVar 1)) (eC (.int 1))) aNil)) [] [(0, 0)]) (eVar 1))) sNext)
  (sSeq (sAsg (eC (.int 0)) (gSet 2))
  (sSeq (sFor (iRg1 (aCons (eC (.int 8)) aNil)) (gSet 3) (sIf (eB (e2 ltD (eVar 2) (eVar 1))) (sAsg (eFrz (e2 addD (e2 mulD (eVar 2) (e2 powD (eC (.int 10)) (eC (.int 9)))) (eCall F_law_draw (aCons (eMove 0) (aCons (e2 powD (eC (.int 10)) (eC (.int 9))) aNil)) [] [(0, 0)]))) (gSet 2)) sNext))
  (sRet (e2 subD (e2 modD (eBi intD (aCons (eVar 2) aNil)) (e2 addD (e2 mulD (eC (.int 2)) (eVar 1)) (eC (.int 1)))) (eVar 1))))))
def F_law_near : List D → Res D := runS [0] 2 4 b_law_near
theorem ok_law_near (T : Txt K mg) (h_law_draw_2 : FnD P w K mg base 1 "_law_draw" 2 [] F_law_draw) {f : Addr} {fd : FuncData} (F : FunD K "_law_near" "_law_near" (defArgs s_law_near) (defBody s_law_near) (defScope s_law_near) [] [] f fd) : FnOk P w K mg base (L2.CX P w) 2 f fd P_law_near (spD ⟨K, mg⟩ P_law_near.length F_law_near) :=
  fnok_of (pr := [0]) F sc_law_near fun cdv A outer s H E hr => by
    have c := cf_of (P := P) (w := w) (K := K) (mg := mg) (base := base) (E := E) (H := H) (outer := outer) sc_law_near hr
    have po : ∀ i : Unit, PassesOwn (model ((fun _ : Unit => cxOf (L2.CX P w) P w K mg base N_law_near "_law_near" (defScope s_law_near) f cdv A outer s H E) i).prog ((fun _ : Unit => cxOf (L2.CX P w) P w K mg base N_law_near "_law_near" (defScope s_law_near) f cdv A outer s H E) i).w) ((fun _ : Unit => cxOf (L2.CX P w) P w K mg base N_law_near "_law_near" (defScope s_law_near) f cdv A outer s H E) i).A ((fun _ : Unit => cxOf (L2.CX P w) P w K mg base N_law_near "_law_near" (defScope s_law_near) f cdv A outer s H E) i).env ((fun _ : Unit => cxOf (L2.CX P w) P w K mg base N_law_near "_law_near" (defScope s_law_near) f cdv A outer s H E) i).xe := fun _ => passes_of rfl
    exact (ss_cons (sd_if (td_lt c (ed_var 1 (fun _ => pv 1)) (ed_pow c ed_int ed_int)) (ss_one (sd_ret (ed_sub c (ed_fn c (fun _ => h_law_draw_2) (by decide) (fun _ => by rfl) (am_mv 0 (fun _ => pv 0) (am_cons (ed_add c (ed_mul c ed_int (ed_var 1 (fun _ => pv 1))) ed_int) am_nil)) (al_cons (al_cons al_nil))) (ed_var 1 (fun _ => pv 1))))) ss_nil)
  (ss_cons (sd_asg (fun i te tg he hg => ps_asg he hg) ed_int (gd_name (i := 2) (fun j => pg_name (c.nd j) rfl (by first | exact Or.inl rfl | exact Or.inr rfl))))
  (ss_cons (sd_for po c.calm (id_rg1 c (fun _ => by rfl) T.f_range (am_cons ed_int am_nil)) (gd_name (i := 3) (fun j => pg_name (c.nd j) rfl (by first | exact Or.inl rfl | exact Or.inr rfl))) (ss_one (sd_if (td_lt c (ed_var 2 (fun _ => pv 2)) (ed_var 1 (fun _ => pv 1))) (ss_one (sd_asg (fun i te tg he hg => ps_asg he hg) (ed_frz (ed_add c (ed_mul c (ed_var 2 (fun _ => pv 2)) (ed_pow c ed_int ed_int)) (ed_fn c (fun _ => h_law_draw_2) (by decide) (fun _ => by rfl) (am_mv 0 (fun _ => pv 0) (am_cons (ed_pow c ed_int ed_int) am_nil)) (al_cons (al_cons al_nil))))) (gd_name (i := 2) (fun j => pg_name (c.nd j) rfl (by first | exact Or.inl rfl | exact Or.inr rfl))))) ss_nil)))
  (ss_one (sd_ret (ed_sub c (ed_mod c (ed_toint c (fun _ => by rfl) T.f_int (am_cons (ed_var 2 (fun _ => pv 2)) am_nil)) (ed_add c (ed_mul c ed_int (ed_var 1 (fun _ => pv 1))) ed_int)) (ed_var 1 (fun _ => pv 1))))))))
abbrev s_law_number : Stmt := top 33
abbrev N_law_number : List Str := ["_law_pool_here"]
abbrev P_law_number : List Str := ["_law_pool_here"]
theorem sc_law_number : FnScope N_law_number P_law_number (defScope s_law_number) := ⟨rfl, rfl, rfl, by decide +kernel, rfl, by decide +kernel, by decide +kernel⟩
def b_law_number : SF := (sRet (eCall F_law_near (aMvL 0 (aCons (eFrz (eCall F_law_pick (aCons (eMove 0) (aCons (eFrz (eLst (aCons (eC (.int 1)) (aCons (eC (.int 3)) (aCons (eC (.int 3)) (aCons (eC (.int 9)) (aCons (eC (.int 100)) (aCons (e2 powD (eC (.int 10)) (eC (.int 37))) aNil)))))))) aNil)) [] [(0, 0)])) aNil)) [] [(0, 0)]))
def F_law_number : List D → Res D := runS [0] 1 1 b_law_number
theorem ok_law_number (T : Txt K mg) (h_law_near_2 : FnD P w K mg base 2 "_law_near" 2 [] F_law_near) (h_law_pick_2 : FnD P w K mg base 2 "_law_pick" 2 [] F_law_pick) {f : Addr} {fd : FuncData} (F : FunD K "_law_number" "_law_number" (defArgs s_law_number) (defBody s_law_number) (defScope s_law_number) [] [] f fd) : FnOk P w K mg base (L2.CX P w) 3 f fd P_law_number (spD ⟨K, mg⟩ P_law_number.length F_law_number) :=
  fnok_of (pr := [0]) F sc_law_number fun cdv A outer s H E hr => by
    have c := cf_of (P := P) (w := w) (K := K) (mg := mg) (base := base) (E := E) (H := H) (outer := outer) sc_law_number hr
    have po : ∀ i : Unit, PassesOwn (model ((fun _ : Unit => cxOf (L2.CX P w) P w K mg base N_law_number "_law_number" (defScope s_law_number) f cdv A outer s H E) i).prog ((fun _ : Unit => cxOf (L2.CX P w) P w K mg base N_law_number "_law_number" (defScope s_law_number) f cdv A outer s H E) i).w) ((fun _ : Unit => cxOf (L2.CX P w) P w K mg base N_law_number "_law_number" (defScope s_law_number) f cdv A outer s H E) i).A ((fun _ : Unit => cxOf (L2.CX P w) P w K mg base N_law_number "_law_number" (defScope s_law_number) f cdv A outer s H E) i).env ((fun _ : Unit => cxOf (L2.CX P w) P w K mg base N_law_number "_law_number" (defScope s_law_number) f cdv A outer s H E) i).xe := fun _ => passes_of rfl
    exact (ss_one (sd_ret (ed_fn c (fun _ => h_law_near_2) (by decide) (fun _ => by rfl) (am_mvL 0 (fun _ => pv 0) (am_cons (ed_frz (ed_fn c (fun _ => h_law_pick_2) (by decide) (fun _ => by rfl) (am_mv 0 (fun _ => pv 0) (am_cons (ed_frz (ed_lst (am_cons ed_int (am_cons ed_int (am_cons ed_int (am_cons ed_int (am_cons ed_int (am_cons (ed_pow c ed_int ed_int) am_nil)))))))) am_nil)) (al_cons (al_cons al_nil)))) am_nil)) (by repeat (first | exact al_nil | apply al_cons | apply al_mvL)))))
abbrev s_law_is_int : Stmt := top 31
abbrev N_law_is_int : List Str := ["_law_thing"]
abbrev P_law_is_int : List Str := ["_law_thing"]
theorem sc_law_is_int : FnScope N_law_is_int P_law_is_int (defScope s_law_is_int) := ⟨rfl, rfl, rfl, by decide +kernel, rfl, by decide +kernel, by decide +kernel⟩
def b_law_is_int : SF := (sRet (eAnd (eInst .int (eVar 0)) (eNot (eInst .bool (eVar 0)))))
def F_law_is_int : List D → Res D := runS [] 1 1 b_law_is_int
theorem ok_law_is_int (T : Txt K mg)  {f : Addr} {fd : FuncData} (F : FunD K "_law_is_int" "_law_is_int" (defArgs s_law_is_int) (defBody s_law_is_int) (defScope s_law_is_int) [] [] f fd) : FnOk P w K mg base (L2.CX P w) 1 f fd P_law_is_int (spD ⟨K, mg⟩ P_law_is_int.length F_law_is_int) :=
  fnok_of (pr := []) F sc_law_is_int fun cdv A outer s H E hr => by
    have c := cf_of (P := P) (w := w) (K := K) (mg := mg) (base := base) (E := E) (H := H) (outer := outer) sc_law_is_int hr
    have po : ∀ i : Unit, PassesOwn (model ((fun _ : Unit => cxOf (L2.CX P w) P w K mg base N_law_is_int "_law_is_int" (defScope s_law_is_int) f cdv A outer s H E) i).prog ((fun _ : Unit => cxOf (L2.CX P w) P w K mg base N_law_is_int "_law_is_int" (defScope s_law_is_int) f cdv A outer s H E) i).w) ((fun _ : Unit => cxOf (L2.CX P w) P w K mg base N_law_is_int "_law_is_int" (defScope s_law_is_int) f cdv A outer s H E) i).A ((fun _ : Unit => cxOf (L2.CX P w) P w K mg base N_law_is_int "_law_is_int" (defScope s_law_is_int) f cdv A outer s H E) i).env ((fun _ : Unit => cxOf (L2.CX P w) P w K mg base N_law_is_int "_law_is_int" (defScope s_law_is_int) f cdv A outer s H E) i).xe := fun _ => passes_of rfl
    exact (ss_one (sd_ret (ed_and (ed_inst .int c (fun _ => by rfl) T.f_isinstance (fun _ => by rfl) T.f_int (by decide +kernel) (ed_var 0 (fun _ => pv 0))) (ed_one (ed_not (ed_inst .bool c (fun _ => by rfl) T.f_isinstance (fun _ => by rfl) T.f_bool (by decide +kernel) (ed_var 0 (fun _ => pv 0))))))))
abbrev s_law_place : Stmt := top 37
abbrev N_law_place : List Str := ["_law_club_here", "_law_row", "_law_found", "_law_slip", "_law_sorts"]
abbrev P_law_place : List Str := ["_law_club_here", "_law_row"]
theorem sc_law_place : FnScope N_law_place P_law_place (defScope s_law_place) := ⟨rfl, rfl, rfl, by decide +kernel, rfl, by decide +kernel, by decide +kernel⟩
def b_law_place : SF := (sSeq (sAsg (eC (.int 0)) (gSet 2))
  (sSeq (sFor (iZipD (aCons (eVar 1) (aCons (eVar 0) aNil))) (gTupD 2 (gsCons (gSet 3) (gsCons (gSet 4) gsNil))) (sAsg (eFrz (e2 addD (e2 mulD (eVar 2) (eVar 4)) (eVar 3))) (gSet 2)))
  (sRet (eVar 2))))
def F_law_place : List D → Res D := runS [] 2 5 b_law_place
theorem ok_law_place (T : Txt K mg)  {f : Addr} {fd : FuncData} (F : FunD K "_law_place" "_law_place" (defArgs s_law_place) (defBody s_law_place) (defScope s_law_place) [] [] f fd) : FnOk P w K mg base (L2.CX P w) 1 f fd P_law_place (spD ⟨K, mg⟩ P_law_place.length F_law_place) :=
  fnok_of (pr := []) F sc_law_place fun cdv A outer s H E hr => by
    have c := cf_of (P := P) (w := w) (K := K) (mg := mg) (base := base) (E := E) (H := H) (outer := outer) sc_law_place hr
    have po : ∀ i : Unit, PassesOwn (model ((fun _ : Unit => cxOf (L2.CX P w) P w K mg base N_law_place "_law_place" (defScope s_law_place) f cdv A outer s H E) i).prog ((fun _ : Unit => cxOf (L2.CX P w) P w K mg base N_law_place "_law_place" (defScope s_law_place) f cdv A outer s H E) i).w) ((fun _ : Unit => cxOf (L2.CX P w) P w K mg base N_law_place "_law_place" (defScope s_law_place) f cdv A outer s H E) i).A ((fun _ : Unit => cxOf (L2.CX P w) P w K mg base N_law_place "_law_place" (defScope s_law_place) f cdv A outer s H E) i).env ((fun _ : Unit => cxOf (L2.CX P w) P w K mg base N_law_place "_law_place" (defScope s_law_place) f cdv A outer s H E) i).xe := fun _ => passes_of rfl
    exact (ss_cons (sd_asg (fun i te tg he hg => ps_asg he hg) ed_int (gd_name (i := 2) (fun j => pg_name (c.nd j) rfl (by first | exact Or.inl rfl | exact Or.inr rfl))))
  (ss_cons (sd_for po c.calm (id_zip c (fun _ => by rfl) T.f_zip (am_cons (ed_var 1 (fun _ => pv 1)) (am_cons (ed_var 0 (fun _ => pv 0)) am_nil))) (gd_tup (n := 2) (t := gNil) (fun i t h => by rw [← c.kk i]; exact pg_tup (c.calm i) h) (gds_cons (gd_name (i := 3) (fun j => pg_name (c.nd j) rfl (by first | exact Or.inl rfl | exact Or.inr rfl))) (gds_cons (gd_name (i := 4) (fun j => pg_name (c.nd j) rfl (by first | exact Or.inl rfl | exact Or.inr rfl))) gds_nil))) (ss_one (sd_asg (fun i te tg he hg => ps_asg he hg) (ed_frz (ed_add c (ed_mul c (ed_var 2 (fun _ => pv 2)) (ed_var 4 (fun _ => pv 4))) (ed_var 3 (fun _ => pv 3)))) (gd_name (i := 2) (fun j => pg_name (c.nd j) rfl (by first | exact Or.inl rfl | exact Or.inr rfl))))))
  (ss_one (sd_ret (ed_var 2 (fun _ => pv 2))))))
abbrev s_law_box_sum : Stmt := top 38
abbrev N_law_box_sum : List Str := ["_law_club_here", "_law_totals", "_law_one", "_law_other", "_law_corners", "_law_first", "_law_second", "_law_later", "_law_row", "_law_sign"]
abbrev P_law_box_sum : List Str := ["_law_club_here", "_law_totals", "_law_one", "_law_other"]
theorem sc_law_box_sum : FnScope N_law_box_sum P_law_box_sum (defScope s_law_box_sum) := ⟨rfl, rfl, rfl, by decide +kernel, rfl, by decide +kernel, by decide +kernel⟩
def b_law_box_sum : SF := (sSeq (sAsg (eFrz (eLst (aCons (eTup (aCons (eTup aNil) (aCons (eC (.int 1)) aNil))) aNil))) (gSet 4))
  (sSeq (sFor (iZipD (aCons (eVar 2) (aCons (eVar 3) aNil))) (gTupD 2 (gsCons (gSet 5) (gsCons (gSet 6) gsNil))) (sSeq (sAsg (eFrz (eLcL 10 (iSeq (eVar 4)) (gTupD 2 (gsCons (gSet 8) (gsCons (gSet 9) gsNil))) mYes (eFrz (eTup (aCons (e2 addD (eVar 8) (eTup (aCons (eVar 5) aNil))) (aCons (eVar 9) aNil)))) [8, 9])) (gSet 7))
  (sSeq (sIf (eB (e2 neD (eVar 5) (eVar 6))) (sAsg (eFrz (e2 addD (eVar 7) (eLcL 10 (iSeq (eVar 4)) (gTupD 2 (gsCons (gSet 8) (gsCons (gSet 9) gsNil))) mYes (eFrz (eTup (aCons (e2 addD (eVar 8) (eTup (aCons (eVar 6) aNil))) (aCons (e1 negD (eVar 9)) aNil)))) [8, 9]))) (gSet 7)) sNext)
  (sAsg (eFrz (eVar 7)) (gSet 4)))))
  (sRet (eBi sumD (aCons (eLcL 10 (iSeq (eVar 4)) (gTupD 2 (gsCons (gSet 8) (gsCons (gSet 9) gsNil))) mYes (eFrz (e2 mulD (eVar 9) (e2 ixD (eVar 1) (eCall F_law_place (aCons (eVar 0) (aCons (eVar 8) aNil)) [] [])))) [8, 9]) aNil)))))
def F_law_box_sum : List D → Res D := runS [] 4 10 b_law_box_sum
theorem ok_law_box_sum (T : Txt K mg) (h_law_place_2 : FnD P w K mg base 1 "_law_place" 2 [] F_law_place) {f : Addr} {fd : FuncData} (F : FunD K "_law_box_sum" "_law_box_sum" (defArgs s_law_box_sum) (defBody s_law_box_sum) (defScope s_law_box_sum) [] [] f fd) : FnOk P w K mg base (L2.CX P w) 2 f fd P_law_box_sum (spD ⟨K, mg⟩ P_law_box_sum.length F_law_box_sum) :=
  fnok_of (pr := []) F sc_law_box_sum fun cdv A outer s H E hr => by
    have c := cf_of (P := P) (w := w) (K := K) (mg := mg) (base := base) (E := E) (H := H) (outer := outer) sc_law_box_sum hr
    have po : ∀ i : Unit, PassesOwn (model ((fun _ : Unit => cxOf (L2.CX P w) P w K mg base N_law_box_sum "_law_box_sum" (defScope s_law_box_sum) f cdv A outer s H E) i).prog ((fun _ : Unit => cxOf (L2.CX P w) P w K mg base N_law_box_sum "_law_box_sum" (defScope s_law_box_sum) f cdv A outer s H E) i).w) ((fun _ : Unit => cxOf (L2.CX P w) P w K mg base N_law_box_sum "_law_box_sum" (defScope s_law_box_sum) f cdv A outer s H E) i).A ((fun _ : Unit => cxOf (L2.CX P w) P w K mg base N_law_box_sum "_law_box_sum" (defScope s_law_box_sum) f cdv A outer s H E) i).env ((fun _ : Unit => cxOf (L2.CX P w) P w K mg base N_law_box_sum "_law_box_sum" (defScope s_law_box_sum) f cdv A outer s H E) i).xe := fun _ => passes_of rfl
    exact (ss_cons (sd_asg (fun i te tg he hg => ps_asg he hg) (ed_frz (ed_lst (am_cons (ed_tup (am_cons (ed_tup am_nil) (am_cons ed_int am_nil))) am_nil))) (gd_name (i := 4) (fun j => pg_name (c.nd j) rfl (by first | exact Or.inl rfl | exact Or.inr rfl))))
  (ss_cons (sd_for po c.calm (id_zip c (fun _ => by rfl) T.f_zip (am_cons (ed_var 2 (fun _ => pv 2)) (am_cons (ed_var 3 (fun _ => pv 3)) am_nil))) (gd_tup (n := 2) (t := gNil) (fun i t h => by rw [← c.kk i]; exact pg_tup (c.calm i) h) (gds_cons (gd_name (i := 5) (fun j => pg_name (c.nd j) rfl (by first | exact Or.inl rfl | exact Or.inr rfl))) (gds_cons (gd_name (i := 6) (fun j => pg_name (c.nd j) rfl (by first | exact Or.inl rfl | exact Or.inr rfl))) gds_nil))) (ss_cons (by first | exact (sd_setLcF (own := [("_law_row", 8), ("_law_sign", 9)]) 10 c.calm c.nd (fun _ => rfl) (fun _ => rfl) (fun _ => rfl) (by kernel_rfl) (by kernel_rfl) (by decide) (id_seq c (ed_var 4 (fun _ => pv 4))) (fun _ => blkOk_by (by kernel_rfl)) (gd_tup (n := 2) (t := gNil) (fun i t h => by rw [← (c.blk _).kk i]; exact pg_tup ((c.blk _).calm i) h) (gds_cons (gd_name (i := 8) (fun j => pg_name ((c.blk _).nd j) rfl (by first | exact Or.inl rfl | exact Or.inr rfl))) (gds_cons (gd_name (i := 9) (fun j => pg_name ((c.blk _).nd j) rfl (by first | exact Or.inl rfl | exact Or.inr rfl))) gds_nil))) ld_nil (ed_frz (ed_tup (am_cons (ed_add (c.blk _) (ed_var 8 (fun _ => pv 8)) (ed_tup (am_cons (ed_var 5 (fun _ => pv 5)) am_nil))) (am_cons (ed_var 9 (fun _ => pv 9)) am_nil))))) | exact (sd_asg (fun i te tg he hg => ps_asg he hg) (ed_frz (ed_lc (own := [("_law_row", 8), ("_law_sign", 9)]) 10 c.calm c.nd (id_seq c (ed_var 4 (fun _ => pv 4))) (fun _ => blkOk_by (by kernel_rfl)) (gd_tup (n := 2) (t := gNil) (fun i t h => by rw [← (c.blk _).kk i]; exact pg_tup ((c.blk _).calm i) h) (gds_cons (gd_name (i := 8) (fun j => pg_name ((c.blk _).nd j) rfl (by first | exact Or.inl rfl | exact Or.inr rfl))) (gds_cons (gd_name (i := 9) (fun j => pg_name ((c.blk _).nd j) rfl (by first | exact Or.inl rfl | exact Or.inr rfl))) gds_nil))) ld_nil (ed_frz (ed_tup (am_cons (ed_add (c.blk _) (ed_var 8 (fun _ => pv 8)) (ed_tup (am_cons (ed_var 5 (fun _ => pv 5)) am_nil))) (am_cons (ed_var 9 (fun _ => pv 9)) am_nil)))))) (gd_name (i := 7) (fun j => pg_name (c.nd j) rfl (by first | exact Or.inl rfl | exact Or.inr rfl)))))
  (ss_cons (sd_if (td_ne c (ed_var 5 (fun _ => pv 5)) (ed_var 6 (fun _ => pv 6))) (ss_one (sd_asg (fun i te tg he hg => ps_asg he hg) (ed_frz (ed_add c (ed_var 7 (fun _ => pv 7)) (ed_lc (own := [("_law_row", 8), ("_law_sign", 9)]) 10 c.calm c.nd (id_seq c (ed_var 4 (fun _ => pv 4))) (fun _ => blkOk_by (by kernel_rfl)) (gd_tup (n := 2) (t := gNil) (fun i t h => by rw [← (c.blk _).kk i]; exact pg_tup ((c.blk _).calm i) h) (gds_cons (gd_name (i := 8) (fun j => pg_name ((c.blk _).nd j) rfl (by first | exact Or.inl rfl | exact Or.inr rfl))) (gds_cons (gd_name (i := 9) (fun j => pg_name ((c.blk _).nd j) rfl (by first | exact Or.inl rfl | exact Or.inr rfl))) gds_nil))) ld_nil (ed_frz (ed_tup (am_cons (ed_add (c.blk _) (ed_var 8 (fun _ => pv 8)) (ed_tup (am_cons (ed_var 6 (fun _ => pv 6)) am_nil))) (am_cons (ed_neg (c.blk _) (ed_var 9 (fun _ => pv 9))) am_nil))))))) (gd_name (i := 7) (fun j => pg_name (c.nd j) rfl (by first | exact Or.inl rfl | exact Or.inr rfl))))) ss_nil)
  (ss_one (sd_asg (fun i te tg he hg => ps_asg he hg) (ed_frz (ed_var 7 (fun _ => pv 7))) (gd_name (i := 4) (fun j => pg_name (c.nd j) rfl (by first | exact Or.inl rfl | exact Or.inr rfl))))))))
  (ss_one (sd_ret (ed_sum c (fun _ => by rfl) T.f_sum (am_cons (ed_lc (own := [("_law_row", 8), ("_law_sign", 9)]) 10 c.calm c.nd (id_seq c (ed_var 4 (fun _ => pv 4))) (fun _ => blkOk_by (by kernel_rfl)) (gd_tup (n := 2) (t := gNil) (fun i t h => by rw [← (c.blk _).kk i]; exact pg_tup ((c.blk _).calm i) h) (gds_cons (gd_name (i := 8) (fun j => pg_name ((c.blk _).nd j) rfl (by first | exact Or.inl rfl | exact Or.inr rfl))) (gds_cons (gd_name (i := 9) (fun j => pg_name ((c.blk _).nd j) rfl (by first | exact Or.inl rfl | exact Or.inr rfl))) gds_nil))) ld_nil (ed_frz (ed_mul (c.blk _) (ed_var 9 (fun _ => pv 9)) (ed_ix (c.blk _) (ed_var 1 (fun _ => pv 1)) (ed_fn (c.blk _) (fun _ => h_law_place_2) (by decide) (fun _ => by rfl) (am_cons (ed_var 0 (fun _ => pv 0)) (am_cons (ed_var 8 (fun _ => pv 8)) am_nil)) (al_cons (al_cons al_nil))))))) am_nil))))))
abbrev s_law_spot : Stmt := top 36
abbrev N_law_spot : List Str := ["_law_row", "_law_lot", "_law_member", "_law_slip"]
abbrev P_law_spot : List Str := ["_law_row", "_law_lot"]
theorem sc_law_spot : FnScope N_law_spot P_law_spot (defScope s_law_spot) := ⟨rfl, rfl, rfl, by decide +kernel, rfl, by decide +kernel, by decide +kernel⟩
def b_law_spot : SF := (sRet (eBi tupleD (aCons (eLcL 4 (iEnuA (aCons (eVar 0) aNil)) (gTupD 2 (gsCons (gSet 2) (gsCons (gSet 3) gsNil))) (eB (e2 ninD (eVar 2) (eVar 1))) (eFrz (eVar 3)) [2, 3]) aNil)))
def F_law_spot : List D → Res D := runS [] 2 4 b_law_spot
theorem ok_law_spot (T : Txt K mg)  {f : Addr} {fd : FuncData} (F : FunD K "_law_spot" "_law_spot" (defArgs s_law_spot) (defBody s_law_spot) (defScope s_law_spot) [] [] f fd) : FnOk P w K mg base (L2.CX P w) 1 f fd P_law_spot (spD ⟨K, mg⟩ P_law_spot.length F_law_spot) :=
  fnok_of (pr := []) F sc_law_spot fun cdv A outer s H E hr => by
    have c := cf_of (P := P) (w := w) (K := K) (mg := mg) (base := base) (E := E) (H := H) (outer := outer) sc_law_spot hr
    have po : ∀ i : Unit, PassesOwn (model ((fun _ : Unit => cxOf (L2.CX P w) P w K mg base N_law_spot "_law_spot" (defScope s_law_spot) f cdv A outer s H E) i).prog ((fun _ : Unit => cxOf (L2.CX P w) P w K mg base N_law_spot "_law_spot" (defScope s_law_spot) f cdv A outer s H E) i).w) ((fun _ : Unit => cxOf (L2.CX P w) P w K mg base N_law_spot "_law_spot" (defScope s_law_spot) f cdv A outer s H E) i).A ((fun _ : Unit => cxOf (L2.CX P w) P w K mg base N_law_spot "_law_spot" (defScope s_law_spot) f cdv A outer s H E) i).env ((fun _ : Unit => cxOf (L2.CX P w) P w K mg base N_law_spot "_law_spot" (defScope s_law_spot) f cdv A outer s H E) i).xe := fun _ => passes_of rfl
    exact (ss_one (sd_ret (ed_tuple c (fun _ => by rfl) T.f_tuple (am_cons (ed_lc (own := [("_law_member", 2), ("_law_slip", 3)]) 4 c.calm c.nd (id_enuA c (fun _ => by rfl) T.f_enumerate (am_cons (ed_var 0 (fun _ => pv 0)) am_nil)) (fun _ => blkOk_by (by kernel_rfl)) (gd_tup (n := 2) (t := gNil) (fun i t h => by rw [← (c.blk _).kk i]; exact pg_tup ((c.blk _).calm i) h) (gds_cons (gd_name (i := 2) (fun j => pg_name ((c.blk _).nd j) rfl (by first | exact Or.inl rfl | exact Or.inr rfl))) (gds_cons (gd_name (i := 3) (fun j => pg_name ((c.blk _).nd j) rfl (by first | exact Or.inl rfl | exact Or.inr rfl))) gds_nil))) (ld_one (td_nin (c.blk _) (ed_var 2 (fun _ => pv 2)) (ed_var 1 (fun _ => pv 1)))) (ed_frz (ed_var 3 (fun _ => pv 3)))) am_nil))))
abbrev s_law : Stmt := top 40
abbrev N_law : List Str := ["_law_script", "_law_pool_here", "_law_club_here", "_law_rows_here", "_law_totals", "_law_more", "_law_both", "_law_turn", "_law_one", "_law_other", "_law_told", "_law_sign", "_law_member", "_law_known", "_law_row", "_law_blind"]
abbrev P_law : List Str := ["_law_script"]
theorem sc_law : FnScope N_law P_law (defScope s_law) := ⟨rfl, rfl, rfl, by decide +kernel, rfl, by decide +kernel, by decide +kernel⟩
def b_law : SF := (sSeq (sAsg (eCall F_law_pool (aCons (eVar 0) aNil) [] []) (gSet 1))
  (sSeq (sAsg (eFrz (eCall F_law_club (aMvL 1 (aCons (eFrz (eIf (eB (e2 eqD (eCall F_law_draw (aCons (eMove 1) (aCons (eC (.int 8)) aNil)) [] [(0, 1)]) (eC (.int 0)))) (eC (.int 256)) (eC (.int 24)))) aNil)) [] [(0, 1)])) (gSet 2))
  (sSeq (sAsg (eFrz (eCall F_law_rows (aCons (eVar 2) aNil) [] [])) (gSet 3))
  (sSeq (sAsg (eBi tupleD (aCons (eLcL 16 (iSeq (eVar 3)) (gSet 14) mYes (eFrz (eCall F_law_number (aCons (eMove 1) aNil) [] [(0, 1)])) [14]) aNil)) (gSet 4))
  (sSeq (sAsg (eBi tupleD (aCons (eLcL 16 (iSeq (eVar 3)) (gSet 14) mYes (eFrz (eCall F_law_number (aCons (eMove 1) aNil) [] [(0, 1)])) [14]) aNil)) (gSet 5))
  (sSeq (sAsg (eBi tupleD (aCons (eLcL 16 (iZipD (aCons (eVar 4) (aCons (eVar 5) aNil))) (gTupD 2 (gsCons (gSet 8) (gsCons (gSet 9) gsNil))) mYes (eFrz (e2 addD (eVar 8) (eVar 9))) [8, 9]) aNil)) (gSet 6))
  (sSeq (sFor (iRg1 (aCons (eC (.int 5)) aNil)) (gSet 7) (sSeq (sAsg (eFrz (eCall F_law_draw (aCons (eMove 1) (aCons (eBi lenD (aCons (eVar 3) aNil)) aNil)) [] [(0, 1)])) (gSet 8))
  (sSeq (sAsg (eFrz (eCall F_law_pick (aMvL 1 (aCons (eFrz (eLst (aCons (eFrz (eCall F_law_draw (aCons (eMove 1) (aCons (eBi lenD (aCons (eVar 3) aNil)) aNil)) [] [(0, 1)])) (aCons (eFrz (eCall F_law_draw (aCons (eMove 1) (aCons (eBi lenD (aCons (eVar 3) aNil)) aNil)) [] [(0, 1)])) (aCons (eVar 8) aNil))))) aNil)) [] [(0, 1)])) (gSet 9))
  (sSeq (sAsg (eFrz (eCall F_box_sum (aCons (eVar 2) (aCons (eVar 4) (aCons (eTup (aCons (eVar 8) (aCons (eVar 9) aNil))) aNil))) [] [])) (gSet 10))
  (sSeq (sIf (mOr (mNot (eB (eCall F_law_is_int (aCons (eVar 10) aNil) [] []))) (eB (e2 neD (eVar 10) (eCall F_law_box_sum (aCons (eVar 2) (aCons (eVar 4) (aCons (e2 ixD (eVar 3) (eVar 8)) (aCons (e2 ixD (eVar 3) (eVar 9)) aNil)))) [] [])))) (sRet (eC (.bl false))) sNext)
  (sSeq (sAsg (eFrz (eIf (eB (e2 inD (eBi lenD (aCons (eCall F_law_unlike (aCons (e2 ixD (eVar 3) (eVar 8)) (aCons (e2 ixD (eVar 3) (eVar 9)) aNil)) [] []) aNil)) (eTup (aCons (eC (.int 1)) (aCons (eC (.int 3)) (aCons (eC (.int 5)) (aCons (eC (.int 7)) aNil))))))) (e1 negD (eC (.int 1))) (eC (.int 1)))) (gSet 11))
  (sSeq (sIf (eB (e2 neD (eCall F_box_sum (aCons (eVar 2) (aCons (eVar 4) (aCons (eTup (aCons (eVar 9) (aCons (eVar 8) aNil))) aNil))) [] []) (e2 mulD (eVar 11) (eVar 10)))) (sRet (eC (.bl false))) sNext)
  (sSeq (sIf (eB (e2 neD (eCall F_box_sum (aCons (eVar 2) (aCons (eVar 6) (aCons (eTup (aCons (eVar 8) (aCons (eVar 9) aNil))) aNil))) [] []) (e2 addD (eVar 10) (eCall F_box_sum (aCons (eVar 2) (aCons (eVar 5) (aCons (eTup (aCons (eVar 8) (aCons (eVar 9) aNil))) aNil))) [] [])))) (sRet (eC (.bl false))) sNext)
  (sFor (iSeq (eCall F_law_unlike (aCons (e2 ixD (eVar 3) (eVar 8)) (aCons (e2 ixD (eVar 3) (eVar 9)) aNil)) [] [])) (gSet 12) (sSeq (sAsg (eC (.dt true [] [])) (gSet 13))
  (sSeq (sFor (iSeq (eVar 3)) (gSet 14) (sDPutI 13 (eFrz (eCall F_law_number (aCons (eMove 1) aNil) [] [(0, 1)])) (eCall F_law_spot (aCons (eVar 14) (aCons (eTup (aCons (eVar 12) aNil)) aNil)) [] [])))
  (sSeq (sAsg (eBi tupleD (aCons (eLcL 16 (iSeq (eVar 3)) (gSet 14) mYes (eFrz (eDix 13 (eCall F_law_spot (aCons (eVar 14) (aCons (eTup (aCons (eVar 12) aNil)) aNil)) [] []))) [14]) aNil)) (gSet 15))
  (sIf (eB (e2 neD (eCall F_box_sum (aCons (eVar 2) (aCons (eVar 15) (aCons (eTup (aCons (eVar 8) (aCons (eVar 9) aNil))) aNil))) [] []) (eC (.int 0)))) (sRet (eC (.bl false))) sNext)))))))))))))
  (sRet (eC (.bl true))))))))))
def F_law : List D → Res D := runS [] 1 16 b_law
theorem ok_law (T : Txt K mg) (h_law_pool_1 : FnD P w K mg base 1 "_law_pool" 1 [] F_law_pool) (h_law_club_2 : FnD P w K mg base 3 "_law_club" 2 [] F_law_club) (h_law_draw_2 : FnD P w K mg base 1 "_law_draw" 2 [] F_law_draw) (h_law_rows_1 : FnD P w K mg base 1 "_law_rows" 1 [] F_law_rows) (h_law_number_1 : FnD P w K mg base 3 "_law_number" 1 [] F_law_number) (h_law_pick_2 : FnD P w K mg base 2 "_law_pick" 2 [] F_law_pick) (h_box_sum_3 : FnD P w K mg base 6 "box_sum" 3 [] F_box_sum) (h_law_box_sum_4 : FnD P w K mg base 2 "_law_box_sum" 4 [] F_law_box_sum) (h_law_is_int_1 : FnD P w K mg base 1 "_law_is_int" 1 [] F_law_is_int) (h_law_unlike_2 : FnD P w K mg base 1 "_law_unlike" 2 [] F_law_unlike) (h_law_spot_2 : FnD P w K mg base 1 "_law_spot" 2 [] F_law_spot) {f : Addr} {fd : FuncData} (F : FunD K "law" "law" (defArgs s_law) (defBody s_law) (defScope s_law) [] [] f fd) : FnOk P w K mg base (L2.CX P w) 7 f fd P_law (spD ⟨K, mg⟩ P_law.length F_law) :=
  fnok_of (pr := []) F sc_law fun cdv A outer s H E hr => by
    have c := cf_of (P := P) (w := w) (K := K) (mg := mg) (base := base) (E := E) (H := H) (outer := outer) sc_law hr
    have po : ∀ i : Unit, PassesOwn (model ((fun _ : Unit => cxOf (L2.CX P w) P w K mg base N_law "law" (defScope s_law) f cdv A outer s H E) i).prog ((fun _ : Unit => cxOf (L2.CX P w) P w K mg base N_law "law" (defScope s_law) f cdv A outer s H E) i).w) ((fun _ : Unit => cxOf (L2.CX P w) P w K mg base N_law "law" (defScope s_law) f cdv A outer s H E) i).A ((fun _ : Unit => cxOf (L2.CX P w) P w K mg base N_law "law" (defScope s_law) f cdv A outer s H E) i).env ((fun _ : Unit => cxOf (L2.CX P w) P w K mg base N_law "law" (defScope s_law) f cdv A outer s H E) i).xe := fun _ => passes_of rfl
    exact (ss_cons (sd_asg (fun i te tg he hg => ps_asg he hg) (ed_fn c (fun _ => h_law_pool_1) (by decide) (fun _ => by rfl) (am_cons (ed_var 0 (fun _ => pv 0)) am_nil) (al_cons al_nil)) (gd_name (i := 1) (fun j => pg_name (c.nd j) rfl (by first | exact Or.inl rfl | exact Or.inr rfl))))
  (ss_cons (sd_asg (fun i te tg he hg => ps_asg he hg) (ed_frz (ed_fn c (fun _ => h_law_club_2) (by decide) (fun _ => by rfl) (am_mvL 1 (fun _ => pv 1) (am_cons (ed_frz (ed_if (td_eq c (ed_fn c (fun _ => h_law_draw_2) (by decide) (fun _ => by rfl) (am_mv 1 (fun _ => pv 1) (am_cons ed_int am_nil)) (al_cons (al_cons al_nil))) ed_int) ed_int ed_int)) am_nil)) (by repeat (first | exact al_nil | apply al_cons | apply al_mvL)))) (gd_name (i := 2) (fun j => pg_name (c.nd j) rfl (by first | exact Or.inl rfl | exact Or.inr rfl))))
  (ss_cons (sd_asg (fun i te tg he hg => ps_asg he hg) (ed_frz (ed_fn c (fun _ => h_law_rows_1) (by decide) (fun _ => by rfl) (am_cons (ed_var 2 (fun _ => pv 2)) am_nil) (al_cons al_nil))) (gd_name (i := 3) (fun j => pg_name (c.nd j) rfl (by first | exact Or.inl rfl | exact Or.inr rfl))))
  (ss_cons (sd_asg (fun i te tg he hg => ps_asg he hg) (ed_tuple c (fun _ => by rfl) T.f_tuple (am_cons (ed_lc (own := [("_law_row", 14)]) 16 c.calm c.nd (id_seq c (ed_var 3 (fun _ => pv 3))) (fun _ => blkOk_by (by kernel_rfl)) (gd_name (i := 14) (fun j => pg_name ((c.blk _).nd j) rfl (by first | exact Or.inl rfl | exact Or.inr rfl))) ld_nil (ed_frz (ed_fn (c.blk _) (fun _ => h_law_number_1) (by decide) (fun _ => by rfl) (am_mv 1 (fun _ => pv 1) am_nil) (al_cons al_nil)))) am_nil)) (gd_name (i := 4) (fun j => pg_name (c.nd j) rfl (by first | exact Or.inl rfl | exact Or.inr rfl))))
  (ss_cons (sd_asg (fun i te tg he hg => ps_asg he hg) (ed_tuple c (fun _ => by rfl) T.f_tuple (am_cons (ed_lc (own := [("_law_row", 14)]) 16 c.calm c.nd (id_seq c (ed_var 3 (fun _ => pv 3))) (fun _ => blkOk_by (by kernel_rfl)) (gd_name (i := 14) (fun j => pg_name ((c.blk _).nd j) rfl (by first | exact Or.inl rfl | exact Or.inr rfl))) ld_nil (ed_frz (ed_fn (c.blk _) (fun _ => h_law_number_1) (by decide) (fun _ => by rfl) (am_mv 1 (fun _ => pv 1) am_nil) (al_cons al_nil)))) am_nil)) (gd_name (i := 5) (fun j => pg_name (c.nd j) rfl (by first | exact Or.inl rfl | exact Or.inr rfl))))
  (ss_cons (sd_asg (fun i te tg he hg => ps_asg he hg) (ed_tuple c (fun _ => by rfl) T.f_tuple (am_cons (ed_lc (own := [("_law_one", 8), ("_law_other", 9)]) 16 c.calm c.nd (id_zip c (fun _ => by rfl) T.f_zip (am_cons (ed_var 4 (fun _ => pv 4)) (am_cons (ed_var 5 (fun _ => pv 5)) am_nil))) (fun _ => blkOk_by (by kernel_rfl)) (gd_tup (n := 2) (t := gNil) (fun i t h => by rw [← (c.blk _).kk i]; exact pg_tup ((c.blk _).calm i) h) (gds_cons (gd_name (i := 8) (fun j => pg_name ((c.blk _).nd j) rfl (by first | exact Or.inl rfl | exact Or.inr rfl))) (gds_cons (gd_name (i := 9) (fun j => pg_name ((c.blk _).nd j) rfl (by first | exact Or.inl rfl | exact Or.inr rfl))) gds_nil))) ld_nil (ed_frz (ed_add (c.blk _) (ed_var 8 (fun _ => pv 8)) (ed_var 9 (fun _ => pv 9))))) am_nil)) (gd_name (i := 6) (fun j => pg_name (c.nd j) rfl (by first | exact Or.inl rfl | exact Or.inr rfl))))
  (ss_cons (sd_for po c.calm (id_rg1 c (fun _ => by rfl) T.f_range (am_cons ed_int am_nil)) (gd_name (i := 7) (fun j => pg_name (c.nd j) rfl (by first | exact Or.inl rfl | exact Or.inr rfl))) (ss_cons (sd_asg (fun i te tg he hg => ps_asg he hg) (ed_frz (ed_fn c (fun _ => h_law_draw_2) (by decide) (fun _ => by rfl) (am_mv 1 (fun _ => pv 1) (am_cons (ed_len c (fun _ => by rfl) T.f_len (am_cons (ed_var 3 (fun _ => pv 3)) am_nil)) am_nil)) (al_cons (al_cons al_nil)))) (gd_name (i := 8) (fun j => pg_name (c.nd j) rfl (by first | exact Or.inl rfl | exact Or.inr rfl))))
  (ss_cons (sd_asg (fun i te tg he hg => ps_asg he hg) (ed_frz (ed_fn c (fun _ => h_law_pick_2) (by decide) (fun _ => by rfl) (am_mvL 1 (fun _ => pv 1) (am_cons (ed_frz (ed_lst (am_cons (ed_frz (ed_fn c (fun _ => h_law_draw_2) (by decide) (fun _ => by rfl) (am_mv 1 (fun _ => pv 1) (am_cons (ed_len c (fun _ => by rfl) T.f_len (am_cons (ed_var 3 (fun _ => pv 3)) am_nil)) am_nil)) (al_cons (al_cons al_nil)))) (am_cons (ed_frz (ed_fn c (fun _ => h_law_draw_2) (by decide) (fun _ => by rfl) (am_mv 1 (fun _ => pv 1) (am_cons (ed_len c (fun _ => by rfl) T.f_len (am_cons (ed_var 3 (fun _ => pv 3)) am_nil)) am_nil)) (al_cons (al_cons al_nil)))) (am_cons (ed_var 8 (fun _ => pv 8)) am_nil))))) am_nil)) (by repeat (first | exact al_nil | apply al_cons | apply al_mvL)))) (gd_name (i := 9) (fun j => pg_name (c.nd j) rfl (by first | exact Or.inl rfl | exact Or.inr rfl))))
  (ss_cons (sd_asg (fun i te tg he hg => ps_asg he hg) (ed_frz (ed_fn c (fun _ => h_box_sum_3) (by decide) (fun _ => by rfl) (am_cons (ed_var 2 (fun _ => pv 2)) (am_cons (ed_var 4 (fun _ => pv 4)) (am_cons (ed_tup (am_cons (ed_var 8 (fun _ => pv 8)) (am_cons (ed_var 9 (fun _ => pv 9)) am_nil))) am_nil))) (al_cons (al_cons (al_cons al_nil))))) (gd_name (i := 10) (fun j => pg_name (c.nd j) rfl (by first | exact Or.inl rfl | exact Or.inr rfl))))
  (ss_cons (sd_if (td_of (wd_or (td_not (td_val (ed_fn c (fun _ => h_law_is_int_1) (by decide) (fun _ => by rfl) (am_cons (ed_var 10 (fun _ => pv 10)) am_nil) (al_cons al_nil)))) (wd_or1 (td_ne c (ed_var 10 (fun _ => pv 10)) (ed_fn c (fun _ => h_law_box_sum_4) (by decide) (fun _ => by rfl) (am_cons (ed_var 2 (fun _ => pv 2)) (am_cons (ed_var 4 (fun _ => pv 4)) (am_cons (ed_ix c (ed_var 3 (fun _ => pv 3)) (ed_var 8 (fun _ => pv 8))) (am_cons (ed_ix c (ed_var 3 (fun _ => pv 3)) (ed_var 9 (fun _ => pv 9))) am_nil)))) (al_cons (al_cons (al_cons (al_cons al_nil))))))))) (ss_one (sd_ret ed_bl)) ss_nil)
  (ss_cons (sd_asg (fun i te tg he hg => ps_asg he hg) (ed_frz (ed_if (td_in c (ed_len c (fun _ => by rfl) T.f_len (am_cons (ed_fn c (fun _ => h_law_unlike_2) (by decide) (fun _ => by rfl) (am_cons (ed_ix c (ed_var 3 (fun _ => pv 3)) (ed_var 8 (fun _ => pv 8))) (am_cons (ed_ix c (ed_var 3 (fun _ => pv 3)) (ed_var 9 (fun _ => pv 9))) am_nil)) (al_cons (al_cons al_nil))) am_nil)) (ed_tup (am_cons ed_int (am_cons ed_int (am_cons ed_int (am_cons ed_int am_nil)))))) (ed_neg c ed_int) ed_int)) (gd_name (i := 11) (fun j => pg_name (c.nd j) rfl (by first | exact Or.inl rfl | exact Or.inr rfl))))
  (ss_cons (sd_if (td_ne c (ed_fn c (fun _ => h_box_sum_3) (by decide) (fun _ => by rfl) (am_cons (ed_var 2 (fun _ => pv 2)) (am_cons (ed_var 4 (fun _ => pv 4)) (am_cons (ed_tup (am_cons (ed_var 9 (fun _ => pv 9)) (am_cons (ed_var 8 (fun _ => pv 8)) am_nil))) am_nil))) (al_cons (al_cons (al_cons al_nil)))) (ed_mul c (ed_var 11 (fun _ => pv 11)) (ed_var 10 (fun _ => pv 10)))) (ss_one (sd_ret ed_bl)) ss_nil)
  (ss_cons (sd_if (td_ne c (ed_fn c (fun _ => h_box_sum_3) (by decide) (fun _ => by rfl) (am_cons (ed_var 2 (fun _ => pv 2)) (am_cons (ed_var 6 (fun _ => pv 6)) (am_cons (ed_tup (am_cons (ed_var 8 (fun _ => pv 8)) (am_cons (ed_var 9 (fun _ => pv 9)) am_nil))) am_nil))) (al_cons (al_cons (al_cons al_nil)))) (ed_add c (ed_var 10 (fun _ => pv 10)) (ed_fn c (fun _ => h_box_sum_3) (by decide) (fun _ => by rfl) (am_cons (ed_var 2 (fun _ => pv 2)) (am_cons (ed_var 5 (fun _ => pv 5)) (am_cons (ed_tup (am_cons (ed_var 8 (fun _ => pv 8)) (am_cons (ed_var 9 (fun _ => pv 9)) am_nil))) am_nil))) (al_cons (al_cons (al_cons al_nil)))))) (ss_one (sd_ret ed_bl)) ss_nil)
  (ss_one (sd_for po c.calm (id_seq c (ed_fn c (fun _ => h_law_unlike_2) (by decide) (fun _ => by rfl) (am_cons (ed_ix c (ed_var 3 (fun _ => pv 3)) (ed_var 8 (fun _ => pv 8))) (am_cons (ed_ix c (ed_var 3 (fun _ => pv 3)) (ed_var 9 (fun _ => pv 9))) am_nil)) (al_cons (al_cons al_nil)))) (gd_name (i := 12) (fun j => pg_name (c.nd j) rfl (by first | exact Or.inl rfl | exact Or.inr rfl))) (ss_cons (sd_asg (fun i te tg he hg => ps_asg he hg) ed_dict0T (gd_name (i := 13) (fun j => pg_name (c.nd j) rfl (by first | exact Or.inl rfl | exact Or.inr rfl))))
  (ss_cons (sd_for po c.calm (id_seq c (ed_var 3 (fun _ => pv 3))) (gd_name (i := 14) (fun j => pg_name (c.nd j) rfl (by first | exact Or.inl rfl | exact Or.inr rfl))) (ss_one (sd_dput 13 c (fun _ => pv 13) (ed_frz (ed_fn c (fun _ => h_law_number_1) (by decide) (fun _ => by rfl) (am_mv 1 (fun _ => pv 1) am_nil) (al_cons al_nil))) (ed_fn c (fun _ => h_law_spot_2) (by decide) (fun _ => by rfl) (am_cons (ed_var 14 (fun _ => pv 14)) (am_cons (ed_tup (am_cons (ed_var 12 (fun _ => pv 12)) am_nil)) am_nil)) (al_cons (al_cons al_nil))))))
  (ss_cons (sd_asg (fun i te tg he hg => ps_asg he hg) (ed_tuple c (fun _ => by rfl) T.f_tuple (am_cons (ed_lc (own := [("_law_row", 14)]) 16 c.calm c.nd (id_seq c (ed_var 3 (fun _ => pv 3))) (fun _ => blkOk_by (by kernel_rfl)) (gd_name (i := 14) (fun j => pg_name ((c.blk _).nd j) rfl (by first | exact Or.inl rfl | exact Or.inr rfl))) ld_nil (ed_frz (ed_dix 13 (c.blk _) (fun _ => pv 13) (ed_fn (c.blk _) (fun _ => h_law_spot_2) (by decide) (fun _ => by rfl) (am_cons (ed_var 14 (fun _ => pv 14)) (am_cons (ed_tup (am_cons (ed_var 12 (fun _ => pv 12)) am_nil)) am_nil)) (al_cons (al_cons al_nil)))))) am_nil)) (gd_name (i := 15) (fun j => pg_name (c.nd j) rfl (by first | exact Or.inl rfl | exact Or.inr rfl))))
  (ss_one (sd_if (td_ne c (ed_fn c (fun _ => h_box_sum_3) (by decide) (fun _ => by rfl) (am_cons (ed_var 2 (fun _ => pv 2)) (am_cons (ed_var 15 (fun _ => pv 15)) (am_cons (ed_tup (am_cons (ed_var 8 (fun _ => pv 8)) (am_cons (ed_var 9 (fun _ => pv 9)) am_nil))) am_nil))) (al_cons (al_cons (al_cons al_nil)))) ed_int) (ss_one (sd_ret ed_bl)) ss_nil)))))))))))))))
  (ss_one (sd_ret ed_bl)))))))))
def fal : List He.Fa := [.free "abs", .free "all", .free "bool", .free "enumerate", .free "int", .free "isinstance", .free "len", .free "range", .free "reversed", .free "sum", .free "tuple", .free "zip", .int "MOST_MEMBERS" 8, .int "MOST_ROWS" 256, .int "MOST_SORTS" 4, .glo "_law_pool", .glo "_law_draw", .glo "_law_pick", .glo "_law_club", .glo "_law_rows", .glo "is_integer", .glo "is_within", .glo "is_many", .glo "size_of", .glo "is_club", .glo "check_club", .glo "is_table", .glo "check_totals", .glo "slips_of", .glo "place_of", .glo "corners", .glo "sum_of_box", .glo "is_pair", .glo "is_place", .glo "are_places", .glo "box_sum", .glo "_law_unlike", .glo "_law_near", .glo "_law_number", .glo "_law_is_int", .glo "_law_place", .glo "_law_box_sum", .glo "_law_spot", .glo "law", .glo "NoBox", .exc "NoBox", .glo "NoClub", .exc "NoClub", .glo "NoTotals", .exc "NoTotals"]
def d_law_pool : He.DefD := ⟨("_law_pool", none), "_law_pool", "_law_pool", defArgs s_law_pool, defBody s_law_pool, defScope s_law_pool, [], []⟩
def d_law_draw : He.DefD := ⟨("_law_draw", none), "_law_draw", "_law_draw", defArgs s_law_draw, defBody s_law_draw, defScope s_law_draw, [], []⟩
def d_law_pick : He.DefD := ⟨("_law_pick", none), "_law_pick", "_law_pick", defArgs s_law_pick, defBody s_law_pick, defScope s_law_pick, [], []⟩
def d_law_club : He.DefD := ⟨("_law_club", none), "_law_club", "_law_club", defArgs s_law_club, defBody s_law_club, defScope s_law_club, [], []⟩
def d_law_rows : He.DefD := ⟨("_law_rows", none), "_law_rows", "_law_rows", defArgs s_law_rows, defBody s_law_rows, defScope s_law_rows, [], []⟩
def d_is_integer : He.DefD := ⟨("is_integer", none), "is_integer", "is_integer", defArgs s_is_integer, defBody s_is_integer, defScope s_is_integer, [], []⟩
def d_is_within : He.DefD := ⟨("is_within", none), "is_within", "is_within", defArgs s_is_within, defBody s_is_within, defScope s_is_within, [], []⟩
def d_is_many : He.DefD := ⟨("is_many", none), "is_many", "is_many", defArgs s_is_many, defBody s_is_many, defScope s_is_many, [], []⟩
def d_size_of : He.DefD := ⟨("size_of", none), "size_of", "size_of", defArgs s_size_of, defBody s_size_of, defScope s_size_of, [], []⟩
def d_is_club : He.DefD := ⟨("is_club", none), "is_club", "is_club", defArgs s_is_club, defBody s_is_club, defScope s_is_club, [], []⟩
def d_check_club : He.DefD := ⟨("check_club", none), "check_club", "check_club", defArgs s_check_club, defBody s_check_club, defScope s_check_club, [], []⟩
def d_is_table : He.DefD := ⟨("is_table", none), "is_table", "is_table", defArgs s_is_table, defBody s_is_table, defScope s_is_table, [], []⟩
def d_check_totals : He.DefD := ⟨("check_totals", none), "check_totals", "check_totals", defArgs s_check_totals, defBody s_check_totals, defScope s_check_totals, [], []⟩
def d_slips_of : He.DefD := ⟨("slips_of", none), "slips_of", "slips_of", defArgs s_slips_of, defBody s_slips_of, defScope s_slips_of, [], []⟩
def d_place_of : He.DefD := ⟨("place_of", none), "place_of", "place_of", defArgs s_place_of, defBody s_place_of, defScope s_place_of, [], []⟩
def d_corners : He.DefD := ⟨("corners", none), "corners", "corners", defArgs s_corners, defBody s_corners, defScope s_corners, [], []⟩
def d_sum_of_box : He.DefD := ⟨("sum_of_box", none), "sum_of_box", "sum_of_box", defArgs s_sum_of_box, defBody s_sum_of_box, defScope s_sum_of_box, [], []⟩
def d_is_pair : He.DefD := ⟨("is_pair", none), "is_pair", "is_pair", defArgs s_is_pair, defBody s_is_pair, defScope s_is_pair, [], []⟩
def d_is_place : He.DefD := ⟨("is_place", none), "is_place", "is_place", defArgs s_is_place, defBody s_is_place, defScope s_is_place, [], []⟩
def d_are_places : He.DefD := ⟨("are_places", none), "are_places", "are_places", defArgs s_are_places, defBody s_are_places, defScope s_are_places, [], []⟩
def d_box_sum : He.DefD := ⟨("box_sum", none), "box_sum", "box_sum", defArgs s_box_sum, defBody s_box_sum, defScope s_box_sum, [], []⟩
def d_law_unlike : He.DefD := ⟨("_law_unlike", none), "_law_unlike", "_law_unlike", defArgs s_law_unlike, defBody s_law_unlike, defScope s_law_unlike, [], []⟩
def d_law_near : He.DefD := ⟨("_law_near", none), "_law_near", "_law_near", defArgs s_law_near, defBody s_law_near, defScope s_law_near, [], []⟩
def d_law_number : He.DefD := ⟨("_law_number", none), "_law_number", "_law_number", defArgs s_law_number, defBody s_law_number, defScope s_law_number, [], []⟩
def d_law_is_int : He.DefD := ⟨("_law_is_int", none), "_law_is_int", "_law_is_int", defArgs s_law_is_int, defBody s_law_is_int, defScope s_law_is_int, [], []⟩
def d_law_place : He.DefD := ⟨("_law_place", none), "_law_place", "_law_place", defArgs s_law_place, defBody s_law_place, defScope s_law_place, [], []⟩
def d_law_box_sum : He.DefD := ⟨("_law_box_sum", none), "_law_box_sum", "_law_box_sum", defArgs s_law_box_sum, defBody s_law_box_sum, defScope s_law_box_sum, [], []⟩
def d_law_spot : He.DefD := ⟨("_law_spot", none), "_law_spot", "_law_spot", defArgs s_law_spot, defBody s_law_spot, defScope s_law_spot, [], []⟩
def d_law : He.DefD := ⟨("law", none), "law", "law", defArgs s_law, defBody s_law, defScope s_law, [], []⟩
def fnl : List He.DefD := [d_law_pool, d_law_draw, d_law_pick, d_law_club, d_law_rows, d_is_integer, d_is_within, d_is_many, d_size_of, d_is_club, d_check_club, d_is_table, d_check_totals, d_slips_of, d_place_of, d_corners, d_sum_of_box, d_is_pair, d_is_place, d_are_places, d_box_sum, d_law_unlike, d_law_near, d_law_number, d_law_is_int, d_law_place, d_law_box_sum, d_law_spot, d_law]
def exl (K : PySem.W.Frag) : Bool := true
theorem txt {h : Heap} (X : K.In h) (G : h.Ns mainGlobals mg) (c : SaysE fal fnl exl K) : Txt K mg := by
  have d := c.d
  have e := c.e
  exact ⟨He.free_ok X G (d.fact 0 (f := .free "abs") rfl), He.free_ok X G (d.fact 1 (f := .free "all") rfl), He.free_ok X G (d.fact 2 (f := .free "bool") rfl), He.free_ok X G (d.fact 3 (f := .free "enumerate") rfl), He.free_ok X G (d.fact 4 (f := .free "int") rfl), He.free_ok X G (d.fact 5 (f := .free "isinstance") rfl), He.free_ok X G (d.fact 6 (f := .free "len") rfl), He.free_ok X G (d.fact 7 (f := .free "range") rfl), He.free_ok X G (d.fact 8 (f := .free "reversed") rfl), He.free_ok X G (d.fact 9 (f := .free "sum") rfl), He.free_ok X G (d.fact 10 (f := .free "tuple") rfl), He.free_ok X G (d.fact 11 (f := .free "zip") rfl), He.int_ok X G (d.fact 12 (f := .int "MOST_MEMBERS" 8) rfl), He.int_ok X G (d.fact 13 (f := .int "MOST_ROWS" 256) rfl), He.int_ok X G (d.fact 14 (f := .int "MOST_SORTS" 4) rfl), exf_of X G (d.fact 44 (f := .glo "NoBox") rfl) (d.fact 45 (f := .exc "NoBox") rfl), exf_of X G (d.fact 46 (f := .glo "NoClub") rfl) (d.fact 47 (f := .exc "NoClub") rfl), exf_of X G (d.fact 48 (f := .glo "NoTotals") rfl) (d.fact 49 (f := .exc "NoTotals") rfl)⟩
theorem facts {P : Program} {w : World} {K : PySem.W.Frag} {h : Heap} {mg : Str → Option Value} {f : Addr} (X : K.In h) (G : h.Ns mainGlobals mg) (hfa : mg ("law" : Str) = some (.ref f)) (c : SaysE fal fnl exl K) :
    ∃ fd : FuncData, (∀ (s : Shared) (v : Value), BindsTo s fd ⟨[v], []⟩ [("_law_script", v)]) ∧ ∀ base : Heap, K.In base → base.Ns mainGlobals mg → FnOk P w K mg base (L2.CX P w) 7 f fd P_law (spD ⟨K, mg⟩ 1 F_law) := by
  have T := txt X G c
  have d := c.d
  obtain ⟨fd_law_pool, K_law_pool⟩ := d.def_ 0 (d := d_law_pool) rfl
  have g_law_pool := He.glo_ok X G (d.fact 15 (f := .glo "_law_pool") rfl)
  obtain ⟨fd_law_draw, K_law_draw⟩ := d.def_ 1 (d := d_law_draw) rfl
  have g_law_draw := He.glo_ok X G (d.fact 16 (f := .glo "_law_draw") rfl)
  obtain ⟨fd_law_pick, K_law_pick⟩ := d.def_ 2 (d := d_law_pick) rfl
  have g_law_pick := He.glo_ok X G (d.fact 17 (f := .glo "_law_pick") rfl)
  obtain ⟨fd_law_club, K_law_club⟩ := d.def_ 3 (d := d_law_club) rfl
  have g_law_club := He.glo_ok X G (d.fact 18 (f := .glo "_law_club") rfl)
  obtain ⟨fd_law_rows, K_law_rows⟩ := d.def_ 4 (d := d_law_rows) rfl
  have g_law_rows := He.glo_ok X G (d.fact 19 (f := .glo "_law_rows") rfl)
  obtain ⟨fd_is_integer, K_is_integer⟩ := d.def_ 5 (d := d_is_integer) rfl
  have g_is_integer := He.glo_ok X G (d.fact 20 (f := .glo "is_integer") rfl)
  obtain ⟨fd_is_within, K_is_within⟩ := d.def_ 6 (d := d_is_within) rfl
  have g_is_within := He.glo_ok X G (d.fact 21 (f := .glo "is_within") rfl)
  obtain ⟨fd_is_many, K_is_many⟩ := d.def_ 7 (d := d_is_many) rfl
  have g_is_many := He.glo_ok X G (d.fact 22 (f := .glo "is_many") rfl)
  obtain ⟨fd_size_of, K_size_of⟩ := d.def_ 8 (d := d_size_of) rfl
  have g_size_of := He.glo_ok X G (d.fact 23 (f := .glo "size_of") rfl)
  obtain ⟨fd_is_club, K_is_club⟩ := d.def_ 9 (d := d_is_club) rfl
  have g_is_club := He.glo_ok X G (d.fact 24 (f := .glo "is_club") rfl)
  obtain ⟨fd_check_club, K_check_club⟩ := d.def_ 10 (d := d_check_club) rfl
  have g_check_club := He.glo_ok X G (d.fact 25 (f := .glo "check_club") rfl)
  obtain ⟨fd_is_table, K_is_table⟩ := d.def_ 11 (d := d_is_table) rfl
  have g_is_table := He.glo_ok X G (d.fact 26 (f := .glo "is_table") rfl)
  obtain ⟨fd_check_totals, K_check_totals⟩ := d.def_ 12 (d := d_check_totals) rfl
  have g_check_totals := He.glo_ok X G (d.fact 27 (f := .glo "check_totals") rfl)
  obtain ⟨fd_slips_of, K_slips_of⟩ := d.def_ 13 (d := d_slips_of) rfl
  have g_slips_of := He.glo_ok X G (d.fact 28 (f := .glo "slips_of") rfl)
  obtain ⟨fd_place_of, K_place_of⟩ := d.def_ 14 (d := d_place_of) rfl
  have g_place_of := He.glo_ok X G (d.fact 29 (f := .glo "place_of") rfl)
  obtain ⟨fd_corners, K_corners⟩ := d.def_ 15 (d := d_corners) rfl
  have g_corners := He.glo_ok X G (d.fact 30 (f := .glo "corners") rfl)
  obtain ⟨fd_sum_of_box, K_sum_of_box⟩ := d.def_ 16 (d := d_sum_of_box) rfl
  have g_sum_of_box := He.glo_ok X G (d.fact 31 (f := .glo "sum_of_box") rfl)
  obtain ⟨fd_is_pair, K_is_pair⟩ := d.def_ 17 (d := d_is_pair) rfl
  have g_is_pair := He.glo_ok X G (d.fact 32 (f := .glo "is_pair") rfl)
  obtain ⟨fd_is_place, K_is_place⟩ := d.def_ 18 (d := d_is_place) rfl
  have g_is_place := He.glo_ok X G (d.fact 33 (f := .glo "is_place") rfl)
  obtain ⟨fd_are_places, K_are_places⟩ := d.def_ 19 (d := d_are_places) rfl
  have g_are_places := He.glo_ok X G (d.fact 34 (f := .glo "are_places") rfl)
  obtain ⟨fd_box_sum, K_box_sum⟩ := d.def_ 20 (d := d_box_sum) rfl
  have g_box_sum := He.glo_ok X G (d.fact 35 (f := .glo "box_sum") rfl)
  obtain ⟨fd_law_unlike, K_law_unlike⟩ := d.def_ 21 (d := d_law_unlike) rfl
  have g_law_unlike := He.glo_ok X G (d.fact 36 (f := .glo "_law_unlike") rfl)
  obtain ⟨fd_law_near, K_law_near⟩ := d.def_ 22 (d := d_law_near) rfl
  have g_law_near := He.glo_ok X G (d.fact 37 (f := .glo "_law_near") rfl)
  obtain ⟨fd_law_number, K_law_number⟩ := d.def_ 23 (d := d_law_number) rfl
  have g_law_number := He.glo_ok X G (d.fact 38 (f := .glo "_law_number") rfl)
  obtain ⟨fd_law_is_int, K_law_is_int⟩ := d.def_ 24 (d := d_law_is_int) rfl
  have g_law_is_int := He.glo_ok X G (d.fact 39 (f := .glo "_law_is_int") rfl)
  obtain ⟨fd_law_place, K_law_place⟩ := d.def_ 25 (d := d_law_place) rfl
  have g_law_place := He.glo_ok X G (d.fact 40 (f := .glo "_law_place") rfl)
  obtain ⟨fd_law_box_sum, K_law_box_sum⟩ := d.def_ 26 (d := d_law_box_sum) rfl
  have g_law_box_sum := He.glo_ok X G (d.fact 41 (f := .glo "_law_box_sum") rfl)
  obtain ⟨fd_law_spot, K_law_spot⟩ := d.def_ 27 (d := d_law_spot) rfl
  have g_law_spot := He.glo_ok X G (d.fact 42 (f := .glo "_law_spot") rfl)
  obtain ⟨fd_law, K_law⟩ := d.def_ 28 (d := d_law) rfl
  have g_law := He.glo_ok X G (d.fact 43 (f := .glo "law") rfl)
  have e := hfa.symm.trans g_law
  cases e
  have b := FunD.bindsA (ps := P_law) K_law fun _ _ _ _ _ _ us hl => match us, hl with | [_], _ => rfl
  refine ⟨fd_law, fun s v => b s [v] rfl, fun base _ _ => ?_⟩
  have o_law_pool := ok_law_pool (P := P) (w := w) (base := base) T  K_law_pool
  have h_law_pool_1 : FnD P w K mg base 1 "_law_pool" 1 [] F_law_pool := fnd_n K_law_pool g_law_pool (FunD.bindsN (ps := P_law_pool) K_law_pool fun _ _ _ _ _ _ us hl => match us, hl with | [_], _ => rfl) o_law_pool
  have o_law_draw := ok_law_draw (P := P) (w := w) (base := base) T  K_law_draw
  have h_law_draw_2 : FnD P w K mg base 1 "_law_draw" 2 [] F_law_draw := fnd_n K_law_draw g_law_draw (FunD.bindsN (ps := P_law_draw) K_law_draw fun _ _ _ _ _ _ us hl => match us, hl with | [_, _], _ => rfl) o_law_draw
  have o_law_pick := ok_law_pick (P := P) (w := w) (base := base) T h_law_draw_2 K_law_pick
  have h_law_pick_2 : FnD P w K mg base 2 "_law_pick" 2 [] F_law_pick := fnd_n K_law_pick g_law_pick (FunD.bindsN (ps := P_law_pick) K_law_pick fun _ _ _ _ _ _ us hl => match us, hl with | [_, _], _ => rfl) o_law_pick
  have o_law_club := ok_law_club (P := P) (w := w) (base := base) T h_law_pick_2 K_law_club
  have h_law_club_2 : FnD P w K mg base 3 "_law_club" 2 [] F_law_club := fnd_n K_law_club g_law_club (FunD.bindsN (ps := P_law_club) K_law_club fun _ _ _ _ _ _ us hl => match us, hl with | [_, _], _ => rfl) o_law_club
  have o_law_rows := ok_law_rows (P := P) (w := w) (base := base) T  K_law_rows
  have h_law_rows_1 : FnD P w K mg base 1 "_law_rows" 1 [] F_law_rows := fnd_n K_law_rows g_law_rows (FunD.bindsN (ps := P_law_rows) K_law_rows fun _ _ _ _ _ _ us hl => match us, hl with | [_], _ => rfl) o_law_rows
  have o_is_integer := ok_is_integer (P := P) (w := w) (base := base) T  K_is_integer
  have h_is_integer_1 : FnD P w K mg base 1 "is_integer" 1 [] F_is_integer := fnd_n K_is_integer g_is_integer (FunD.bindsN (ps := P_is_integer) K_is_integer fun _ _ _ _ _ _ us hl => match us, hl with | [_], _ => rfl) o_is_integer
  have o_is_within := ok_is_within (P := P) (w := w) (base := base) T h_is_integer_1 K_is_within
  have h_is_within_3 : FnD P w K mg base 2 "is_within" 3 [] F_is_within := fnd_n K_is_within g_is_within (FunD.bindsN (ps := P_is_within) K_is_within fun _ _ _ _ _ _ us hl => match us, hl with | [_, _, _], _ => rfl) o_is_within
  have o_is_many := ok_is_many (P := P) (w := w) (base := base) T h_is_within_3 K_is_many
  have h_is_many_1 : FnD P w K mg base 3 "is_many" 1 [] F_is_many := fnd_n K_is_many g_is_many (FunD.bindsN (ps := P_is_many) K_is_many fun _ _ _ _ _ _ us hl => match us, hl with | [_], _ => rfl) o_is_many
  have o_size_of := ok_size_of (P := P) (w := w) (base := base) T  K_size_of
  have h_size_of_1 : FnD P w K mg base 1 "size_of" 1 [] F_size_of := fnd_n K_size_of g_size_of (FunD.bindsN (ps := P_size_of) K_size_of fun _ _ _ _ _ _ us hl => match us, hl with | [_], _ => rfl) o_size_of
  have o_is_club := ok_is_club (P := P) (w := w) (base := base) T h_is_many_1 h_size_of_1 h_is_within_3 K_is_club
  have h_is_club_1 : FnD P w K mg base 4 "is_club" 1 [] F_is_club := fnd_n K_is_club g_is_club (FunD.bindsN (ps := P_is_club) K_is_club fun _ _ _ _ _ _ us hl => match us, hl with | [_], _ => rfl) o_is_club
  have o_check_club := ok_check_club (P := P) (w := w) (base := base) T h_is_club_1 K_check_club
  have h_check_club_1 : FnD P w K mg base 5 "check_club" 1 [] F_check_club := fnd_n K_check_club g_check_club (FunD.bindsN (ps := P_check_club) K_check_club fun _ _ _ _ _ _ us hl => match us, hl with | [_], _ => rfl) o_check_club
  have o_is_table := ok_is_table (P := P) (w := w) (base := base) T  K_is_table
  have h_is_table_2 : FnD P w K mg base 1 "is_table" 2 [] F_is_table := fnd_n K_is_table g_is_table (FunD.bindsN (ps := P_is_table) K_is_table fun _ _ _ _ _ _ us hl => match us, hl with | [_, _], _ => rfl) o_is_table
  have o_check_totals := ok_check_totals (P := P) (w := w) (base := base) T h_is_integer_1 h_is_table_2 h_size_of_1 K_check_totals
  have h_check_totals_2 : FnD P w K mg base 2 "check_totals" 2 [] F_check_totals := fnd_n K_check_totals g_check_totals (FunD.bindsN (ps := P_check_totals) K_check_totals fun _ _ _ _ _ _ us hl => match us, hl with | [_, _], _ => rfl) o_check_totals
  have o_slips_of := ok_slips_of (P := P) (w := w) (base := base) T  K_slips_of
  have h_slips_of_2 : FnD P w K mg base 1 "slips_of" 2 [] F_slips_of := fnd_n K_slips_of g_slips_of (FunD.bindsN (ps := P_slips_of) K_slips_of fun _ _ _ _ _ _ us hl => match us, hl with | [_, _], _ => rfl) o_slips_of
  have o_place_of := ok_place_of (P := P) (w := w) (base := base) T  K_place_of
  have h_place_of_2 : FnD P w K mg base 1 "place_of" 2 [] F_place_of := fnd_n K_place_of g_place_of (FunD.bindsN (ps := P_place_of) K_place_of fun _ _ _ _ _ _ us hl => match us, hl with | [_, _], _ => rfl) o_place_of
  have o_corners := ok_corners (P := P) (w := w) (base := base) T h_slips_of_2 h_place_of_2 K_corners
  have h_corners_3 : FnD P w K mg base 2 "corners" 3 [] F_corners := fnd_n K_corners g_corners (FunD.bindsN (ps := P_corners) K_corners fun _ _ _ _ _ _ us hl => match us, hl with | [_, _, _], _ => rfl) o_corners
  have o_sum_of_box := ok_sum_of_box (P := P) (w := w) (base := base) T h_corners_3 K_sum_of_box
  have h_sum_of_box_4 : FnD P w K mg base 3 "sum_of_box" 4 [] F_sum_of_box := fnd_n K_sum_of_box g_sum_of_box (FunD.bindsN (ps := P_sum_of_box) K_sum_of_box fun _ _ _ _ _ _ us hl => match us, hl with | [_, _, _, _], _ => rfl) o_sum_of_box
  have o_is_pair := ok_is_pair (P := P) (w := w) (base := base) T  K_is_pair
  have h_is_pair_1 : FnD P w K mg base 1 "is_pair" 1 [] F_is_pair := fnd_n K_is_pair g_is_pair (FunD.bindsN (ps := P_is_pair) K_is_pair fun _ _ _ _ _ _ us hl => match us, hl with | [_], _ => rfl) o_is_pair
  have o_is_place := ok_is_place (P := P) (w := w) (base := base) T h_is_within_3 h_size_of_1 K_is_place
  have h_is_place_2 : FnD P w K mg base 3 "is_place" 2 [] F_is_place := fnd_n K_is_place g_is_place (FunD.bindsN (ps := P_is_place) K_is_place fun _ _ _ _ _ _ us hl => match us, hl with | [_, _], _ => rfl) o_is_place
  have o_are_places := ok_are_places (P := P) (w := w) (base := base) T h_is_place_2 h_is_pair_1 K_are_places
  have h_are_places_2 : FnD P w K mg base 4 "are_places" 2 [] F_are_places := fnd_n K_are_places g_are_places (FunD.bindsN (ps := P_are_places) K_are_places fun _ _ _ _ _ _ us hl => match us, hl with | [_, _], _ => rfl) o_are_places
  have o_box_sum := ok_box_sum (P := P) (w := w) (base := base) T h_check_club_1 h_check_totals_2 h_are_places_2 h_sum_of_box_4 K_box_sum
  have h_box_sum_3 : FnD P w K mg base 6 "box_sum" 3 [] F_box_sum := fnd_n K_box_sum g_box_sum (FunD.bindsN (ps := P_box_sum) K_box_sum fun _ _ _ _ _ _ us hl => match us, hl with | [_, _, _], _ => rfl) o_box_sum
  have o_law_unlike := ok_law_unlike (P := P) (w := w) (base := base) T  K_law_unlike
  have h_law_unlike_2 : FnD P w K mg base 1 "_law_unlike" 2 [] F_law_unlike := fnd_n K_law_unlike g_law_unlike (FunD.bindsN (ps := P_law_unlike) K_law_unlike fun _ _ _ _ _ _ us hl => match us, hl with | [_, _], _ => rfl) o_law_unlike
  have o_law_near := ok_law_near (P := P) (w := w) (base := base) T h_law_draw_2 K_law_near
  have h_law_near_2 : FnD P w K mg base 2 "_law_near" 2 [] F_law_near := fnd_n K_law_near g_law_near (FunD.bindsN (ps := P_law_near) K_law_near fun _ _ _ _ _ _ us hl => match us, hl with | [_, _], _ => rfl) o_law_near
  have o_law_number := ok_law_number (P := P) (w := w) (base := base) T h_law_near_2 h_law_pick_2 K_law_number
  have h_law_number_1 : FnD P w K mg base 3 "_law_number" 1 [] F_law_number := fnd_n K_law_number g_law_number (FunD.bindsN (ps := P_law_number) K_law_number fun _ _ _ _ _ _ us hl => match us, hl with | [_], _ => rfl) o_law_number
  have o_law_is_int := ok_law_is_int (P := P) (w := w) (base := base) T  K_law_is_int
  have h_law_is_int_1 : FnD P w K mg base 1 "_law_is_int" 1 [] F_law_is_int := fnd_n K_law_is_int g_law_is_int (FunD.bindsN (ps := P_law_is_int) K_law_is_int fun _ _ _ _ _ _ us hl => match us, hl with | [_], _ => rfl) o_law_is_int
  have o_law_place := ok_law_place (P := P) (w := w) (base := base) T  K_law_place
  have h_law_place_2 : FnD P w K mg base 1 "_law_place" 2 [] F_law_place := fnd_n K_law_place g_law_place (FunD.bindsN (ps := P_law_place) K_law_place fun _ _ _ _ _ _ us hl => match us, hl with | [_, _], _ => rfl) o_law_place
  have o_law_box_sum := ok_law_box_sum (P := P) (w := w) (base := base) T h_law_place_2 K_law_box_sum
  have h_law_box_sum_4 : FnD P w K mg base 2 "_law_box_sum" 4 [] F_law_box_sum := fnd_n K_law_box_sum g_law_box_sum (FunD.bindsN (ps := P_law_box_sum) K_law_box_sum fun _ _ _ _ _ _ us hl => match us, hl with | [_, _, _, _], _ => rfl) o_law_box_sum
  have o_law_spot := ok_law_spot (P := P) (w := w) (base := base) T  K_law_spot
  have h_law_spot_2 : FnD P w K mg base 1 "_law_spot" 2 [] F_law_spot := fnd_n K_law_spot g_law_spot (FunD.bindsN (ps := P_law_spot) K_law_spot fun _ _ _ _ _ _ us hl => match us, hl with | [_, _], _ => rfl) o_law_spot
  exact ok_law T h_law_pool_1 h_law_club_2 h_law_draw_2 h_law_rows_1 h_law_number_1 h_law_pick_2 h_box_sum_3 h_law_box_sum_4 h_law_is_int_1 h_law_unlike_2 h_law_spot_2 K_law
def loose0 : List Str := ["CauseError", "NoClub", "NoTotals", "NoBox", "MOST_MEMBERS", "is_integer", "is_within", "is_pair", "is_table", "is_many", "MOST_SORTS", "MOST_ROWS", "size_of", "is_club", "check_club", "is_place", "place_of", "slips_of", "check_totals", "corners", "sum_of_box", "are_places", "box_sum", "_law_pool", "_law_draw", "_law_pick", "_law_is_int", "_law_near", "_law_number", "_law_club"]
def loose1 : List Str := ["_law_rows", "_law_spot", "_law_place", "_law_box_sum", "_law_unlike"]
def loose : List Str := loose0 ++ loose1
abbrev R : PySem.W.OpenRow := PySem.W.OpenLaw.row PySem.Challenge.rw_owncause_k63_whole_sums_of_boxes
abbrev hk : PySem.W.Hook := hookE 4 fal fnl exl
def ob (s : PySem.W.SharedT) : AlE := obsEG 4 fal fnl exl (HandSHeadRun.getT s)
theorem ob_eq (s : PySem.W.SharedT) : ob s = hk.obs s.abs := obsEG_eq (HandSHeadRun.getT_eq s)
theorem run (w : World) : HandSHeadRun.RunEq R (PySem.W.view R.prog [40]) hk ob 4000 loose w := by
  intro os
  kernel_rfl
end Lk63
end

set_option Elab.async false
set_option linter.all false
set_option maxRecDepth 100000
set_option maxHeartbeats 1000000
namespace Lk63
open PySem PySem.Spec L2 DL
/-! _law_pool, _law_draw of a pool, _law_pick -/
theorem ev_ {ρ : DL.Env} {i : Nat} {d : D} (h : ρ[i]? = some (some d)) (hf : fro d = true) : eVar i ρ = .ok d ρ := by
  unfold eVar; rw [h]; exact if_pos hf
theorem cut_from (ds : List D) (n : Nat) (h : n ≤ ds.length) : cutD ds (some (n : Int)) none = ds.drop n := by
  unfold cutD
  have e1 : HT.sIx ds.length ds.length none = ds.length := rfl
  have e3 : HT.sIx ds.length 0 (some (n : Int)) = n := by
    rw [HT.sIx_nat]
    exact Nat.min_eq_left h
  rw [e1, e3]
  exact List.take_of_length_le (by rw [List.length_drop]; exact Nat.le_refl _)
theorem ixN_nat {n k : Nat} (h : k < n) : ixN n (k : Int) = some k := by unfold ixN; simp [h]
theorem vix_ok {ρ : DL.Env} {i : Nat} {fj : M D} {ds : List D} {j : Nat} {e : D} (h0 : ρ[i]? = some (some (.lst true ds))) (h1 : fj ρ = .ok (.int j) ρ) (h2 : ds[j]? = some e) (hf : fro e = true) : eVix i fj ρ = .ok e ρ := by
  unfold eVix
  rw [h0]
  dsimp only
  rw [mbind_of h1]
  dsimp only
  rw [h0]
  dsimp only [items, Option.bind_some]
  rw [DL.atI_nat h2]
  exact if_pos hf
abbrev S4 (gs ss : List Int) (cur cnt : Int) : D := .lst true [.lst false (gs.map .int), .lst false (ss.map .int), .int cur, .int cnt]
def Pool (B : Int) (d : D) : Prop := ∃ (gs ss : List Int) (cur cnt : Int), d = S4 gs ss cur cnt ∧ (∀ c ∈ gs, 0 ≤ c) ∧ gs.length ≤ 63 ∧ (∀ c ∈ ss, 0 ≤ c ∧ c < 2 ^ 20) ∧ ss.length ≤ 63 ∧ 0 ≤ cur ∧ 0 ≤ cnt ∧ cnt ≤ B
theorem Pool.mono {B B' : Int} {s : D} (h : Pool B s) (hb : B ≤ B') : Pool B' s := by
  obtain ⟨gs, ss, cur, cnt, e, h1, h2, h3, h4, h5, h6, h7⟩ := h
  exact ⟨gs, ss, cur, cnt, e, h1, h2, h3, h4, h5, h6, by omega⟩
abbrev dE (gs ss : List Int) (cur cnt m : Int) (x2 x3 x4 : Option D) : DL.Env := [some (S4 gs ss cur cnt), some (.int m), x2, x3, x4]
abbrev dF (gs ss : List Int) (cur cnt m : Int) (x2 x3 x4 : Option D) : DL.Env := [some (.lst false [.lst false (gs.map .int), .lst false (ss.map .int), .int cur, .int cnt]), some (.int m), x2.map frz, x3.map frz, x4.map frz]
theorem dF_eq (gs ss : List Int) (cur cnt m : Int) (x2 x3 x4 : Option D) : (dE gs ss cur cnt m x2 x3 x4).map (Option.map frz) = dF gs ss cur cnt m x2 x3 x4 := by
  show [some (D.lst false [.lst false (frzL (gs.map .int)), .lst false (frzL (ss.map .int)), .int cur, .int cnt]), some (.int m), x2.map frz, x3.map frz, x4.map frz] = _
  rw [frzL_ints, frzL_ints]
def dp1 : SF := (sIf (tBor (mAnd (eB (e2 lebD (e2 ixD (eVar 0) (eC (.int 2))) (eC (.int 1)))) (eB (e2 gtD (eBi lenD (aCons (e2 ixD (eVar 0) (eC (.int 0))) aNil)) (eC (.int 0)))))) (sSeq (sAsg (eFrz (e2 ixD (eVix 0 (eC (.int 0))) (eC (.int 0)))) (gItem 0 (eC (.int 2))))
  (sAsg (eFrz (eSl (eVix 0 (eC (.int 0))) (pSome (eC (.int 1))) pNone)) (gItem 0 (eC (.int 0))))) sNext)
theorem dp1_ok {gs ss : List Int} {cur cnt : Int} (m : Int) (h0 : ∀ c ∈ gs, 0 ≤ c) (hc : 0 ≤ cur) : ∃ gs' cur', dp1 (dE gs ss cur cnt m none none none) = .nx (dE gs' ss cur' cnt m none none none) ∧ (∀ c ∈ gs', 0 ≤ c) ∧ gs'.length ≤ gs.length ∧ 0 ≤ cur' := by
  let ρf : DL.Env := dF gs ss cur cnt m none none none
  have gx : e2 ixD (eVar 0) (eC (.int 2)) ρf = .ok (.int cur) ρf := rfl
  have hL : ∀ b, decide (cur ≤ 1) = b → eB (e2 lebD (e2 ixD (eVar 0) (eC (.int 2))) (eC (.int 1))) ρf = .ok b ρf := fun b hb => eB_ok (le_ok (i := cur) (j := 1) gx rfl hb)
  have hn : eBi lenD (aCons (e2 ixD (eVar 0) (eC (.int 0))) aNil) ρf = .ok (.int gs.length) ρf := eBi_ok (ds := [.lst false (gs.map .int)]) (aCons_ok (e2_ok rfl rfl rfl) rfl) (by rw [len_lst, List.length_map])
  have hG : ∀ b, decide ((0 : Int) < gs.length) = b → eB (e2 gtD (eBi lenD (aCons (e2 ixD (eVar 0) (eC (.int 0))) aNil)) (eC (.int 0))) ρf = .ok b ρf := fun b hb => eB_ok (gt_ok (i := gs.length) (j := 0) hn rfl hb)
  by_cases c : cur ≤ 1 ∧ (0 : Int) < gs.length
  · obtain ⟨g, tl, hgs⟩ : ∃ g tl, gs = g :: tl := by
      cases gs with
      | nil => exact absurd c.2 (by simp)
      | cons g tl => exact ⟨g, tl, rfl⟩
    subst hgs
    · have hg := h0 g List.mem_cons_self
      refine ⟨tl, g, ?_, fun x hx => h0 x (List.mem_cons_of_mem _ hx), by simp, hg⟩
      unfold dp1
      refine (sIf_t (tBor_ok (ρ1 := ρf) (by rw [dF_eq]; exact mAnd_t (hL true (decide_eq_true c.1)) (hG true (decide_eq_true c.2))))).trans ?_
      have v0 : ∀ cur, eVix 0 (eC (.int 0)) (dE (g :: tl) ss cur cnt m none none none) = .ok (.lst false ((g :: tl).map .int)) (dE (g :: tl) ss cur cnt m none none none) := fun cur => vix_ok (j := 0) rfl rfl rfl rfl
      have k1 : eFrz (e2 ixD (eVix 0 (eC (.int 0))) (eC (.int 0))) (dE (g :: tl) ss cur cnt m none none none) = .ok (.int g) (dE (g :: tl) ss cur cnt m none none none) := eFrz_int (DL.e2_ok (v0 cur) rfl (ix_l (n := 0) rfl))
      refine Eq.trans (seq_nx (ρ1 := dE (g :: tl) ss g cnt m none none none) (sAsg_ok k1 rfl)) ?_
      have k2 : eSl (eVix 0 (eC (.int 0))) (pSome (eC (.int 1))) pNone (dE (g :: tl) ss g cnt m none none none) = .ok (.lst true (tl.map .int)) (dE (g :: tl) ss g cnt m none none none) := by
        unfold eSl
        rw [mbind_of (v0 g), mbind_of (show pSome (eC (.int 1)) (dE (g :: tl) ss g cnt m none none none) = .ok (some ((1 : Nat) : Int)) (dE (g :: tl) ss g cnt m none none none) from rfl), mbind_of (show pNone (dE (g :: tl) ss g cnt m none none none) = .ok none (dE (g :: tl) ss g cnt m none none none) from rfl)]
        show Res.ok (D.lst true (cutD ((g :: tl).map .int) (some ((1 : Nat) : Int)) none)) _ = _
        rw [cut_from _ 1 (by simp)]
        rfl
      have k3 : eFrz (eSl (eVix 0 (eC (.int 0))) (pSome (eC (.int 1))) pNone) (dE (g :: tl) ss g cnt m none none none) = .ok (.lst false (tl.map .int)) (dE (g :: tl) ss g cnt m none none none) := (eFrz_ok k2).trans (by show Res.ok (D.lst false (frzL (tl.map .int))) _ = _; rw [frzL_ints])
      exact sAsg_ok k3 rfl
  · refine ⟨gs, cur, ?_, h0, Nat.le_refl _, hc⟩
    unfold dp1
    refine (sIf_f (G := sNext) (tBor_ok (ρ1 := ρf) (by
      rw [dF_eq]
      by_cases c1 : cur ≤ 1
      · exact mAnd_t (hL true (decide_eq_true c1)) (hG false (decide_eq_false fun z => c ⟨c1, z⟩))
      · exact mAnd_f (hL false (decide_eq_false c1))))).trans rfl
theorem draw_ok {B m : Int} {s : D} (hs : Pool B s) (hB : B < 2 ^ 40) (hm : 0 < m) (hm2 : m < 2 ^ 60) : ∃ r s', F_law_draw [s, .int m] = .ok (.int r) [some s', none] ∧ 0 ≤ r ∧ r < m ∧ Pool (B + 1) s' := by
  obtain ⟨gs, ss, cur, cnt, rfl, h0, hl, hs0, hsl, c0, n0, n1⟩ := hs
  obtain ⟨gs', cur', e1, h0', hl', c0'⟩ := dp1_ok (ss := ss) (cnt := cnt) m h0 c0
  have gx : ∀ cnt, e2 ixD (eVar 0) (eC (.int 2)) (dF gs' ss cur' cnt m none none none) = .ok (.int cur') (dF gs' ss cur' cnt m none none none) := fun cnt => rfl
  have hgt : ∀ b, decide (1 < cur') = b → tBor (eB (e2 gtD (e2 ixD (eVar 0) (eC (.int 2))) (eC (.int 1)))) (dE gs' ss cur' cnt m none none none) = .ok b (dE gs' ss cur' cnt m none none none) := fun b hb => tBor_ok (ρ1 := dF gs' ss cur' cnt m none none none) (by rw [dF_eq]; exact eB_ok (gt_ok (i := cur') (j := 1) (gx cnt) rfl hb))
  by_cases c : 1 < cur'
  · have q1 : modD (.int cur') (.int m) = some (.int (cur' % m)) := modD_ok hm
    have q2 : fdivD (.int cur') (.int m) = some (.int (cur' / m)) := fdivD_ok hm (by omega)
    refine ⟨cur' % m, S4 gs' ss (cur' / m) cnt, run_ok (b := b_law_draw) (ρ := dE gs' ss (cur' / m) cnt m none none (some (.int (cur' % m)))) (ρ0 := dE gs ss cur cnt m none none none) ?_ rfl (by simp) rfl, Int.emod_nonneg _ (by omega), Int.emod_lt_of_pos _ hm, gs', ss, cur' / m, cnt, rfl, h0', by omega, hs0, hsl, Int.ediv_nonneg c0' (by omega), n0, by omega⟩
    unfold b_law_draw
    refine Eq.trans (seq_nx e1) ?_
    refine seq_ret ((sIf_t (hgt true (decide_eq_true c))).trans ?_)
    refine Eq.trans (seq_nx (ρ1 := dE gs' ss cur' cnt m none none (some (.int (cur' % m)))) (sAsg_ok (eBor_int (ρ1 := dF gs' ss cur' cnt m none none none) (by rw [dF_eq]; exact mod_ok (int_ok (aCons_ok (gx cnt) rfl)) rfl q1)) rfl)) ?_
    refine Eq.trans (seq_nx (ρ1 := dE gs' ss (cur' / m) cnt m none none (some (.int (cur' % m)))) (sAsg_ok (eBor_int (ρ1 := dF gs' ss cur' cnt m none none (some (.int (cur' % m)))) (by rw [dF_eq]; exact fdiv_ok (show e2 ixD (eVar 0) (eC (.int 2)) (dF gs' ss cur' cnt m none none (some (.int (cur' % m)))) = .ok (.int cur') (dF gs' ss cur' cnt m none none (some (.int (cur' % m)))) from rfl) rfl q2)) rfl)) ?_
    exact sRet_ok (ev_ rfl rfl)
  · let N := cnt + 1
    have cellE : ∃ cell : Int, 0 ≤ cell ∧ cell < 2 ^ 20 ∧ (sIf (tBor (eB (e2 gtD (eBi lenD (aCons (e2 ixD (eVar 0) (eC (.int 1))) aNil)) (eC (.int 0))))) (sAsg (eFrz (e2 ixD (eVix 0 (eC (.int 1))) (eBor (e2 modD (eBi intD (aCons (e2 ixD (eVar 0) (eC (.int 3))) aNil)) (eBi lenD (aCons (e2 ixD (eVar 0) (eC (.int 1))) aNil)))))) (gSet 2)) sNext) (dE gs' ss cur' (cnt + 1) m (some (.int 0)) none none) = .nx (dE gs' ss cur' (cnt + 1) m (some (.int cell)) none none) := by
      let ρf : DL.Env := dF gs' ss cur' (cnt + 1) m (some (.int 0)) none none
      have hn : eBi lenD (aCons (e2 ixD (eVar 0) (eC (.int 1))) aNil) ρf = .ok (.int ss.length) ρf := eBi_ok (ds := [.lst false (ss.map .int)]) (aCons_ok (e2_ok rfl rfl rfl) rfl) (by rw [len_lst, List.length_map])
      have ht : ∀ b, decide ((0 : Int) < ss.length) = b → tBor (eB (e2 gtD (eBi lenD (aCons (e2 ixD (eVar 0) (eC (.int 1))) aNil)) (eC (.int 0)))) (dE gs' ss cur' (cnt + 1) m (some (.int 0)) none none) = .ok b (dE gs' ss cur' (cnt + 1) m (some (.int 0)) none none) := fun b hb => tBor_ok (ρ1 := ρf) (by rw [dF_eq]; exact eB_ok (gt_ok (i := ss.length) (j := 0) hn rfl hb))
      by_cases q : (0 : Int) < ss.length
      · obtain ⟨j, hj⟩ : ∃ j : Nat, (cnt + 1) % (ss.length : Int) = j := ⟨((cnt + 1) % (ss.length : Int)).toNat, by have := Int.emod_nonneg (cnt + 1) (show (ss.length : Int) ≠ 0 by omega); omega⟩
        have hjl : j < ss.length := by have := Int.emod_lt_of_pos (cnt + 1) q; omega
        have hb := hs0 _ (List.getElem_mem hjl)
        have k1 : eBor (e2 modD (eBi intD (aCons (e2 ixD (eVar 0) (eC (.int 3))) aNil)) (eBi lenD (aCons (e2 ixD (eVar 0) (eC (.int 1))) aNil))) (dE gs' ss cur' (cnt + 1) m (some (.int 0)) none none) = .ok (.int j) (dE gs' ss cur' (cnt + 1) m (some (.int 0)) none none) := eBor_int (ρ1 := ρf) (by
          rw [dF_eq]
          exact mod_ok (int_ok (aCons_ok (show e2 ixD (eVar 0) (eC (.int 3)) ρf = .ok (.int (cnt + 1)) ρf from rfl) rfl)) hn (by rw [modD_ok q, hj]))
        have v1 : eVix 0 (eC (.int 1)) (dE gs' ss cur' (cnt + 1) m (some (.int 0)) none none) = .ok (.lst false (ss.map .int)) (dE gs' ss cur' (cnt + 1) m (some (.int 0)) none none) := vix_ok (j := 1) rfl rfl rfl rfl
        refine ⟨ss[j], hb.1, hb.2, (sIf_t (ht true (decide_eq_true q))).trans (sAsg_ok (eFrz_int (DL.e2_ok v1 k1 (ix_l (by rw [List.getElem?_map, List.getElem?_eq_getElem hjl]; rfl)))) rfl)⟩
      · exact ⟨0, by omega, by omega, (sIf_f (G := sNext) (ht false (decide_eq_false q))).trans rfl⟩
    obtain ⟨cell, ce0, ce1, ecell⟩ := cellE
    have h1 : mulD (.int 7919) (.int (cnt + 1)) = some (.int (7919 * (cnt + 1))) := mulD_ok2 (by omega) (by omega)
    have h2 : mulD (.int (cell + 7919 * (cnt + 1) + 1)) (.int 48271) = some (.int ((cell + 7919 * (cnt + 1) + 1) * 48271)) := mulD_ok2 (by omega) (by omega)
    obtain ⟨x, hx⟩ : ∃ x, x = (cell + 7919 * (cnt + 1) + 1) * 48271 % 2147483647 := ⟨_, rfl⟩
    have hx2 : 0 ≤ x ∧ x < 2147483647 := by subst hx; exact ⟨Int.emod_nonneg _ (by omega), Int.emod_lt_of_pos _ (by omega)⟩
    have q1 : modD (.int ((cell + 7919 * (cnt + 1) + 1) * 48271)) (.int 2147483647) = some (.int x) := by rw [hx]; exact modD_ok (by omega)
    have g1 : fdivD (.int x) (.int 1009) = some (.int (x / 1009)) := fdivD_ok (by omega) (by omega)
    have h3 : mulD (.int x) (.int (x / 1009 + 69621)) = some (.int (x * (x / 1009 + 69621))) := mulD_ok2 (by omega) (by omega)
    obtain ⟨y, hy⟩ : ∃ y, y = x * (x / 1009 + 69621) % 2147483647 := ⟨_, rfl⟩
    have hy2 : 0 ≤ y ∧ y < 2147483647 := by subst hy; exact ⟨Int.emod_nonneg _ (by omega), Int.emod_lt_of_pos _ (by omega)⟩
    have q2 : modD (.int (x * (x / 1009 + 69621))) (.int 2147483647) = some (.int y) := by rw [hy]; exact modD_ok (by omega)
    have g2 : fdivD (.int y) (.int 2003) = some (.int (y / 2003)) := fdivD_ok (by omega) (by omega)
    have h4 : mulD (.int y) (.int (y / 2003 + 40692)) = some (.int (y * (y / 2003 + 40692))) := mulD_ok2 (by omega) (by omega)
    obtain ⟨z, hz⟩ : ∃ z, z = y * (y / 2003 + 40692) % 2147483399 := ⟨_, rfl⟩
    have q3 : modD (.int (y * (y / 2003 + 40692))) (.int 2147483399) = some (.int z) := by rw [hz]; exact modD_ok (by omega)
    have g3 : fdivD (.int z) (.int 16) = some (.int (z / 16)) := fdivD_ok (by omega) (by omega)
    have q4 : modD (.int (z / 16)) (.int m) = some (.int (z / 16 % m)) := modD_ok hm
    refine ⟨z / 16 % m, S4 gs' ss cur' (cnt + 1), run_ok (b := b_law_draw) (ρ := dE gs' ss cur' (cnt + 1) m (some (.int cell)) (some (.int z)) none) (ρ0 := dE gs ss cur cnt m none none none) ?_ rfl (by simp) rfl, Int.emod_nonneg _ (by omega), Int.emod_lt_of_pos _ hm, gs', ss, cur', cnt + 1, rfl, h0', by omega, hs0, hsl, c0', by omega, by omega⟩
    unfold b_law_draw
    refine Eq.trans (seq_nx e1) ?_
    refine Eq.trans (seq_nx (ρ1 := dE gs' ss cur' cnt m none none none) ((sIf_f (G := sNext) (hgt false (decide_eq_false c))).trans rfl)) ?_
    refine Eq.trans (seq_nx (ρ1 := dE gs' ss cur' (cnt + 1) m none none none) (sAsg_ok (eFrz_int (eBor_int (ρ1 := dF gs' ss cur' cnt m none none none) (by rw [dF_eq]; exact add_ok (show e2 ixD (eVar 0) (eC (.int 3)) (dF gs' ss cur' cnt m none none none) = .ok (.int cnt) (dF gs' ss cur' cnt m none none none) from rfl) rfl))) rfl)) ?_
    refine Eq.trans (seq_nx (ρ1 := dE gs' ss cur' (cnt + 1) m (some (.int 0)) none none) (sAsg_ok (show eC (.int 0) (dE gs' ss cur' (cnt + 1) m none none none) = .ok (.int 0) (dE gs' ss cur' (cnt + 1) m none none none) from rfl) rfl)) ?_
    refine Eq.trans (seq_nx ecell) ?_
    refine Eq.trans (seq_nx (ρ1 := dE gs' ss cur' (cnt + 1) m (some (.int cell)) (some (.int x)) none) (sAsg_ok (eBor_int (ρ1 := dF gs' ss cur' (cnt + 1) m (some (.int cell)) none none) (by
      rw [dF_eq]
      have v2 : eVar 2 (dF gs' ss cur' (cnt + 1) m (some (.int cell)) none none) = .ok (.int cell) (dF gs' ss cur' (cnt + 1) m (some (.int cell)) none none) := rfl
      have i3 : e2 ixD (eVar 0) (eC (.int 3)) (dF gs' ss cur' (cnt + 1) m (some (.int cell)) none none) = .ok (.int (cnt + 1)) (dF gs' ss cur' (cnt + 1) m (some (.int cell)) none none) := rfl
      exact mod_ok (int_ok (aCons_ok (mul_ok (add_ok (add_ok v2 (mul_ok (i := 7919) rfl i3 h1)) rfl) rfl h2) rfl)) rfl q1)) rfl)) ?_
    refine Eq.trans (seq_nx (ρ1 := dE gs' ss cur' (cnt + 1) m (some (.int cell)) (some (.int y)) none) (sAsg_ok (mod_ok (int_ok (aCons_ok (mul_ok (ev_ rfl rfl) (add_ok (fdiv_ok (ev_ rfl rfl) rfl g1) rfl) h3) rfl)) rfl q2) rfl)) ?_
    refine Eq.trans (seq_nx (ρ1 := dE gs' ss cur' (cnt + 1) m (some (.int cell)) (some (.int z)) none) (sAsg_ok (mod_ok (int_ok (aCons_ok (mul_ok (ev_ rfl rfl) (add_ok (fdiv_ok (ev_ rfl rfl) rfl g2) rfl) h4) rfl)) rfl q3) rfl)) ?_
    exact sRet_ok (mod_ok (int_ok (aCons_ok (fdiv_ok (ev_ rfl rfl) rfl g3) rfl)) (ev_ rfl rfl) q4)
theorem drw {B m : Int} {s : D} {i : Nat} {ρ : DL.Env} {f : M D} (hs : Pool B s) (hi : ρ[i]? = some (some s)) (hf : f (ρ.set i none) = .ok (.int m) (ρ.set i none)) (hB : B < 2 ^ 40) (hm : 0 < m) (hm2 : m < 2 ^ 60) : ∃ r s', eCall F_law_draw (aCons (eMove i) (aCons f aNil)) [] [(0, i)] ρ = .ok (.int r) (ρ.set i (some s')) ∧ 0 ≤ r ∧ r < m ∧ Pool (B + 1) s' := by
  obtain ⟨r, s', e, h⟩ := draw_ok hs hB hm hm2
  have hmv : eMove i ρ = .ok s (ρ.set i none) := by unfold eMove; rw [hi]
  exact ⟨r, s', eCall_of (aCons_ok hmv (aCons_ok hf rfl)) rfl e (by show (ρ.set i none).set i (some s') = _; rw [List.set_set]), h⟩
/-- one of a list of ints -/
theorem pick_ok {B : Int} {s : D} {ls : List Int} (hs : Pool B s) (hB : B < 2 ^ 40) (h1 : 1 ≤ ls.length) (h2 : ls.length ≤ 1000) : ∃ r s', F_law_pick [s, .lst false (ls.map .int)] = .ok (.int r) [some s', none] ∧ r ∈ ls ∧ Pool (B + 1) s' := by
  obtain ⟨k, s', e, k0, k1, h⟩ := drw (ρ := [some s, some (.lst false (ls.map .int))]) (i := 0) (f := eBi lenD (aCons (eVar 1) aNil)) (m := ls.length) hs rfl (eBi_ok (ds := [.lst false (ls.map .int)]) (aCons_ok (ev_ rfl rfl) rfl) (by rw [len_lst, List.length_map])) hB (by omega) (by omega)
  obtain ⟨k, rfl⟩ : ∃ n : Nat, k = n := ⟨k.toNat, by omega⟩
  have hk : k < ls.length := by omega
  refine ⟨ls[k], s', run_ok (b := b_law_pick) (ρ := [some s', some (.lst false (ls.map .int))]) (ρ0 := [some s, some (.lst false (ls.map .int))]) ?_ rfl (by simp) rfl, List.getElem_mem hk, h⟩
  unfold b_law_pick
  exact sRet_ok (DL.e2_ok (ev_ rfl rfl) e (ix_l (by rw [List.getElem?_map, List.getElem?_eq_getElem hk]; rfl)))
theorem ints_of {P : Int → Prop} : ∀ {ds : List D}, (∀ d ∈ ds, ∃ i : Int, d = .int i ∧ P i) → ∃ os : List Int, ds = os.map D.int ∧ ∀ x ∈ os, P x
  | [], _ => ⟨[], rfl, fun x hx => (by cases hx)⟩
  | d :: ds, h => by
    obtain ⟨i, rfl, hi⟩ := h d List.mem_cons_self
    obtain ⟨os, rfl, ho⟩ := ints_of fun d z => h d (List.mem_cons_of_mem _ z)
    exact ⟨i :: os, rfl, fun x hx => by
      rcases List.mem_cons.mp hx with rfl | hx
      · exact hi
      · exact ho x hx⟩
theorem pool_ok {ns : List Int} (hl : ns.length ≤ 63) : ∃ s, F_law_pool [.scr ns] = .ok s [none] ∧ Pool 0 s := by
  have hp : powD (.int 10) (.int 18) = some (.int 1000000000000000000) := by kernel_rfl
  have hc : cutD (ns.map D.int) none (some 63) = ns.map D.int := by
    unfold cutD
    have e1 : HT.sIx (ns.map D.int).length 0 none = 0 := rfl
    have e2 : HT.sIx (ns.map D.int).length (ns.map D.int).length (some 63) = (ns.map D.int).length := by
      rw [List.length_map]
      simp [HT.sIx]
      omega
    rw [e1, e2, List.drop_zero, Nat.sub_zero, List.take_length]
  have hs : ∀ x1 x2, eSl (eVar 0) pNone (pSome (eC (.int 63))) ([some (.scr ns), x1, x2, none] : DL.Env) = .ok (.lst true (ns.map D.int)) [some (.scr ns), x1, x2, none] := fun x1 x2 => by
    show Res.ok (D.lst true (cutD (ns.map D.int) none (some 63))) _ = _
    rw [hc]
  have it : ∀ x1 x2, iSeq (eSl (eVar 0) pNone (pSome (eC (.int 63)))) ([some (.scr ns), x1, x2, none] : DL.Env) = .ok (ns.map D.int) [some (.scr ns), x1, x2, none] := fun x1 x2 => iSeq_ok (hs x1 x2) (by show some (frzL (ns.map D.int)) = _; rw [frzL_ints])
  have v3 : ∀ x1 x2 (c : Int), eBi absD (aCons (eVar 3) aNil) ([some (.scr ns), x1, x2, some (.int c)] : DL.Env) = .ok (.int (if c < 0 then -c else c)) [some (.scr ns), x1, x2, some (.int c)] := fun _ _ _ => rfl
  let p1 : D → Bool := fun d => match d with | .int c => decide (1000000000000000000 ≤ (if c < 0 then -c else c)) | _ => false
  let p2 : D → Bool := fun d => match d with | .int c => decide ((if c < 0 then -c else c) < 1000000000000000000) | _ => false
  let y1 : D → D := fun d => match d with | .int c => .int (if c < 0 then -c else c) | d => d
  let y2 : D → D := fun d => match d with | .int c => .int (c % 1000003) | d => d
  have z1 := lc_filter1 (i := 3) (ρ := [some (.scr ns), none, none, none]) (ρ1 := [some (.scr ns), none, none, none]) (L := 4) (tt := eB (e2 geD (eBi absD (aCons (eVar 3) aNil)) (e2 powD (eC (.int 10)) (eC (.int 18))))) (te := eBi absD (aCons (eVar 3) aNil)) (p := p1) (yf := y1) (it none none) (by rw [List.length_map]; omega) rfl rfl (by decide) (fun d hd => by
    obtain ⟨c, _, rfl⟩ := List.mem_map.mp hd
    exact eB_ok (ge_ok (v3 none none c) (DL.e2_ok rfl rfl hp) rfl)) (fun d hd _ => by
    obtain ⟨c, _, rfl⟩ := List.mem_map.mp hd
    exact v3 none none c)
  obtain ⟨gs, hgs, hg⟩ := ints_of (P := fun c => 0 ≤ c) (ds := ((ns.map D.int).filter p1).map y1) (by
    intro d hd
    obtain ⟨e, he, rfl⟩ := List.mem_map.mp hd
    obtain ⟨c, _, rfl⟩ := List.mem_map.mp (List.mem_filter.mp he).1
    exact ⟨_, rfl, by split <;> omega⟩)
  have hgl : gs.length ≤ 63 := by
    have e := congrArg List.length hgs
    rw [List.length_map, List.length_map] at e
    have := List.length_filter_le p1 (ns.map D.int)
    rw [List.length_map] at this
    omega
  rw [hgs] at z1
  have z2 := lc_filter1 (i := 3) (ρ := [some (.scr ns), some (.lst false (gs.map .int)), none, none]) (ρ1 := [some (.scr ns), some (.lst false (gs.map .int)), none, none]) (L := 4) (tt := eB (e2 ltD (eBi absD (aCons (eVar 3) aNil)) (e2 powD (eC (.int 10)) (eC (.int 18))))) (te := e2 modD (eBi intD (aCons (eVar 3) aNil)) (eC (.int 1000003))) (p := p2) (yf := y2) (it _ none) (by rw [List.length_map]; omega) rfl rfl (by decide) (fun d hd => by
    obtain ⟨c, _, rfl⟩ := List.mem_map.mp hd
    exact eB_ok (lt_ok (v3 _ none c) (DL.e2_ok rfl rfl hp) rfl)) (fun d hd _ => by
    obtain ⟨c, _, rfl⟩ := List.mem_map.mp hd
    exact mod_ok (int_ok (aCons_ok (ev_ rfl rfl) rfl)) rfl (modD_ok (by omega)))
  obtain ⟨ss, hss, hb⟩ := ints_of (P := fun c => 0 ≤ c ∧ c < 2 ^ 20) (ds := ((ns.map D.int).filter p2).map y2) (by
    intro d hd
    obtain ⟨e, he, rfl⟩ := List.mem_map.mp hd
    obtain ⟨c, _, rfl⟩ := List.mem_map.mp (List.mem_filter.mp he).1
    exact ⟨_, rfl, Int.emod_nonneg _ (by omega), by have := Int.emod_lt_of_pos c (show (0 : Int) < 1000003 by omega); omega⟩)
  have hsl : ss.length ≤ 63 := by
    have e := congrArg List.length hss
    rw [List.length_map, List.length_map] at e
    have := List.length_filter_le p2 (ns.map D.int)
    rw [List.length_map] at this
    omega
  rw [hss] at z2
  refine ⟨S4 gs ss 0 0, run_ok (b := b_law_pool) (ρ := [some (.scr ns), some (.lst false (gs.map .int)), some (.lst false (ss.map .int)), none]) (ρ0 := [some (.scr ns), none, none, none]) ?_ rfl (by simp) rfl, gs, ss, 0, 0, rfl, hg, hgl, hb, hsl, by omega, by omega, by omega⟩
  unfold b_law_pool
  refine Eq.trans (seq_nx (ρ1 := [some (.scr ns), some (.lst false (gs.map .int)), none, none]) (sAsg_ok ((eFrz_ok z1).trans (by show Res.ok (D.lst false (frzL (gs.map .int))) _ = _; rw [frzL_ints])) rfl)) ?_
  refine Eq.trans (seq_nx (ρ1 := [some (.scr ns), some (.lst false (gs.map .int)), some (.lst false (ss.map .int)), none]) (sAsg_ok ((eFrz_ok z2).trans (by show Res.ok (D.lst false (frzL (ss.map .int))) _ = _; rw [frzL_ints])) rfl)) ?_
  exact sRet_ok (eLst_ok (ds := [.lst false (gs.map .int), .lst false (ss.map .int), .int 0, .int 0]) (aCons_ok (ev_ rfl rfl) (aCons_ok (ev_ rfl rfl) (aCons_ok rfl (aCons_ok rfl rfl)))) (by simp))
end Lk63

set_option Elab.async false
set_option linter.all false
set_option maxRecDepth 100000
set_option maxHeartbeats 1000000
namespace Lk63
open PySem PySem.Spec L2 DL
abbrev T (l : List Int) : D := .tup (l.map .int)
theorem isint_ok (i : Int) : F_is_integer [.int i] = .ok (.bl true) [none] := by kernel_rfl
theorem within_ok (i a b : Int) : F_is_within [.int i, .int a, .int b] = .ok (.bl (decide (a ≤ i ∧ i ≤ b))) [none, none, none] := by
  have v0 : eVar 0 [some (.int i), some (.int a), some (.int b)] = .ok (.int i) [some (.int i), some (.int a), some (.int b)] := rfl
  have v1 : eVar 1 [some (.int i), some (.int a), some (.int b)] = .ok (.int a) [some (.int i), some (.int a), some (.int b)] := rfl
  have v2 : eVar 2 [some (.int i), some (.int a), some (.int b)] = .ok (.int b) [some (.int i), some (.int a), some (.int b)] := rfl
  have hc : eCall F_is_integer (aCons (eVar 0) aNil) [] [] [some (.int i), some (.int a), some (.int b)] = .ok (.bl true) [some (.int i), some (.int a), some (.int b)] := eCall_of (aCons_ok v0 rfl) rfl (isint_ok i) rfl
  refine run_ok (b := b_is_within) (ρ := [some (.int i), some (.int a), some (.int b)]) (ρ0 := [some (.int i), some (.int a), some (.int b)]) ?_ rfl (by simp) rfl
  unfold b_is_within
  exact sRet_ok (eAnd_t hc (chain_ok (l := 0) v1 v0 v2 rfl rfl))
theorem mem_T {l : List Int} {d : D} (h : d ∈ l.map D.int) : ∃ i, i ∈ l ∧ d = .int i := by
  obtain ⟨i, h1, h2⟩ := List.mem_map.mp h
  exact ⟨i, h1, h2.symm⟩
theorem prod_le : ∀ (l : List Int) (a : Int), (∀ x ∈ l, 1 ≤ x) → 0 ≤ a → a ≤ l.foldl (· * ·) a
  | [], a, _, _ => Int.le_refl a
  | x :: l, a, h, ha => by
    have hx := h x List.mem_cons_self
    have h1 : a ≤ a * x := by
      have := Int.mul_le_mul_of_nonneg_left hx ha
      omega
    exact Int.le_trans h1 (prod_le l (a * x) (fun y hy => h y (List.mem_cons_of_mem _ hy)) (Int.le_trans ha h1))
/-- size_of -/
theorem size_loop (c : D) : ∀ (l : List Int) (a : Int) (x : Option D), (∀ x ∈ l, 1 ≤ x ∧ x ≤ 4) → 1 ≤ a → l.foldl (· * ·) a ≤ 2 ^ 40 →
    ∃ y, forGo (gSet 2) (sAug 1 mulI (eVar 2)) (l.map D.int) [some c, some (.int a), x] = .nx [some c, some (.int (l.foldl (· * ·) a)), y]
  | [], a, x, _, _, _ => ⟨x, rfl⟩
  | s :: l, a, x, h, ha, hb => by
    have hs := h s List.mem_cons_self
    have h1 : a ≤ a * s := by
      have := Int.mul_le_mul_of_nonneg_left hs.1 (show (0:Int) ≤ a by omega)
      omega
    have h2 : a * s ≤ 2 ^ 40 := Int.le_trans (prod_le l (a * s) (fun y hy => (h y (List.mem_cons_of_mem _ hy)).1) (by omega)) hb
    obtain ⟨y, ih⟩ := size_loop c l (a * s) (some (.int s)) (fun y hy => h y (List.mem_cons_of_mem _ hy)) (by omega) hb
    refine ⟨y, ?_⟩
    have hm : mulI (.int a) (.int s) = some (.int (a * s)) := by
      have hx : CMulX a s := mulx_ok (a := 80) (b := 80) (by omega) (by omega) (by decide)
      simp [mulI, ii, hx]
    have hb1 : sAug 1 mulI (eVar 2) [some c, some (.int a), some (.int s)] = .nx [some c, some (.int (a * s)), some (.int s)] := by
      unfold sAug
      show sE (eVar 2) _ _ = _
      rw [sE_of (show eVar 2 [some c, some (.int a), some (.int s)] = .ok (.int s) [some c, some (.int a), some (.int s)] from rfl), hm]
      rfl
    show forGo (gSet 2) (sAug 1 mulI (eVar 2)) (.int s :: l.map D.int) _ = _
    unfold forGo
    show (match sAug 1 mulI (eVar 2) [some c, some (.int a), some (.int s)] with | .nx ρ' => forGo (gSet 2) (sAug 1 mulI (eVar 2)) (l.map D.int) ρ' | .cnt ρ' => forGo (gSet 2) (sAug 1 mulI (eVar 2)) (l.map D.int) ρ' | .brk ρ' => .nx ρ' | r => r) = _
    rw [hb1]
    exact ih
theorem size_ok {l : List Int} (h : ∀ x ∈ l, 1 ≤ x ∧ x ≤ 4) (hb : l.foldl (· * ·) 1 ≤ 2 ^ 40) : F_size_of [T l] = .ok (.int (l.foldl (· * ·) 1)) [none] := by
  obtain ⟨y, e⟩ := size_loop (T l) l 1 none h (by omega) hb
  refine run_ok (b := b_size_of) (ρ := [some (T l), some (.int (l.foldl (· * ·) 1)), y]) (ρ0 := [some (T l), none, none]) ?_ rfl (by simp) rfl
  unfold b_size_of
  refine Eq.trans (seq_nx (ρ1 := [some (T l), some (.int 1), none]) (by exact sAsg_ok rfl rfl)) ?_
  refine Eq.trans (seq_nx (ρ1 := [some (T l), some (.int (l.foldl (· * ·) 1)), y]) ?_) ?_
  · unfold sFor
    rw [sE_of (iSeq_ok (ds := l.map D.int) (show eVar 0 [some (T l), some (.int 1), none] = .ok (T l) [some (T l), some (.int 1), none] from rfl) rfl)]
    exact e
  · exact sRet_ok rfl
/-- the slips of a number, the last member's first -/
def slipsR : List Int → Int → List Int
  | [], _ => []
  | s :: r, n => n % s :: slipsR r (n / s)
theorem slipsR_len : ∀ (r : List Int) (n : Int), (slipsR r n).length = r.length
  | [], _ => rfl
  | s :: r, n => by show (slipsR r (n / s)).length + 1 = _; rw [slipsR_len r]; rfl
theorem slips_loop (c : D) : ∀ (r : List Int) (n : Int) (acc : List Int) (x : Option D), (∀ s ∈ r, 1 ≤ s ∧ s ≤ 4) → acc.length + r.length ≤ 1000 →
    ∃ n' y, forGo (gSet 3) (sSeq (sDrop (eApp 2 (e2 modD (eVar 1) (eVar 3)))) (sAsg (e2 fdivD (eVar 1) (eVar 3)) (gSet 1))) (r.map D.int) [some c, some (.int n), some (.lst true (acc.map D.int)), x] = .nx [some c, some (.int n'), some (.lst true ((acc ++ slipsR r n).map D.int)), y]
  | [], n, acc, x, _, _ => ⟨n, x, by rw [show slipsR [] n = [] from rfl, List.append_nil]; rfl⟩
  | s :: r, n, acc, x, h, hb => by
    have hs := h s List.mem_cons_self
    obtain ⟨n', y, ih⟩ := slips_loop c r (n / s) (acc ++ [n % s]) (some (.int s)) (fun y hy => h y (List.mem_cons_of_mem _ hy)) (by simp at hb ⊢; omega)
    refine ⟨n', y, ?_⟩
    have m1 : modD (.int n) (.int s) = some (.int (n % s)) := modD_ok (by omega)
    have m2 : fdivD (.int n) (.int s) = some (.int (n / s)) := fdivD_ok (by omega) (by omega)
    have hm : e2 modD (eVar 1) (eVar 3) [some c, some (.int n), some (.lst true (acc.map D.int)), some (.int s)] = .ok (.int (n % s)) [some c, some (.int n), some (.lst true (acc.map D.int)), some (.int s)] := mod_ok (i := n) (j := s) rfl rfl m1
    have ha : eApp 2 (e2 modD (eVar 1) (eVar 3)) [some c, some (.int n), some (.lst true (acc.map D.int)), some (.int s)] = .ok .non [some c, some (.int n), some (.lst true ((acc ++ [n % s]).map D.int)), some (.int s)] := by
      unfold eApp
      show mbind (e2 modD (eVar 1) (eVar 3)) _ _ = _
      rw [mbind_of hm]
      show (if (acc.map D.int).length < sizeLine then Res.ok D.non [some c, some (.int n), some (.lst true (acc.map D.int ++ [.int (n % s)])), some (.int s)] else .stuck) = _
      rw [if_pos (by rw [List.length_map, sizeLine_eq]; simp at hb; omega), List.map_append]
      rfl
    have hd : e2 fdivD (eVar 1) (eVar 3) [some c, some (.int n), some (.lst true ((acc ++ [n % s]).map D.int)), some (.int s)] = .ok (.int (n / s)) [some c, some (.int n), some (.lst true ((acc ++ [n % s]).map D.int)), some (.int s)] := fdiv_ok (i := n) (j := s) rfl rfl m2
    have hbdy : (sSeq (sDrop (eApp 2 (e2 modD (eVar 1) (eVar 3)))) (sAsg (e2 fdivD (eVar 1) (eVar 3)) (gSet 1))) [some c, some (.int n), some (.lst true (acc.map D.int)), some (.int s)] = .nx [some c, some (.int (n / s)), some (.lst true ((acc ++ [n % s]).map D.int)), some (.int s)] :=
      (seq_nx (sDrop_ok ha)).trans (sAsg_ok hd rfl)
    have e1 : acc ++ slipsR (s :: r) n = (acc ++ [n % s]) ++ slipsR r (n / s) := by
      show acc ++ (n % s :: slipsR r (n / s)) = _
      rw [List.append_assoc]
      rfl
    rw [e1]
    show forGo (gSet 3) _ (.int s :: r.map D.int) _ = _
    unfold forGo
    show (match (sSeq (sDrop (eApp 2 (e2 modD (eVar 1) (eVar 3)))) (sAsg (e2 fdivD (eVar 1) (eVar 3)) (gSet 1))) [some c, some (.int n), some (.lst true (acc.map D.int)), some (.int s)] with | .nx ρ' => forGo (gSet 3) _ (r.map D.int) ρ' | .cnt ρ' => forGo (gSet 3) _ (r.map D.int) ρ' | .brk ρ' => .nx ρ' | r => r) = _
    rw [hbdy]
    exact ih
theorem slips_ok {l : List Int} (h : ∀ x ∈ l, 1 ≤ x ∧ x ≤ 4) (hl : l.length ≤ 8) (n : Int) : F_slips_of [T l, .int n] = .ok (T (slipsR l.reverse n).reverse) [none, none] := by
  obtain ⟨n', y, e⟩ := slips_loop (T l) l.reverse n [] none (fun x hx => h x (List.mem_reverse.mp hx)) (by simp; omega)
  rw [List.nil_append] at e
  refine run_ok (b := b_slips_of) (ρ := [some (T l), some (.int n'), some (.lst false ((slipsR l.reverse n).map D.int)), y]) (ρ0 := [some (T l), some (.int n), none, none]) ?_ rfl (by simp) rfl
  unfold b_slips_of
  refine Eq.trans (seq_nx (ρ1 := [some (T l), some (.int n), some (.lst true []), none]) (by exact sAsg_ok (d := .lst true []) (eLst_ok rfl (by simp)) rfl)) ?_
  refine Eq.trans (seq_nx (ρ1 := [some (T l), some (.int n'), some (.lst true ((slipsR l.reverse n).map D.int)), y]) ?_) ?_
  · unfold sFor
    have hi : iRevD (eVar 0) [some (T l), some (.int n), some (.lst true []), none] = .ok (l.reverse.map D.int) [some (T l), some (.int n), some (.lst true []), none] := by
      unfold iRevD
      rw [mbind_of (show eVar 0 [some (T l), some (.int n), some (.lst true []), none] = .ok (T l) _ from rfl)]
      show Res.ok ((l.map D.int).reverse) _ = _
      rw [List.map_reverse]
    rw [sE_of hi]
    exact e
  · unfold sFrz
    have hf : frzAt 2 [some (T l), some (.int n'), some (.lst true ((slipsR l.reverse n).map D.int)), y] = [some (T l), some (.int n'), some (.lst false ((slipsR l.reverse n).map D.int)), y] := by
      show [some (T l), some (.int n'), some (.lst false (frzL ((slipsR l.reverse n).map D.int))), y] = _
      rw [frzL_ints]
    show sRet (eTupRev (eVar 2)) (frzAt 2 _) = _
    rw [hf]
    refine sRet_ok ?_
    unfold eTupRev
    rw [mbind_of (show eVar 2 [some (T l), some (.int n'), some (.lst false ((slipsR l.reverse n).map D.int)), y] = .ok (.lst false ((slipsR l.reverse n).map D.int)) _ from rfl)]
    show Res.ok (D.tup (frzL ((slipsR l.reverse n).map D.int)).reverse) _ = _
    rw [frzL_ints, ← List.map_reverse]
/-- the place of a row -/
def placeP : List Int → List Int → Int → Int
  | s :: r, c :: l, a => placeP r l (a * c + s)
  | _, _, a => a
def Row : List Int → List Int → Prop
  | [], [] => True
  | s :: r, c :: l => 0 ≤ s ∧ s < c ∧ c ≤ 4 ∧ Row r l
  | _, _ => False
/-- the number of rows -/
def NR : List Int → Nat
  | [] => 1
  | s :: m => NR m * s.toNat
theorem foldl_rev (m : List Int) : m.reverse.foldl (fun a b : Int => a * b) 1 = m.foldr (fun b a => a * b) 1 := by rw [List.foldl_reverse]
theorem NR_cast : ∀ m : List Int, (∀ x ∈ m, 1 ≤ x) → (NR m : Int) = m.foldr (fun b a => a * b) 1
  | [], _ => rfl
  | s :: m, h => by
    have hs := h s List.mem_cons_self
    show ((NR m * s.toNat : Nat) : Int) = (m.foldr (fun b a => a * b) 1) * s
    rw [Int.natCast_mul, NR_cast m (fun x hx => h x (List.mem_cons_of_mem _ hx)), Int.toNat_of_nonneg (by omega)]
def Pr (l : List Int) : Int := l.foldl (· * ·) 1
theorem NR_Pr {l : List Int} (h : ∀ x ∈ l, 1 ≤ x) : (NR l.reverse : Int) = Pr l := by
  rw [NR_cast _ (fun x hx => h x (List.mem_reverse.mp hx))]
  show _ = l.foldl (fun a b : Int => a * b) 1
  rw [← foldl_rev, List.reverse_reverse]
structure Club (l : List Int) : Prop where
  s : ∀ x ∈ l, 1 ≤ x ∧ x ≤ 4
  n1 : 1 ≤ l.length
  n8 : l.length ≤ 8
  p : Pr l ≤ 256
def N (l : List Int) : Nat := NR l.reverse
theorem Club.N {l : List Int} (c : Club l) : (Lk63.N l : Int) = Pr l := NR_Pr fun x hx => (c.s x hx).1
theorem Club.Nle {l : List Int} (c : Club l) : Lk63.N l ≤ 256 := by have := c.N; have := c.p; omega
def slips (l : List Int) (k : Int) : List Int := (slipsR l.reverse k).reverse
theorem slips_len (l : List Int) (k : Int) : (slips l k).length = l.length := by unfold slips; rw [List.length_reverse, slipsR_len, List.length_reverse]
theorem many_ok {i : Int} (h : 1 ≤ i ∧ i ≤ 8) : F_is_many [.int i] = .ok (.bl true) [none] := by
  have hw : F_is_within [.int i, .int 1, .int 8] = .ok (.bl true) [none, none, none] := (within_ok i 1 8).trans (by rw [decide_eq_true h])
  refine run_ok (b := b_is_many) (ρ := [some (.int i)]) (ρ0 := [some (.int i)]) ?_ rfl (by simp) rfl
  unfold b_is_many
  exact sRet_ok (eCall_of (aCons_ok rfl (aCons_ok rfl (aCons_ok rfl rfl))) rfl hw rfl)
theorem size_ok2 {l : List Int} (c : Club l) : F_size_of [T l] = .ok (.int (N l)) [none] := by
  rw [c.N]
  exact size_ok c.s (Int.le_trans c.p (by decide))
theorem club_ok {l : List Int} (c : Club l) : F_is_club [T l] = .ok (.bl true) [none] := by
  have hN := c.Nle
  refine run_ok (b := b_is_club) (ρ := [some (T l), none]) (ρ0 := [some (T l), none]) ?_ rfl (by simp) rfl
  unfold b_is_club
  have hm : eCall F_is_many (aCons (eBi lenD (aCons (eVar 0) aNil)) aNil) [] [] [some (T l), none] = .ok (.bl true) [some (T l), none] := eCall_of (aCons_ok (eBi_ok (aCons_ok rfl rfl) (len_TI l)) rfl) rfl (many_ok ⟨by have := c.n1; omega, by have := c.n8; omega⟩) rfl
  have ht : (mOr (mNot (eB (eInst .tuple (eVar 0)))) (mNot (eB (eCall F_is_many (aCons (eBi lenD (aCons (eVar 0) aNil)) aNil) [] [])))) [some (T l), none] = .ok false [some (T l), none] :=
    mOr_f (mNot_ok (b := true) (eB_ok (eInst_ok rfl rfl))) (mNot_ok (b := true) (eB_ok hm))
  refine Eq.trans (seq_nx (ρ1 := [some (T l), none]) (Eq.trans (sIf_f (G := sNext) ht) rfl)) ?_
  refine sRet_ok (eAnd_t (ρ1 := [some (T l), none]) ?_ ?_)
  · refine all_t (o := true) (ys := (l.map D.int).map fun _ => .bl true) (aCons_ok (lc_map1 (i := 1) (ρ1 := [some (T l), none]) (iSeq_ok rfl rfl) (by rw [List.length_map]; have := c.n8; omega) rfl rfl (by decide) ?_) rfl) ?_
    · intro d hd
      obtain ⟨i, hi, rfl⟩ := mem_T hd
      have hw : F_is_within [.int i, .int 1, .int 4] = .ok (.bl true) [none, none, none] := (within_ok i 1 4).trans (by rw [decide_eq_true (c.s i hi)])
      show eFrz _ [some (T l), some (.int i)] = .ok (.bl true) [some (T l), some (.int i)]
      exact eFrz_ok (d := .bl true) (eCall_of (ρ1 := [some (T l), some (.int i)]) (aCons_ok rfl (aCons_ok rfl (aCons_ok rfl rfl))) rfl hw rfl)
    · intro y hy
      obtain ⟨_, _, rfl⟩ := List.mem_map.mp hy
      rfl
  · exact le_ok (eCall_of (ρ1 := [some (T l), none]) (aCons_ok rfl rfl) rfl (size_ok2 c) rfl) rfl (decide_eq_true (by omega))
theorem check_ok {l : List Int} (c : Club l) : F_check_club [T l] = .ok .non [none] := by
  refine run_nx (b := b_check_club) (ρ := [some (T l)]) (ρ0 := [some (T l)]) ?_ rfl (by simp) rfl
  unfold b_check_club
  exact Eq.trans (sIf_f (G := sNext) (mNot_ok (b := true) (eB_ok (eCall_of (aCons_ok rfl rfl) rfl (club_ok c) rfl)))) rfl
theorem slips_ok2 {l : List Int} (c : Club l) (k : Int) : F_slips_of [T l, .int k] = .ok (T (slips l k)) [none, none] := slips_ok c.s c.n8 k
/-- all rows -/
def rowsL (l : List Int) : List (List Int) := (List.range (N l)).map fun k : Nat => slips l (k : Int)
theorem rowsL_len (l : List Int) : (rowsL l).length = N l := by unfold rowsL; rw [List.length_map, List.length_range]
theorem rowsL_get {l : List Int} {k : Nat} (h : k < N l) : ((rowsL l).map T)[k]? = some (T (slips l k)) := by
  unfold rowsL
  rw [List.getElem?_map, List.getElem?_map, List.getElem?_range h]
  rfl
/-! rows and their numbers -/
theorem Row_snoc : ∀ {r l : List Int} {x s : Int}, Row r l → 0 ≤ x → x < s → s ≤ 4 → Row (r ++ [x]) (l ++ [s])
  | [], [], x, s, _, h1, h2, h3 => ⟨h1, h2, h3, trivial⟩
  | [], _ :: _, _, _, h, _, _, _ => h.elim
  | _ :: _, [], _, _, h, _, _, _ => h.elim
  | a :: r, b :: l, x, s, h, h1, h2, h3 => ⟨h.1, h.2.1, h.2.2.1, Row_snoc h.2.2.2 h1 h2 h3⟩
theorem placeP_snoc : ∀ {r l : List Int} {x s a : Int}, Row r l → placeP (r ++ [x]) (l ++ [s]) a = placeP r l a * s + x
  | [], [], x, s, a, _ => rfl
  | [], _ :: _, _, _, _, h => h.elim
  | _ :: _, [], _, _, _, h => h.elim
  | p :: r, b :: l, x, s, a, h => placeP_snoc (r := r) (l := l) (a := a * b + p) h.2.2.2
theorem row_of : ∀ (m : List Int) (k : Int), (∀ x ∈ m, 1 ≤ x ∧ x ≤ 4) → 0 ≤ k → k < NR m → Row (slipsR m k).reverse m.reverse ∧ placeP (slipsR m k).reverse m.reverse 0 = k
  | [], k, _, h0, h1 => ⟨trivial, by have : NR [] = 1 := rfl; rw [this] at h1; show (0 : Int) = k; omega⟩
  | s :: m, k, h, h0, h1 => by
    have hs := h s List.mem_cons_self
    have e : NR (s :: m) = NR m * s.toNat := rfl
    rw [e, Int.natCast_mul, Int.toNat_of_nonneg (by omega)] at h1
    obtain ⟨i1, i2⟩ := row_of m (k / s) (fun x hx => h x (List.mem_cons_of_mem _ hx)) (Int.ediv_nonneg h0 (by omega)) (Int.ediv_lt_of_lt_mul (by omega) h1)
    show Row (k % s :: slipsR m (k / s)).reverse (s :: m).reverse ∧ placeP (k % s :: slipsR m (k / s)).reverse (s :: m).reverse 0 = k
    rw [List.reverse_cons, List.reverse_cons, placeP_snoc i1, i2]
    exact ⟨Row_snoc i1 (Int.emod_nonneg _ (by omega)) (Int.emod_lt_of_pos _ (by omega)) hs.2, by rw [Int.mul_comm]; exact Int.mul_ediv_add_emod k s⟩
theorem Club.row {l : List Int} (c : Club l) {k : Nat} (h : k < Lk63.N l) : Row (slips l k) l ∧ placeP (slips l k) l 0 = k := by
  have z := row_of l.reverse k (fun x hx => c.s x (List.mem_reverse.mp hx)) (by omega) (by have : Lk63.N l = NR l.reverse := rfl; omega)
  rw [List.reverse_reverse] at z
  exact z
theorem Row.len : ∀ {r l : List Int}, Row r l → r.length = l.length
  | [], [], _ => rfl
  | [], _ :: _, h => h.elim
  | _ :: _, [], h => h.elim
  | _ :: r, _ :: l, h => by rw [List.length_cons, List.length_cons, Row.len h.2.2.2]
/-- the places at which two lists are unlike -/
def apart (n : Nat) (a b : List Int) : List Int := ((List.range n).filter fun k => !decide (a.getD k 0 = b.getD k 0)).map fun k : Nat => (k : Int)
def pap (a b : List Int) : D → Bool
  | .int k => !decide (a.getD k.toNat 0 = b.getD k.toNat 0)
  | _ => false
theorem apart_eq (n : Nat) (a b : List Int) : ((rgD 0 (n : Int)).filter (pap a b)).map (fun d => d) = (apart n a b).map D.int := by
  rw [rgD_0, List.map_id', List.filter_map]
  unfold apart
  rw [List.map_map]
  rfl
theorem apart_self (n : Nat) (a : List Int) : apart n a a = [] := by
  unfold apart
  rw [List.filter_eq_nil_iff.mpr (by simp)]
  rfl
theorem apart_comm (n : Nat) (a b : List Int) : apart n a b = apart n b a := by
  unfold apart
  congr 2
  funext k
  rw [decide_eq_decide.mpr ⟨Eq.symm, Eq.symm⟩]
theorem apart_len (n : Nat) (a b : List Int) : (apart n a b).length ≤ n := by
  unfold apart
  rw [List.length_map]
  exact Nat.le_trans (List.length_filter_le _ _) (Nat.le_of_eq List.length_range)
theorem tup_ints {o : Bool} {g : M (List D)} {ρ ρ1 : DL.Env} {l : List Int} (h : g ρ = .ok [.lst o (l.map D.int)] ρ1) : eBi tupleD g ρ = .ok (T l) ρ1 := eBi_ok h (by
  show some (D.tup (frzL (l.map D.int))) = _
  rw [frzL_ints])
end Lk63

set_option Elab.async false
set_option linter.all false
set_option maxRecDepth 100000
set_option maxHeartbeats 2000000
namespace Lk63
open PySem PySem.Spec L2 DL
theorem ev {ρ : DL.Env} {i : Nat} {d : D} (h : ρ[i]? = some (some d)) (hf : fro d = true) : eVar i ρ = .ok d ρ := by
  unfold eVar; rw [h]; simp only [hf, if_true]
theorem add_tup {xs ys : List D} (h : xs.length + ys.length ≤ 100000) : addD (.tup xs) (.tup ys) = some (.tup (xs ++ ys)) := by
  show (if xs.length + ys.length ≤ sizeLine then some (D.tup (xs ++ ys)) else none) = _
  rw [if_pos (Nat.le_trans h (by rw [sizeLine_eq]; decide))]
abbrev LL (ls : List (List Int)) : List D := ls.map T
theorem go_find {I : DL.Env → Prop} {c : D → Option D} {g : D → DL.Env → Option DL.Env} {b : SF} : ∀ (ds : List D) (ρ : DL.Env), I ρ → (∀ d ∈ ds, ∀ ρ, I ρ → ∃ ρ1, g d ρ = some ρ1 ∧ (c d = none → ∃ ρ2, b ρ1 = .nx ρ2 ∧ I ρ2) ∧ (∀ x, c d = some x → ∃ ρ2, b ρ1 = .ret x ρ2 ∧ I ρ2)) →
    (ds.findSome? c = none → ∃ ρ', forGo g b ds ρ = .nx ρ' ∧ I ρ') ∧ (∀ x, ds.findSome? c = some x → ∃ ρ', forGo g b ds ρ = .ret x ρ' ∧ I ρ')
  | [], ρ, hI, _ => ⟨fun _ => ⟨ρ, rfl, hI⟩, fun x z => (by cases z)⟩
  | d :: ds, ρ, hI, h => by
    obtain ⟨ρ1, e1, h1, h2⟩ := h d List.mem_cons_self ρ hI
    cases hc : c d with
    | none =>
      obtain ⟨ρ2, e2, hI2⟩ := h1 hc
      have ih := go_find ds ρ2 hI2 fun d hd => h d (List.mem_cons_of_mem _ hd)
      rw [List.findSome?_cons_of_isNone (by rw [hc]; rfl), forGo_cons e1 e2]
      exact ih
    | some y =>
      obtain ⟨ρ2, e2, hI2⟩ := h2 y hc
      rw [List.findSome?_cons_of_isSome (by rw [hc]; rfl), hc]
      refine ⟨fun z => (by cases z), fun x z => ⟨ρ2, ?_, hI2⟩⟩
      cases z
      unfold forGo
      simp only [e1, e2]
/-! all rows, by the law -/
def step (rs : List (List Int)) (s : Int) : List (List Int) := rs.flatMap fun r => (List.range s.toNat).map fun i : Nat => r ++ [(i : Int)]
theorem step_cons (r : List Int) (rs : List (List Int)) (s : Int) : step (r :: rs) s = ((List.range s.toNat).map fun i : Nat => r ++ [(i : Int)]) ++ step rs s := rfl
theorem step_len : ∀ (rs : List (List Int)) (s : Int), (step rs s).length = rs.length * s.toNat
  | [], s => by simp [step]
  | r :: rs, s => by rw [step_cons, List.length_append, step_len rs s, List.length_map, List.length_range, List.length_cons, Nat.succ_mul, Nat.add_comm]
theorem ext_ok {ρ ρ1 : DL.Env} {f : M D} {i : Nat} {ds es : List D} {o : Bool} (h0 : ∃ es, ρ[i]? = some (some (.lst true es))) (h1 : f ρ = .ok (.lst o es) ρ1) (h2 : ρ1[i]? = some (some (.lst true ds))) (hl : ds.length + es.length ≤ 1000000) : eExt i f ρ = .ok .non (ρ1.set i (some (.lst true (ds ++ es)))) := by
  obtain ⟨es', e⟩ := h0
  unfold eExt
  rw [e]
  show mbind f _ ρ = _
  rw [mbind_of h1]
  simp only [h2]
  rw [if_pos hl]
def rowB : SF := (sDrop (eExt 3 (eLcL 6 (iRg1 (aCons (eVar 2) aNil)) (gSet 5) mYes (eFrz (e2 addD (eVar 4) (eTup (aCons (eVar 5) aNil)))) [5])))
def sucY (r : List Int) : D → D
  | .int i => T (r ++ [i])
  | d => d
theorem rowB_ok (c f : Option D) {s : Int} (hs : 1 ≤ s ∧ s ≤ 4) (acc : List (List Int)) (r : List Int) (hr : r.length ≤ 100) (ha : acc.length ≤ 1000) : rowB [c, f, some (.int s), some (.lst true (LL acc)), some (T r), none] = .nx [c, f, some (.int s), some (.lst true (LL (acc ++ (List.range s.toNat).map fun i : Nat => r ++ [(i : Int)]))), some (T r), none] := by
  let ρ : DL.Env := [c, f, some (.int s), some (.lst true (LL acc)), some (T r), none]
  have hi : iRg1 (aCons (eVar 2) aNil) ρ = .ok (rgD 0 s) ρ := iRg1_ok (n := s) (aCons_ok rfl rfl) (by omega)
  have hlc : eLcL 6 (iRg1 (aCons (eVar 2) aNil)) (gSet 5) mYes (eFrz (e2 addD (eVar 4) (eTup (aCons (eVar 5) aNil)))) [5] ρ = .ok (.lst true ((rgD 0 s).map (sucY r))) ρ := by
    refine lc_map1 (i := 5) (ρ1 := ρ) hi (by rw [rgD_len]; omega) rfl rfl (by decide) ?_
    intro d hd
    obtain ⟨i, rfl, _, _⟩ := rgD_mem hd
    let ρd : DL.Env := [c, f, some (.int s), some (.lst true (LL acc)), some (T r), some (.int i)]
    show eFrz _ ρd = .ok (T (r ++ [i])) ρd
    have h1 : eTup (aCons (eVar 5) aNil) ρd = .ok (.tup [.int i]) ρd := eTup_ok (ds := [.int i]) (aCons_ok (ev rfl rfl) rfl) (by simp)
    have h2 : e2 addD (eVar 4) (eTup (aCons (eVar 5) aNil)) ρd = .ok (T (r ++ [i])) ρd := by
      refine DL.e2_ok (ev rfl rfl) h1 ((add_tup (by rw [List.length_map, List.length_singleton]; omega)).trans ?_)
      show _ = some (D.tup ((r ++ [i]).map D.int))
      rw [List.map_append]
      rfl
    exact eFrz_ok h2
  have em : (rgD 0 s).map (sucY r) = LL ((List.range s.toNat).map fun i : Nat => r ++ [(i : Int)]) := by
    obtain ⟨n, rfl⟩ : ∃ n : Nat, s = n := ⟨s.toNat, by omega⟩
    rw [rgD_0, Int.toNat_natCast]
    unfold LL
    rw [List.map_map, List.map_map]
    rfl
  rw [em] at hlc
  have := ext_ok (i := 3) (ds := LL acc) ⟨_, rfl⟩ hlc rfl (by simp; omega)
  refine (sDrop_ok this).trans ?_
  show RS.nx [c, f, some (.int s), some (.lst true (LL acc ++ LL _)), some (T r), none] = _
  unfold LL
  rw [List.map_append]
theorem row_loop (c f : Option D) (s : Int) (hs : 1 ≤ s ∧ s ≤ 4) : ∀ (rs acc : List (List Int)) (x4 : Option D), (∀ r ∈ rs, r.length ≤ 100) → acc.length + rs.length * s.toNat ≤ 1000 →
    ∃ y4, forGo (gSet 4) rowB (LL rs) [c, f, some (.int s), some (.lst true (LL acc)), x4, none] = .nx [c, f, some (.int s), some (.lst true (LL (acc ++ step rs s))), y4, none]
  | [], acc, x4, _, _ => ⟨x4, by rw [show step [] s = [] from rfl, List.append_nil]; rfl⟩
  | r :: rs, acc, x4, hr, hb => by
    have hb' : acc.length + (rs.length * s.toNat + s.toNat) ≤ 1000 := by rw [List.length_cons, Nat.succ_mul] at hb; exact hb
    obtain ⟨y4, ih⟩ := row_loop c f s hs rs (acc ++ ((List.range s.toNat).map fun i : Nat => r ++ [(i : Int)])) (some (T r)) (fun r hx => hr r (List.mem_cons_of_mem _ hx)) (by rw [List.length_append, List.length_map, List.length_range]; omega)
    refine ⟨y4, ?_⟩
    have hb2 := rowB_ok c f hs acc r (hr r List.mem_cons_self) (by omega)
    show forGo (gSet 4) rowB (T r :: LL rs) _ = _
    rw [forGo_cons rfl hb2, ih, step_cons, List.append_assoc]
def sortB : SF := sSeq (sAsg (eLst aNil) (gSet 3)) (sSeq (sFor (iSeq (eVar 1)) (gSet 4) rowB) (sAsg (eFrz (eMove 3)) (gSet 1)))
theorem step_rlen {rs : List (List Int)} {s : Int} {n : Nat} (h : ∀ r ∈ rs, r.length ≤ n) : ∀ r ∈ step rs s, r.length ≤ n + 1 := by
  intro r hr
  obtain ⟨q, hq, hr⟩ := List.mem_flatMap.mp hr
  obtain ⟨i, _, rfl⟩ := List.mem_map.mp hr
  have := h q hq
  rw [List.length_append]
  exact Nat.succ_le_succ this
theorem sort_loop (c : Option D) : ∀ (m : List Int) (rs : List (List Int)) (n : Nat) (x2 x4 : Option D), (∀ x ∈ m, 1 ≤ x ∧ x ≤ 4) → (∀ r ∈ rs, r.length ≤ n) → n + m.length ≤ 50 → m.foldl (· * ·) (rs.length : Int) ≤ 256 →
    ∃ y2 y4, forGo (gSet 2) sortB (m.map D.int) [c, some (.lst false (LL rs)), x2, none, x4, none] = .nx [c, some (.lst false (LL (m.foldl step rs))), y2, none, y4, none]
  | [], rs, n, x2, x4, _, _, _, _ => ⟨x2, x4, rfl⟩
  | s :: m, rs, n, x2, x4, h, hr, hn, hb => by
    have hs := h s List.mem_cons_self
    have hm := fun x hx => h x (List.mem_cons_of_mem s hx)
    have hn' : n + m.length + 1 ≤ 50 := hn
    have el : ((step rs s).length : Int) = rs.length * s := by rw [step_len, Int.natCast_mul, Int.toNat_of_nonneg (by omega)]
    have hb2 : m.foldl (· * ·) ((step rs s).length : Int) ≤ 256 := by rw [el]; exact hb
    have hb3 : ((step rs s).length : Int) ≤ 256 := Int.le_trans (prod_le m _ (fun x hx => (hm x hx).1) (by omega)) hb2
    obtain ⟨z4, e1⟩ := row_loop c (some (.lst false (LL rs))) s hs rs [] x4 (fun r hx => by have := hr r hx; omega) (by rw [← step_len]; simp; omega)
    obtain ⟨y2, y4, ih⟩ := sort_loop c m (step rs s) (n + 1) (some (.int s)) z4 hm (step_rlen hr) (by omega) hb2
    refine ⟨y2, y4, ?_⟩
    have hbd : sortB [c, some (.lst false (LL rs)), some (.int s), none, x4, none] = .nx [c, some (.lst false (LL (step rs s))), some (.int s), none, z4, none] := by
      unfold sortB
      refine Eq.trans (seq_nx (ρ1 := [c, some (.lst false (LL rs)), some (.int s), some (.lst true []), x4, none]) (sAsg_ok (d := .lst true []) (eLst_ok rfl (by simp)) rfl)) ?_
      refine Eq.trans (seq_nx (ρ1 := [c, some (.lst false (LL rs)), some (.int s), some (.lst true (LL (step rs s))), z4, none]) ((sFor_of (iSeq_ok (d := .lst false (LL rs)) (ds := LL rs) rfl (by show some (frzL (LL rs)) = _; rw [frzL_TI]))).trans (by rw [List.nil_append] at e1; exact e1))) ?_
      refine sAsg_ok (d := .lst false (LL (step rs s))) (ρ1 := [c, some (.lst false (LL rs)), some (.int s), none, z4, none]) ?_ rfl
      refine (eFrz_ok (d := .lst true (LL (step rs s))) (ρ1 := [c, some (.lst false (LL rs)), some (.int s), none, z4, none]) rfl).trans ?_
      show Res.ok (D.lst false (frzL (LL (step rs s)))) _ = _
      rw [frzL_TI]
    rw [List.map_cons, forGo_cons rfl hbd]
    exact ih
theorem range_mul (a b : Nat) : List.range (a * b) = (List.range a).flatMap fun q => (List.range b).map fun i => q * b + i := by
  induction a with
  | zero => simp
  | succ a ih => rw [Nat.succ_mul, List.range_add, ih, List.range_succ, List.flatMap_append]; simp
theorem step_slips (m : List Int) (s : Int) (hs : 1 ≤ s) : step ((List.range (NR m)).map fun k : Nat => (slipsR m (k : Int)).reverse) s = (List.range (NR (s :: m))).map fun k : Nat => (slipsR (s :: m) (k : Int)).reverse := by
  have e : NR (s :: m) = NR m * s.toNat := rfl
  rw [e, range_mul, List.map_flatMap]
  unfold step
  rw [List.flatMap_map]
  congr 1
  funext q
  rw [List.map_map]
  refine List.map_congr_left fun i hi => ?_
  have hi := List.mem_range.mp hi
  obtain ⟨t, rfl⟩ : ∃ t : Nat, s = t := ⟨s.toNat, by omega⟩
  rw [Int.toNat_natCast] at hi ⊢
  show _ = (slipsR ((t : Int) :: m) ((q * t + i : Nat) : Int)).reverse
  show _ = (((q * t + i : Nat) : Int) % (t : Int) :: slipsR m (((q * t + i : Nat) : Int) / (t : Int))).reverse
  rw [List.reverse_cons, ← Int.natCast_emod, ← Int.natCast_ediv, Nat.mul_comm q t, Nat.mul_add_mod, Nat.mod_eq_of_lt hi, Nat.mul_add_div (by omega), Nat.div_eq_of_lt hi, Nat.add_zero]
theorem lex_eq : ∀ m : List Int, (∀ x ∈ m, 1 ≤ x) → m.foldr (fun s rs => step rs s) [[]] = (List.range (NR m)).map fun k : Nat => (slipsR m (k : Int)).reverse
  | [], _ => rfl
  | s :: m, h => by
    show step (m.foldr (fun s rs => step rs s) [[]]) s = _
    rw [lex_eq m (fun x hx => h x (List.mem_cons_of_mem _ hx)), step_slips m s (h s List.mem_cons_self)]
theorem law_rows_ok {l : List Int} (c : Club l) : F_law_rows [T l] = .ok (.lst false (LL (rowsL l))) [none] := by
  obtain ⟨y2, y4, e⟩ := sort_loop (some (T l)) l [[]] 0 none none c.s (by simp) (by have := c.n8; omega) c.p
  have el : l.foldl step [[]] = rowsL l := by
    have z := lex_eq l.reverse (fun x hx => (c.s x (List.mem_reverse.mp hx)).1)
    rw [List.foldr_reverse] at z
    exact z
  rw [el] at e
  refine run_ok (b := b_law_rows) (ρ := [some (T l), some (.lst false (LL (rowsL l))), y2, none, y4, none]) (ρ0 := [some (T l), none, none, none, none, none]) ?_ rfl (by simp) rfl
  unfold b_law_rows
  refine Eq.trans (seq_nx (ρ1 := [some (T l), some (.lst false (LL [[]])), none, none, none, none]) (by exact sAsg_ok (d := .lst false [.tup []]) (eFrz_ok (d := .lst true [.tup []]) (eLst_ok (ds := [.tup []]) (aCons_ok (eTup_ok (ds := []) rfl (by simp)) rfl) (by simp))) rfl)) ?_
  refine Eq.trans (seq_nx (ρ1 := [some (T l), some (.lst false (LL (rowsL l))), y2, none, y4, none]) (by refine (sFor_of (ds := l.map .int) ?_).trans e; exact iSeq_ok (d := T l) rfl rfl)) ?_
  exact sRet_ok rfl
end Lk63

set_option Elab.async false
set_option linter.all false
set_option maxRecDepth 100000
set_option maxHeartbeats 2000000
namespace Lk63
open PySem PySem.Spec L2 DL
theorem zip_ok {r l : List Int} (ρ : DL.Env) {f g : M D} (h1 : f ρ = .ok (T r) ρ) (h2 : g ρ = .ok (T l) ρ) : iZipD (aCons f (aCons g aNil)) ρ = .ok (zipD (r.map D.int) (l.map D.int)) ρ := by
  unfold iZipD
  have h : aCons f (aCons g aNil) ρ = .ok [T r, T l] ρ := aCons_ok h1 (aCons_ok h2 rfl)
  rw [mbind_of h]
  rfl
theorem place_loop (p q : Option D) : ∀ (r l : List Int) (a b : Int) (x y : Option D), Row r l → 0 ≤ a → a < b → b * 4 ^ l.length ≤ 2 ^ 60 →
    ∃ x' y', forGo (gTupD 2 (gsCons (gSet 3) (gsCons (gSet 4) gsNil))) (sAsg (eFrz (e2 addD (e2 mulD (eVar 2) (eVar 4)) (eVar 3))) (gSet 2)) (zipD (r.map D.int) (l.map D.int)) [p, q, some (.int a), x, y] = .nx [p, q, some (.int (placeP r l a)), x', y']
  | [], [], a, b, x, y, _, _, _, _ => ⟨x, y, rfl⟩
  | [], _ :: _, _, _, _, _, h, _, _, _ => h.elim
  | _ :: _, [], _, _, _, _, h, _, _, _ => h.elim
  | s :: r, c :: l, a, b, x, y, h, ha, hab, hb => by
    obtain ⟨h1, h2, h3, h4⟩ := h
    have hp : (1 : Int) ≤ 4 ^ l.length := Int.pow_pos (by decide)
    have e4 : (4 : Int) ^ (c :: l).length = 4 * 4 ^ l.length := by rw [List.length_cons, Int.pow_succ, Int.mul_comm]
    rw [e4] at hb
    have hb2 : (b * 4) * 4 ^ l.length ≤ 2 ^ 60 := by rw [Int.mul_assoc]; exact hb
    have hb3 : b * 4 ≤ 2 ^ 60 := by
      have := Int.mul_le_mul_of_nonneg_left hp (show (0 : Int) ≤ b * 4 by omega)
      omega
    have hac : a * c ≤ a * 4 := Int.mul_le_mul_of_nonneg_left h3 ha
    have hac0 : 0 ≤ a * c := Int.mul_nonneg ha (by omega)
    obtain ⟨x', y', ih⟩ := place_loop p q r l (a * c + s) (b * 4) (some (.int s)) (some (.int c)) h4 (by omega) (by omega) hb2
    refine ⟨x', y', ?_⟩
    have m1 : mulD (.int a) (.int c) = some (.int (a * c)) := mulD_ok2 (by omega) (by omega)
    have hm : e2 mulD (eVar 2) (eVar 4) [p, q, some (.int a), some (.int s), some (.int c)] = .ok (.int (a * c)) [p, q, some (.int a), some (.int s), some (.int c)] := mul_ok (i := a) (j := c) rfl rfl m1
    have hs : e2 addD (e2 mulD (eVar 2) (eVar 4)) (eVar 3) [p, q, some (.int a), some (.int s), some (.int c)] = .ok (.int (a * c + s)) [p, q, some (.int a), some (.int s), some (.int c)] := add_ok (i := a * c) (j := s) hm rfl
    have hbdy : sAsg (eFrz (e2 addD (e2 mulD (eVar 2) (eVar 4)) (eVar 3))) (gSet 2) [p, q, some (.int a), some (.int s), some (.int c)] = .nx [p, q, some (.int (a * c + s)), some (.int s), some (.int c)] := sAsg_ok (eFrz_int hs) rfl
    show forGo _ _ (.tup [.int s, .int c] :: zipD (r.map D.int) (l.map D.int)) _ = _
    unfold forGo
    show (match sAsg (eFrz (e2 addD (e2 mulD (eVar 2) (eVar 4)) (eVar 3))) (gSet 2) [p, q, some (.int a), some (.int s), some (.int c)] with | .nx ρ' => forGo _ _ (zipD (r.map D.int) (l.map D.int)) ρ' | .cnt ρ' => forGo _ _ (zipD (r.map D.int) (l.map D.int)) ρ' | .brk ρ' => .nx ρ' | r => r) = _
    rw [hbdy]
    exact ih
theorem place_ok {r l : List Int} (h : Row r l) (hl : l.length ≤ 8) : F_place_of [T l, T r] = .ok (.int (placeP r l 0)) [none, none] := by
  have hp : (1 : Int) * 4 ^ l.length ≤ 2 ^ 60 := by
    have h0 : 4 ^ l.length ≤ 4 ^ 8 := Nat.pow_le_pow_right (by decide) hl
    have h1 : ((4 ^ l.length : Nat) : Int) ≤ ((4 ^ 8 : Nat) : Int) := Int.ofNat_le.mpr h0
    rw [Int.natCast_pow] at h1
    have e4 : ((4 : Nat) : Int) = 4 := rfl
    rw [e4] at h1
    have e8 : ((4 ^ 8 : Nat) : Int) = 65536 := by decide
    rw [e8] at h1
    omega
  obtain ⟨x, y, e⟩ := place_loop (some (T l)) (some (T r)) r l 0 1 none none h (by omega) (by omega) hp
  refine run_ok (b := b_place_of) (ρ := [some (T l), some (T r), some (.int (placeP r l 0)), x, y]) (ρ0 := [some (T l), some (T r), none, none, none]) ?_ rfl (by simp) rfl
  unfold b_place_of
  refine Eq.trans (seq_nx (ρ1 := [some (T l), some (T r), some (.int 0), none, none]) (by exact sAsg_ok rfl rfl)) ?_
  refine Eq.trans (seq_nx (ρ1 := [some (T l), some (T r), some (.int (placeP r l 0)), x, y]) ((sFor_of (zip_ok _ rfl rfl)).trans e)) ?_
  exact sRet_ok rfl
end Lk63

set_option Elab.async false
set_option linter.all false
set_option maxRecDepth 100000
set_option maxHeartbeats 2000000
namespace Lk63
open PySem PySem.Spec L2 DL
/-! sums of boxes, plainly -/
def bx : (List Int → Int) → List Int → List Int → Int
  | f, a :: xs, b :: ys => bx (fun r => f (a :: r)) xs ys - (if a = b then 0 else bx (fun r => f (b :: r)) xs ys)
  | f, _, _ => f []
def cstep (cs : List (List Int × Int)) (a b : Int) : List (List Int × Int) := cs.map (fun c => (c.1 ++ [a], c.2)) ++ (if a = b then [] else cs.map (fun c => (c.1 ++ [b], -c.2)))
def corn : List (List Int × Int) → List Int → List Int → List (List Int × Int)
  | cs, a :: xs, b :: ys => corn (cstep cs a b) xs ys
  | cs, _, _ => cs
def wsum (f : List Int → Int) (cs : List (List Int × Int)) : Int := (cs.map fun c => c.2 * f c.1).sum
theorem wsum_app (f : List Int → Int) (a b : List (List Int × Int)) : wsum f (a ++ b) = wsum f a + wsum f b := by
  unfold wsum
  rw [List.map_append, List.sum_append]
theorem wsum_cons (f : List Int → Int) (c : List Int × Int) (cs : List (List Int × Int)) : wsum f (c :: cs) = c.2 * f c.1 + wsum f cs := by
  unfold wsum
  rw [List.map_cons, List.sum_cons]
theorem wsum_step (f g h : List Int → Int) (a b : Int) (hg : ∀ r, g r = f (r ++ [a])) (hh : ∀ r, h r = f (r ++ [b])) : ∀ cs : List (List Int × Int), wsum f (cstep cs a b) = wsum (fun r => g r - (if a = b then 0 else h r)) cs := by
  intro cs
  unfold cstep
  rw [wsum_app]
  by_cases e : a = b
  · rw [if_pos e]
    simp only [if_pos e, Int.sub_zero]
    induction cs with
    | nil => rfl
    | cons c cs ih =>
      rw [List.map_cons, wsum_cons, wsum_cons, ← ih, hg]
      show c.2 * f (c.1 ++ [a]) + _ + _ = _
      omega
  · rw [if_neg e]
    simp only [if_neg e]
    induction cs with
    | nil => rfl
    | cons c cs ih =>
      rw [List.map_cons, List.map_cons, wsum_cons, wsum_cons, wsum_cons, ← ih, hg, hh]
      show c.2 * f (c.1 ++ [a]) + _ + (-c.2 * f (c.1 ++ [b]) + _) = _
      rw [Int.mul_sub, Int.neg_mul]
      omega
theorem corn_sum : ∀ (xs ys : List Int) (cs : List (List Int × Int)) (f : List Int → Int), wsum f (corn cs xs ys) = wsum (fun p => bx (fun r => f (p ++ r)) xs ys) cs
  | a :: xs, b :: ys, cs, f => by
    show wsum f (corn (cstep cs a b) xs ys) = _
    rw [corn_sum xs ys]
    rw [wsum_step (fun p => bx (fun r => f (p ++ r)) xs ys) (fun p => bx (fun r => f (p ++ a :: r)) xs ys) (fun p => bx (fun r => f (p ++ b :: r)) xs ys) a b (fun p => by simp) (fun p => by simp)]
    rfl
  | [], ys, cs, f => by
    show wsum f cs = wsum (fun p => f (p ++ [])) cs
    simp
  | a :: xs, [], cs, f => by
    show wsum f cs = wsum (fun p => f (p ++ [])) cs
    simp
theorem corn_box (xs ys : List Int) (f : List Int → Int) : wsum f (corn [([], 1)] xs ys) = bx f xs ys := by
  rw [corn_sum, wsum_cons]
  show 1 * bx (fun r => f ([] ++ r)) xs ys + 0 = _
  simp
theorem bx_add : ∀ (xs ys : List Int) (f g : List Int → Int), bx (fun r => f r + g r) xs ys = bx f xs ys + bx g xs ys
  | a :: xs, b :: ys, f, g => by
    have h1 := bx_add xs ys (fun r => f (a :: r)) (fun r => g (a :: r))
    have h2 := bx_add xs ys (fun r => f (b :: r)) (fun r => g (b :: r))
    simp only [bx]
    rw [h1, h2]
    split <;> omega
  | [], ys, f, g => rfl
  | a :: xs, [], f, g => rfl
def cnt : List Int → List Int → Nat
  | a :: xs, b :: ys => (if a = b then 0 else 1) + cnt xs ys
  | _, _ => 0
def sg (n : Nat) : Int := if n % 2 = 1 then -1 else 1
theorem bx_swap : ∀ (xs ys : List Int) (f : List Int → Int), bx f ys xs = sg (cnt xs ys) * bx f xs ys
  | a :: xs, b :: ys, f => by
    have h1 := bx_swap xs ys (fun r => f (a :: r))
    have h2 := bx_swap xs ys (fun r => f (b :: r))
    simp only [bx, cnt]
    by_cases e : a = b
    · subst e
      rw [if_pos rfl, if_pos rfl, h1]
      simp
    · rw [if_neg e, if_neg (fun z => e z.symm), if_neg e, h1, h2]
      have hs : sg (1 + cnt xs ys) = -sg (cnt xs ys) := by unfold sg; split <;> split <;> omega
      rw [hs, Int.neg_mul, Int.mul_sub]
      omega
  | [], [], f => by simp [bx, cnt, sg]
  | [], b :: ys, f => by simp [bx, cnt, sg]
  | a :: xs, [], f => by simp [bx, cnt, sg]
theorem bx_le : ∀ (xs ys : List Int) (f : List Int → Int) (M : Nat), (∀ r, (f r).natAbs ≤ M) → (bx f xs ys).natAbs ≤ 2 ^ xs.length * M
  | a :: xs, b :: ys, f, M, h => by
    have h1 := bx_le xs ys (fun r => f (a :: r)) M (fun r => h _)
    have h2 := bx_le xs ys (fun r => f (b :: r)) M (fun r => h _)
    simp only [bx, List.length_cons, Nat.pow_succ]
    have e : 2 ^ xs.length * 2 * M = 2 ^ xs.length * M + 2 ^ xs.length * M := by rw [Nat.mul_comm (2 ^ xs.length) 2, Nat.mul_assoc]; omega
    rw [e]
    split <;> omega
  | [], ys, f, M, h => by
    have := h []
    simp only [bx, List.length_nil]
    omega
  | a :: xs, [], f, M, h => by
    have := h []
    have hp : 1 * M ≤ 2 ^ (a :: xs).length * M := Nat.mul_le_mul_right M Nat.one_le_two_pow
    simp only [bx]
    omega
/-- a row without the slip of a member -/
def spotI (m : Nat) : Nat → List Int → List Int
  | _, [] => []
  | k, x :: r => if k = m then spotI m (k + 1) r else x :: spotI m (k + 1) r
theorem bx_blind (m : Nat) : ∀ (xs ys : List Int) (k : Nat) (G : List Int → Int) (j : Nat), k + j = m → j < xs.length → j < ys.length → xs.getD j 0 ≠ ys.getD j 0 → bx (fun r => G (spotI m k r)) xs ys = 0
  | a :: xs, b :: ys, k, G, 0, hk, _, _, hne => by
    have hk : k = m := hk
    have hab : a ≠ b := hne
    simp only [bx, spotI, if_pos hk, if_neg hab]
    omega
  | a :: xs, b :: ys, k, G, j + 1, hk, h1, h2, hne => by
    have hkm : ¬ k = m := by omega
    have i1 := bx_blind m xs ys (k + 1) (fun s => G (a :: s)) j (by omega) (by simpa using h1) (by simpa using h2) (by simpa using hne)
    have i2 := bx_blind m xs ys (k + 1) (fun s => G (b :: s)) j (by omega) (by simpa using h1) (by simpa using h2) (by simpa using hne)
    simp only [bx, spotI, if_neg hkm]
    rw [i1, i2]
    split <;> omega
  | [], ys, k, G, j, _, h1, _, _ => by cases h1
  | a :: xs, [], k, G, j, _, _, h2, _ => by cases h2
/-- the corners are rows -/
theorem corn_rows : ∀ (xs ys ls : List Int) (cs : List (List Int × Int)) (l0 : List Int), Row xs ls → Row ys ls → (∀ c ∈ cs, Row c.1 l0) → ∀ c ∈ corn cs xs ys, Row c.1 (l0 ++ ls)
  | a :: xs, b :: ys, s :: ls, cs, l0, hx, hy, hc => by
    have h : ∀ c ∈ cstep cs a b, Row c.1 (l0 ++ [s]) := by
      intro c hcc
      unfold cstep at hcc
      rcases List.mem_append.mp hcc with h | h
      · obtain ⟨d, hd, rfl⟩ := List.mem_map.mp h
        exact Row_snoc (hc d hd) hx.1 hx.2.1 hx.2.2.1
      · split at h
        · cases h
        · obtain ⟨d, hd, rfl⟩ := List.mem_map.mp h
          exact Row_snoc (hc d hd) hy.1 hy.2.1 hy.2.2.1
    have := corn_rows xs ys ls (cstep cs a b) (l0 ++ [s]) hx.2.2.2 hy.2.2.2 h
    rw [List.append_assoc] at this
    exact this
  | [], [], [], cs, l0, _, _, hc => by
    intro c h
    rw [List.append_nil]
    exact hc c h
  | [], _, _ :: _, _, _, hx, _, _ => hx.elim
  | _ :: _, _, [], _, _, hx, _, _ => hx.elim
  | _, [], _ :: _, _, _, _, hy, _ => hy.elim
  | _, _ :: _, [], _, _, _, hy, _ => hy.elim
theorem corn_len : ∀ (xs ys : List Int) (cs : List (List Int × Int)), (corn cs xs ys).length ≤ cs.length * 2 ^ xs.length
  | a :: xs, b :: ys, cs => by
    have h := corn_len xs ys (cstep cs a b)
    have h2 : (cstep cs a b).length ≤ cs.length * 2 := by
      unfold cstep
      rw [List.length_append, List.length_map]
      split
      · simp; omega
      · rw [List.length_map]; omega
    have h3 : (cstep cs a b).length * 2 ^ xs.length ≤ cs.length * 2 * 2 ^ xs.length := Nat.mul_le_mul_right _ h2
    have e : cs.length * 2 ^ (a :: xs).length = cs.length * 2 * 2 ^ xs.length := by rw [List.length_cons, Nat.pow_succ, Nat.mul_assoc, Nat.mul_comm 2]
    show (corn (cstep cs a b) xs ys).length ≤ _
    omega
  | [], ys, cs => by simp [corn]
  | a :: xs, [], cs => by
    show cs.length ≤ _
    have : cs.length * 1 ≤ cs.length * 2 ^ (a :: xs).length := Nat.mul_le_mul_left _ Nat.one_le_two_pow
    omega
theorem wsum_congr {f g : List Int → Int} : ∀ {cs : List (List Int × Int)}, (∀ c ∈ cs, f c.1 = g c.1) → wsum f cs = wsum g cs
  | [], _ => rfl
  | c :: cs, h => by rw [wsum_cons, wsum_cons, h c List.mem_cons_self, wsum_congr fun d hd => h d (List.mem_cons_of_mem _ hd)]
/-- how many slips are unlike -/
theorem apart_cnt : ∀ (xs ys : List Int), xs.length = ys.length → (apart xs.length xs ys).length = cnt xs ys
  | [], [], _ => rfl
  | a :: xs, b :: ys, h => by
    have ih := apart_cnt xs ys (by simpa using h)
    unfold apart at ih ⊢
    rw [List.length_map] at ih ⊢
    rw [List.length_cons, List.range_succ_eq_map, List.filter_cons, List.filter_map]
    have e : ((fun k => !decide ((a :: xs).getD k 0 = (b :: ys).getD k 0)) ∘ Nat.succ) = fun k => !decide (xs.getD k 0 = ys.getD k 0) := by
      funext k
      simp
    rw [e]
    by_cases q : a = b
    · rw [if_neg (by simp [q]), List.length_map, ih]
      show _ = (if a = b then 0 else 1) + cnt xs ys
      rw [if_pos q, Nat.zero_add]
    · rw [if_pos (by simp [q]), List.length_cons, List.length_map, ih]
      show _ = (if a = b then 0 else 1) + cnt xs ys
      rw [if_neg q, Nat.add_comm]
  | [], _ :: _, h => by cases h
  | _ :: _, [], h => by cases h
end Lk63

set_option Elab.async false
set_option linter.all false
set_option maxRecDepth 100000
set_option maxHeartbeats 2000000
namespace Lk63
open PySem PySem.Spec L2 DL
theorem lcGo_as {α : Type} {g : D → DL.Env → Option DL.Env} {te : M D} {vs : List Nat} {P : α → D} {E : α → DL.Env} {Y : α → D} {ρ : DL.Env} : ∀ (xs : List α) (ρ0 : DL.Env), wipeE ρ0 vs = ρ → (∀ a ∈ xs, g (P a) ρ = some (E a) ∧ te (E a) = .ok (Y a) (E a) ∧ wipeE (E a) vs = ρ) → lcGo g mYes te vs (xs.map P) ρ0 = .ok (xs.map Y) ρ
  | [], ρ0, hw, _ => by show Res.ok [] (wipeE ρ0 vs) = _; rw [hw]; rfl
  | a :: xs, ρ0, hw, h => by
    obtain ⟨h1, h2, h3⟩ := h a List.mem_cons_self
    have ih := lcGo_as xs (E a) h3 fun b hb => h b (List.mem_cons_of_mem _ hb)
    rw [List.map_cons]
    unfold lcGo
    rw [hw, h1]
    show mbind te _ _ = _
    rw [mbind_of h2, mbind_of ih]
    rfl
abbrev pC (c : List Int × Int) : D := .tup [T c.1, .int c.2]
abbrev CD (cs : List (List Int × Int)) : List D := cs.map pC
theorem frzL_CD : ∀ cs : List (List Int × Int), frzL (CD cs) = CD cs
  | [] => rfl
  | c :: cs => by show frz (pC c) :: frzL (CD cs) = _; rw [frzL_CD cs]; rfl
abbrev pP (c : Int × Int) : D := .tup [.int c.1, .int c.2]
theorem frzL_PD : ∀ cs : List (Int × Int), frzL (cs.map pP) = cs.map pP
  | [] => rfl
  | c :: cs => by show frz (pP c) :: frzL (cs.map pP) = _; rw [frzL_PD cs]; rfl
theorem add1 (r : List Int) (a : Int) (h : r.length ≤ 1000) : addD (T r) (.tup [.int a]) = some (T (r ++ [a])) := by
  refine (add_tup (by rw [List.length_map, List.length_singleton]; omega)).trans ?_
  show _ = some (D.tup ((r ++ [a]).map D.int))
  rw [List.map_append]
  rfl
/-- the next corners, at one slip: row + (slip,) -/
def teA (v r s : Nat) : M D := eFrz (eTup (aCons (e2 addD (eVar r) (eTup (aCons (eVar v) aNil))) (aCons (eVar s) aNil)))
def teN (v r s : Nat) : M D := eFrz (eTup (aCons (e2 addD (eVar r) (eTup (aCons (eVar v) aNil))) (aCons (e1 negD (eVar s)) aNil)))
theorem teA_ok {ρ : DL.Env} {v r s : Nat} {a : Int} {c : List Int × Int} (h1 : ρ[v]? = some (some (.int a))) (h2 : ρ[r]? = some (some (T c.1))) (h3 : ρ[s]? = some (some (.int c.2))) (hl : c.1.length ≤ 1000) : teA v r s ρ = .ok (pC (c.1 ++ [a], c.2)) ρ := by
  have k1 : eTup (aCons (eVar v) aNil) ρ = .ok (.tup [.int a]) ρ := eTup_ok (ds := [.int a]) (aCons_ok (ev h1 rfl) rfl) (by simp)
  have k2 : e2 addD (eVar r) (eTup (aCons (eVar v) aNil)) ρ = .ok (T (c.1 ++ [a])) ρ := DL.e2_ok (ev h2 rfl) k1 (add1 _ _ hl)
  exact eFrz_ok (d := pC (c.1 ++ [a], c.2)) (eTup_ok (ds := [T (c.1 ++ [a]), .int c.2]) (aCons_ok k2 (aCons_ok (ev h3 rfl) rfl)) (by simp))
theorem teN_ok {ρ : DL.Env} {v r s : Nat} {a : Int} {c : List Int × Int} (h1 : ρ[v]? = some (some (.int a))) (h2 : ρ[r]? = some (some (T c.1))) (h3 : ρ[s]? = some (some (.int c.2))) (hl : c.1.length ≤ 1000) : teN v r s ρ = .ok (pC (c.1 ++ [a], -c.2)) ρ := by
  have k1 : eTup (aCons (eVar v) aNil) ρ = .ok (.tup [.int a]) ρ := eTup_ok (ds := [.int a]) (aCons_ok (ev h1 rfl) rfl) (by simp)
  have k2 : e2 addD (eVar r) (eTup (aCons (eVar v) aNil)) ρ = .ok (T (c.1 ++ [a])) ρ := DL.e2_ok (ev h2 rfl) k1 (add1 _ _ hl)
  exact eFrz_ok (d := pC (c.1 ++ [a], -c.2)) (eTup_ok (ds := [T (c.1 ++ [a]), .int (-c.2)]) (aCons_ok k2 (aCons_ok (e1_ok (ev h3 rfl) rfl) rfl)) (by simp))
/-! the program's corners -/
abbrev kE (l : List Int) (j k : Nat) (x3 x4 x5 x6 : Option D) : DL.Env := [some (T l), some (.int j), some (.int k), x3, x4, x5, x6, none, none]
def crB : SF := (sSeq (sAsg (eLcL 9 (iSeq (eVar 3)) (gTupD 2 (gsCons (gSet 7) (gsCons (gSet 8) gsNil))) mYes (teA 4 7 8) [7, 8]) (gSet 6))
  (sSeq (sIf (eB (e2 neD (eVar 5) (eVar 4))) (sDrop (eExt 6 (eLcL 9 (iSeq (eVar 3)) (gTupD 2 (gsCons (gSet 7) (gsCons (gSet 8) gsNil))) mYes (teN 5 7 8) [7, 8]))) sNext)
  (sAsg (eFrz (eMove 6)) (gSet 3))))
theorem crB_ok (l : List Int) (j k : Nat) (cs : List (List Int × Int)) (a b : Int) (hl : ∀ c ∈ cs, c.1.length ≤ 1000) (hcs : cs.length ≤ 1000) : crB (kE l j k (some (.lst false (CD cs))) (some (.int a)) (some (.int b)) none) = .nx (kE l j k (some (.lst false (CD (cstep cs a b)))) (some (.int a)) (some (.int b)) none) := by
  have it : ∀ x6, iSeq (eVar 3) (kE l j k (some (.lst false (CD cs))) (some (.int a)) (some (.int b)) x6) = .ok (CD cs) (kE l j k (some (.lst false (CD cs))) (some (.int a)) (some (.int b)) x6) := fun x6 => iSeq_ok (d := .lst false (CD cs)) (ev rfl rfl) (by show some (frzL (CD cs)) = _; rw [frzL_CD])
  have lcA : eLcL 9 (iSeq (eVar 3)) (gTupD 2 (gsCons (gSet 7) (gsCons (gSet 8) gsNil))) mYes (teA 4 7 8) [7, 8] (kE l j k (some (.lst false (CD cs))) (some (.int a)) (some (.int b)) none) = .ok (.lst true (CD (cs.map fun c => (c.1 ++ [a], c.2)))) (kE l j k (some (.lst false (CD cs))) (some (.int a)) (some (.int b)) none) := by
    rw [show CD (cs.map fun c => (c.1 ++ [a], c.2)) = cs.map (pC ∘ fun c => (c.1 ++ [a], c.2)) from List.map_map]
    refine eLcL_ok (it _) (by rw [List.length_map]; omega) rfl (lcGo_as (P := pC) (E := fun c => [some (T l), some (.int j), some (.int k), some (.lst false (CD cs)), some (.int a), some (.int b), none, some (T c.1), some (.int c.2)]) (Y := pC ∘ fun c => (c.1 ++ [a], c.2)) cs _ rfl fun c hc => ⟨rfl, ?_, rfl⟩)
    exact teA_ok rfl rfl rfl (hl c hc)
  have lcB : ∀ ds, eLcL 9 (iSeq (eVar 3)) (gTupD 2 (gsCons (gSet 7) (gsCons (gSet 8) gsNil))) mYes (teN 5 7 8) [7, 8] (kE l j k (some (.lst false (CD cs))) (some (.int a)) (some (.int b)) (some (.lst true ds))) = .ok (.lst true (CD (cs.map fun c => (c.1 ++ [b], -c.2)))) (kE l j k (some (.lst false (CD cs))) (some (.int a)) (some (.int b)) (some (.lst true ds))) := fun ds => by
    rw [show CD (cs.map fun c => (c.1 ++ [b], -c.2)) = cs.map (pC ∘ fun c => (c.1 ++ [b], -c.2)) from List.map_map]
    refine eLcL_ok (it _) (by rw [List.length_map]; omega) rfl (lcGo_as (P := pC) (E := fun c => [some (T l), some (.int j), some (.int k), some (.lst false (CD cs)), some (.int a), some (.int b), some (.lst true ds), some (T c.1), some (.int c.2)]) (Y := pC ∘ fun c => (c.1 ++ [b], -c.2)) cs _ rfl fun c hc => ⟨rfl, ?_, rfl⟩)
    exact teN_ok rfl rfl rfl (hl c hc)
  unfold crB
  refine Eq.trans (seq_nx (sAsg_ok lcA rfl)) ?_
  have v4 : ∀ x6, eVar 4 (kE l j k (some (.lst false (CD cs))) (some (.int a)) (some (.int b)) x6) = .ok (.int a) (kE l j k (some (.lst false (CD cs))) (some (.int a)) (some (.int b)) x6) := fun x6 => ev rfl rfl
  have v5 : ∀ x6, eVar 5 (kE l j k (some (.lst false (CD cs))) (some (.int a)) (some (.int b)) x6) = .ok (.int b) (kE l j k (some (.lst false (CD cs))) (some (.int a)) (some (.int b)) x6) := fun x6 => ev rfl rfl
  have fin : ∀ cs2, sAsg (eFrz (eMove 6)) (gSet 3) (kE l j k (some (.lst false (CD cs))) (some (.int a)) (some (.int b)) (some (.lst true (CD cs2)))) = .nx (kE l j k (some (.lst false (CD cs2))) (some (.int a)) (some (.int b)) none) := fun cs2 => by
    refine sAsg_ok (d := .lst false (CD cs2)) (ρ1 := kE l j k (some (.lst false (CD cs))) (some (.int a)) (some (.int b)) none) ?_ rfl
    refine (eFrz_ok (d := .lst true (CD cs2)) (ρ1 := kE l j k (some (.lst false (CD cs))) (some (.int a)) (some (.int b)) none) rfl).trans ?_
    show Res.ok (D.lst false (frzL (CD cs2))) _ = _
    rw [frzL_CD]
  by_cases e : a = b
  · refine Eq.trans (seq_nx ((sIf_f (G := sNext) (eB_ok (nei_ok (v5 _) (v4 _) (by simp [e])))).trans rfl)) ?_
    refine (fin _).trans ?_
    unfold cstep
    rw [if_pos e, List.append_nil]
  · have hx := ext_ok (i := 6) (ρ := kE l j k (some (.lst false (CD cs))) (some (.int a)) (some (.int b)) (some (.lst true (CD (cs.map fun c => (c.1 ++ [a], c.2)))))) ⟨_, rfl⟩ (lcB _) rfl (by simp only [List.length_map]; omega)
    refine Eq.trans (seq_nx ((sIf_t (eB_ok (nei_ok (v5 _) (v4 _) (by rw [decide_eq_false (fun z : b = a => e z.symm)]; rfl)))).trans (sDrop_ok hx))) ?_
    have e2 : CD (cs.map fun c => (c.1 ++ [a], c.2)) ++ CD (cs.map fun c => (c.1 ++ [b], -c.2)) = CD (cstep cs a b) := by
      unfold cstep
      rw [if_neg e]
      exact List.map_append.symm
    rw [e2]
    exact fin _
theorem cr_loop (l : List Int) (j k : Nat) : ∀ (xs ys : List Int) (cs : List (List Int × Int)) (n : Nat) (x4 x5 : Option D), xs.length = ys.length → (∀ c ∈ cs, c.1.length ≤ n) → n + xs.length ≤ 1000 → cs.length * 2 ^ xs.length ≤ 1000 →
    ∃ y4 y5, forGo (gTupD 2 (gsCons (gSet 4) (gsCons (gSet 5) gsNil))) crB (zipD (xs.map D.int) (ys.map D.int)) (kE l j k (some (.lst false (CD cs))) x4 x5 none) = .nx (kE l j k (some (.lst false (CD (corn cs xs ys)))) y4 y5 none)
  | [], [], cs, n, x4, x5, _, _, _, _ => ⟨x4, x5, rfl⟩
  | a :: xs, b :: ys, cs, n, x4, x5, he, hn, hl, hb => by
    rw [List.length_cons, Nat.pow_succ] at hb
    rw [List.length_cons] at hl
    have hp : 1 ≤ 2 ^ xs.length := Nat.one_le_two_pow
    have hc1 : cs.length * 1 ≤ cs.length * (2 ^ xs.length * 2) := Nat.mul_le_mul_left _ (by omega)
    have hlen : (cstep cs a b).length ≤ cs.length * 2 := by
      unfold cstep
      rw [List.length_append, List.length_map]
      split
      · simp; omega
      · rw [List.length_map]; omega
    have hcl : ∀ c ∈ cstep cs a b, c.1.length ≤ n + 1 := by
      intro c hc
      unfold cstep at hc
      rcases List.mem_append.mp hc with h | h
      · obtain ⟨d, hd, rfl⟩ := List.mem_map.mp h
        have := hn d hd
        rw [List.length_append]
        simp only [List.length_singleton]
        omega
      · split at h
        · cases h
        · obtain ⟨d, hd, rfl⟩ := List.mem_map.mp h
          have := hn d hd
          rw [List.length_append]
          simp only [List.length_singleton]
          omega
    have h2 : (cstep cs a b).length * 2 ^ xs.length ≤ 1000 := by
      have := Nat.mul_le_mul_right (2 ^ xs.length) hlen
      have e : cs.length * 2 * 2 ^ xs.length = cs.length * (2 ^ xs.length * 2) := by rw [Nat.mul_assoc, Nat.mul_comm 2]
      omega
    obtain ⟨y4, y5, ih⟩ := cr_loop l j k xs ys (cstep cs a b) (n + 1) (some (.int a)) (some (.int b)) (by simpa using he) hcl (by omega) h2
    refine ⟨y4, y5, ?_⟩
    have hbd := crB_ok l j k cs a b (fun c hc => by have := hn c hc; omega) (by omega)
    show forGo _ _ (.tup [.int a, .int b] :: zipD (xs.map D.int) (ys.map D.int)) _ = _
    rw [forGo_cons rfl hbd]
    exact ih
  | [], _ :: _, _, _, _, _, he, _, _, _ => by cases he
  | _ :: _, [], _, _, _, _, he, _, _, _ => by cases he
def cor (l : List Int) (j k : Nat) : List (List Int × Int) := corn [([], 1)] (slips l j) (slips l k)
theorem cor_rows {l : List Int} (c : Club l) {j k : Nat} (hj : j < N l) (hk : k < N l) : ∀ x ∈ cor l j k, Row x.1 l := corn_rows (slips l j) (slips l k) l [([], 1)] [] (c.row hj).1 (c.row hk).1 (fun x hx => by rw [List.mem_singleton.mp hx]; trivial)
theorem cor_len {l : List Int} (c : Club l) (j k : Nat) : (cor l j k).length ≤ 256 := by
  have h := corn_len (slips l j) (slips l k) [([], 1)]
  rw [slips_len] at h
  have h8 : 2 ^ l.length ≤ 2 ^ 8 := Nat.pow_le_pow_right (by decide) c.n8
  have e : [(([] : List Int), (1 : Int))].length * 2 ^ l.length = 2 ^ l.length := by simp
  show (corn _ _ _).length ≤ _
  omega
theorem corners_ok {l : List Int} (c : Club l) {j k : Nat} (hj : j < N l) (hk : k < N l) : F_corners [T l, .int j, .int k] = .ok (.lst true ((cor l j k).map fun x => pP (placeP x.1 l 0, x.2))) [none, none, none] := by
  have h8 : 2 ^ l.length ≤ 2 ^ 8 := Nat.pow_le_pow_right (by decide) c.n8
  have hn8 := c.n8
  obtain ⟨y4, y5, loop⟩ := cr_loop l j k (slips l j) (slips l k) [([], 1)] 0 none none (by rw [slips_len, slips_len]) (by simp) (by rw [slips_len]; omega) (by rw [slips_len]; simp; omega)
  let ρ0 : DL.Env := kE l j k none none none none
  let ρ1 : DL.Env := kE l j k (some (.lst false (CD [([], 1)]))) none none none
  let ρ2 : DL.Env := kE l j k (some (.lst false (CD (cor l j k)))) y4 y5 none
  have hz : iZipD (aCons (eCall F_slips_of (aCons (eVar 0) (aCons (eVar 1) aNil)) [] []) (aCons (eCall F_slips_of (aCons (eVar 0) (aCons (eVar 2) aNil)) [] []) aNil)) ρ1 = .ok (zipD ((slips l j).map D.int) ((slips l k).map D.int)) ρ1 := zip_ok ρ1 (eCall_of (ρ1 := ρ1) (aCons_ok (ev rfl rfl) (aCons_ok (ev rfl rfl) rfl)) rfl (slips_ok2 c j) rfl) (eCall_of (ρ1 := ρ1) (aCons_ok (ev rfl rfl) (aCons_ok (ev rfl rfl) rfl)) rfl (slips_ok2 c k) rfl)
  refine run_ok (b := b_corners) (ρ := ρ2) (ρ0 := ρ0) ?_ rfl (by simp [ρ2]) rfl
  unfold b_corners
  refine Eq.trans (seq_nx (ρ1 := ρ1) (by
    have h : eFrz (eLst (aCons (eTup (aCons (eTup aNil) (aCons (eC (.int 1)) aNil))) aNil)) ρ0 = .ok (.lst false (CD [([], 1)])) ρ0 := by kernel_rfl
    exact sAsg_ok h rfl)) ?_
  refine Eq.trans (seq_nx (ρ1 := ρ2) ((sFor_of hz).trans loop)) ?_
  refine sRet_ok ?_
  have it : iSeq (eVar 3) ρ2 = .ok (CD (cor l j k)) ρ2 := iSeq_ok (d := .lst false (CD (cor l j k))) (ev rfl rfl) (by show some (frzL (CD (cor l j k))) = _; rw [frzL_CD])
  refine eLcL_ok it (by have := cor_len c j k; rw [List.length_map]; omega) rfl (lcGo_as (P := pC) (E := fun x => [some (T l), some (.int j), some (.int k), some (.lst false (CD (cor l j k))), y4, y5, none, some (T x.1), some (.int x.2)]) (Y := fun x => pP (placeP x.1 l 0, x.2)) (cor l j k) _ rfl fun x hx => ⟨rfl, ?_, rfl⟩)
  let ρd : DL.Env := [some (T l), some (.int j), some (.int k), some (.lst false (CD (cor l j k))), y4, y5, none, some (T x.1), some (.int x.2)]
  have hc : eCall F_place_of (aCons (eVar 0) (aCons (eVar 7) aNil)) [] [] ρd = .ok (.int (placeP x.1 l 0)) ρd := eCall_of (ρ1 := ρd) (aCons_ok (ev rfl rfl) (aCons_ok (ev rfl rfl) rfl)) rfl (place_ok (cor_rows c hj hk x hx) c.n8) rfl
  exact eFrz_ok (d := pP (placeP x.1 l 0, x.2)) (eTup_ok (ds := [.int (placeP x.1 l 0), .int x.2]) (aCons_ok hc (aCons_ok (ev rfl rfl) rfl)) (by simp))
end Lk63

set_option Elab.async false
set_option linter.all false
set_option maxRecDepth 100000
set_option maxHeartbeats 2000000
namespace Lk63
open PySem PySem.Spec L2 DL
def plR : List Int → List Int → Int
  | s :: m, x :: t => plR m t * s + x
  | _, _ => 0
def RowR : List Int → List Int → Prop
  | [], [] => True
  | s :: m, x :: t => 0 ≤ x ∧ x < s ∧ RowR m t
  | _, _ => False
theorem plR_slips : ∀ (m t : List Int), RowR m t → slipsR m (plR m t) = t ∧ 0 ≤ plR m t ∧ plR m t < NR m
  | [], [], _ => ⟨rfl, by decide, by decide⟩
  | [], _ :: _, h => h.elim
  | _ :: _, [], h => h.elim
  | s :: m, x :: t, h => by
    obtain ⟨h0, h1, h2⟩ := h
    obtain ⟨i1, i2, i3⟩ := plR_slips m t h2
    have hs : 0 < s := by omega
    have e : plR (s :: m) (x :: t) = plR m t * s + x := rfl
    have em : (plR m t * s + x) % s = x := by rw [Int.mul_comm, Int.mul_add_emod_self_left, Int.emod_eq_of_lt h0 h1]
    have ed : (plR m t * s + x) / s = plR m t := by rw [Int.mul_comm, Int.mul_add_ediv_left _ _ (by omega), Int.ediv_eq_zero_of_lt h0 h1, Int.add_zero]
    rw [e]
    refine ⟨?_, ?_, ?_⟩
    · show (plR m t * s + x) % s :: slipsR m ((plR m t * s + x) / s) = _
      rw [em, ed, i1]
    · have := Int.mul_nonneg i2 (Int.le_of_lt hs); omega
    · have eN : NR (s :: m) = NR m * s.toNat := rfl
      rw [eN, Int.natCast_mul, Int.toNat_of_nonneg (by omega)]
      have h4 : (plR m t + 1) * s ≤ NR m * s := Int.mul_le_mul_of_nonneg_right (by omega) (by omega)
      rw [Int.add_mul] at h4
      omega
theorem slips_plR : ∀ (m : List Int) (k : Int), (∀ x ∈ m, 1 ≤ x) → 0 ≤ k → k < NR m → plR m (slipsR m k) = k ∧ RowR m (slipsR m k)
  | [], k, _, h0, h1 => ⟨by have : NR [] = 1 := rfl; rw [this] at h1; show (0 : Int) = k; omega, trivial⟩
  | s :: m, k, h, h0, h1 => by
    have hs := h s List.mem_cons_self
    have e : NR (s :: m) = NR m * s.toNat := rfl
    rw [e, Int.natCast_mul, Int.toNat_of_nonneg (by omega)] at h1
    obtain ⟨i1, i2⟩ := slips_plR m (k / s) (fun x hx => h x (List.mem_cons_of_mem _ hx)) (Int.ediv_nonneg h0 (by omega)) (Int.ediv_lt_of_lt_mul (by omega) h1)
    refine ⟨?_, Int.emod_nonneg _ (by omega), Int.emod_lt_of_pos _ (by omega), i2⟩
    show plR m (slipsR m (k / s)) * s + k % s = k
    rw [i1, Int.mul_comm]
    exact Int.mul_ediv_add_emod k s
theorem Row_unsnoc : ∀ {r l : List Int} {x s : Int}, r.length = l.length → Row (r ++ [x]) (l ++ [s]) → Row r l ∧ 0 ≤ x ∧ x < s
  | [], [], x, s, _, h => ⟨trivial, h.1, h.2.1⟩
  | a :: r, b :: l, x, s, hl, h => by
    have h : 0 ≤ a ∧ a < b ∧ b ≤ 4 ∧ Row (r ++ [x]) (l ++ [s]) := h
    obtain ⟨h1, h2⟩ := Row_unsnoc (r := r) (l := l) (by simpa using hl) h.2.2.2
    exact ⟨⟨h.1, h.2.1, h.2.2.1, h1⟩, h2⟩
  | [], _ :: _, _, _, hl, _ => by cases hl
  | _ :: _, [], _, _, hl, _ => by cases hl
theorem Row_rev : ∀ (m t : List Int), m.length = t.length → Row t.reverse m.reverse → RowR m t ∧ placeP t.reverse m.reverse 0 = plR m t
  | [], [], _, _ => ⟨trivial, rfl⟩
  | s :: m, x :: t, hl, h => by
    rw [List.reverse_cons, List.reverse_cons] at h
    obtain ⟨h1, h2, h3⟩ := Row_unsnoc (by simpa using hl.symm) h
    obtain ⟨i1, i2⟩ := Row_rev m t (by simpa using hl) h1
    refine ⟨⟨h2, h3, i1⟩, ?_⟩
    rw [List.reverse_cons, List.reverse_cons, placeP_snoc h1, i2]
    rfl
  | [], _ :: _, hl, _ => by cases hl
  | _ :: _, [], hl, _ => by cases hl
theorem place_row {r l : List Int} (h : Row r l) : ∃ k : Nat, k < N l ∧ placeP r l 0 = k ∧ slips l k = r := by
  have hl := h.len
  obtain ⟨h1, h2⟩ := Row_rev l.reverse r.reverse (by simp [hl]) (by rw [List.reverse_reverse, List.reverse_reverse]; exact h)
  rw [List.reverse_reverse, List.reverse_reverse] at h2
  obtain ⟨i1, i2, i3⟩ := plR_slips _ _ h1
  refine ⟨(plR l.reverse r.reverse).toNat, ?_, by rw [h2]; omega, ?_⟩
  · show _ < NR l.reverse
    omega
  · unfold slips
    rw [Int.toNat_of_nonneg i2, i1, List.reverse_reverse]
end Lk63

set_option Elab.async false
set_option linter.all false
set_option maxRecDepth 100000
set_option maxHeartbeats 2000000
namespace Lk63
open PySem PySem.Spec L2 DL
theorem is_place_ok {l : List Int} (c : Club l) {k : Nat} (h : k < N l) : F_is_place [T l, .int k] = .ok (.bl true) [none, none] := by
  refine run_ok (b := b_is_place) (ρ := [some (T l), some (.int k)]) (ρ0 := [some (T l), some (.int k)]) ?_ rfl (by simp) rfl
  have hw : F_is_within [.int k, .int 0, .int (N l - 1)] = .ok (.bl true) [none, none, none] := (within_ok k 0 (N l - 1)).trans (by rw [decide_eq_true (by omega)])
  unfold b_is_place
  exact sRet_ok (eCall_of (ρ1 := [some (T l), some (.int k)]) (aCons_ok rfl (aCons_ok rfl (aCons_ok (sub_ok (eCall_of (ρ1 := [some (T l), some (.int k)]) (aCons_ok rfl rfl) rfl (size_ok2 c) rfl) rfl) rfl))) rfl hw rfl)
theorem corn_sign : ∀ (xs ys : List Int) (cs : List (List Int × Int)), (∀ c ∈ cs, c.2 = 1 ∨ c.2 = -1) → ∀ c ∈ corn cs xs ys, c.2 = 1 ∨ c.2 = -1
  | a :: xs, b :: ys, cs, h => corn_sign xs ys (cstep cs a b) (by
    intro c hc
    unfold cstep at hc
    rcases List.mem_append.mp hc with q | q
    · obtain ⟨d, hd, rfl⟩ := List.mem_map.mp q
      exact h d hd
    · split at q
      · cases q
      · obtain ⟨d, hd, rfl⟩ := List.mem_map.mp q
        have := h d hd
        show -d.2 = 1 ∨ -d.2 = -1
        omega)
  | [], _, cs, h => h
  | _ :: _, [], cs, h => h
/-- totals of a club, none too great -/
structure Tot (l tot : List Int) : Prop where
  n : tot.length = N l
  b : ∀ x ∈ tot, x.natAbs ≤ 10 ^ 40
def tf (l tot r : List Int) : Int := tot.getD (placeP r l 0).toNat 0
def bs (l tot : List Int) (j k : Nat) : Int := bx (tf l tot) (slips l j) (slips l k)
theorem getD_mem {ps : List Int} {k : Nat} (h : k < ps.length) : ps.getD k 0 ∈ ps := by
  rw [List.getD_eq_getElem?_getD, List.getElem?_eq_getElem h]
  exact List.getElem_mem h
theorem tf_le {l tot : List Int} (h : Tot l tot) (r : List Int) : (tf l tot r).natAbs ≤ 10 ^ 40 := by
  unfold tf
  rcases Nat.lt_or_ge (placeP r l 0).toNat tot.length with q | q
  · exact h.b _ (getD_mem q)
  · rw [List.getD_eq_getElem?_getD, List.getElem?_eq_none q]
    decide
theorem big40 : 10 ^ 40 * 256 < 2 ^ 250 := by decide
theorem bs_le {l tot : List Int} (c : Club l) (h : Tot l tot) (j k : Nat) : (bs l tot j k).natAbs < 2 ^ 250 := by
  have q := bx_le (slips l j) (slips l k) (tf l tot) (10 ^ 40) (tf_le h)
  rw [slips_len] at q
  have h8 : 2 ^ l.length ≤ 2 ^ 8 := Nat.pow_le_pow_right (by decide) c.n8
  have h9 : 2 ^ l.length * 10 ^ 40 ≤ 2 ^ 8 * 10 ^ 40 := Nat.mul_le_mul_right _ h8
  have := big40
  unfold bs
  omega
theorem sum_ints {o : Bool} {g : M (List D)} {ρ ρ1 : DL.Env} {is : List Int} (h : g ρ = .ok [.lst o (is.map D.int)] ρ1) : eBi sumD g ρ = .ok (.int is.sum) ρ1 := eBi_ok h (by
  show (intsL (is.map D.int)).map _ = _
  rw [intsL_map]; rfl)
theorem one_mul_ok {s x : Int} (hs : s = 1 ∨ s = -1) (hx : x.natAbs ≤ 10 ^ 40) : mulD (.int s) (.int x) = some (.int (s * x)) := by
  have := big40
  refine mulD_ok ?_ ?_
  · rcases hs with rfl | rfl <;> decide
  · exact Nat.lt_of_le_of_lt hx (by decide)
theorem cor_sign (l : List Int) (j k : Nat) : ∀ c ∈ cor l j k, c.2 = 1 ∨ c.2 = -1 := corn_sign _ _ _ (fun c hc => by rw [List.mem_singleton.mp hc]; exact .inl rfl)
theorem sum_of_box_ok {l tot : List Int} (c : Club l) (h : Tot l tot) {j k : Nat} (hj : j < N l) (hk : k < N l) : F_sum_of_box [T l, T tot, .int j, .int k] = .ok (.int (bs l tot j k)) [none, none, none, none] := by
  let ρ : DL.Env := [some (T l), some (T tot), some (.int j), some (.int k), none, none]
  refine run_ok (b := b_sum_of_box) (ρ := ρ) (ρ0 := ρ) ?_ rfl (by simp [ρ]) rfl
  unfold b_sum_of_box
  have hc : eCall F_corners (aCons (eVar 0) (aCons (eVar 2) (aCons (eVar 3) aNil))) [] [] ρ = .ok (.lst true ((cor l j k).map fun x => pP (placeP x.1 l 0, x.2))) ρ := eCall_of (ρ1 := ρ) (aCons_ok (ev rfl rfl) (aCons_ok (ev rfl rfl) (aCons_ok (ev rfl rfl) rfl))) rfl (corners_ok c hj hk) rfl
  have it : iSeq (eCall F_corners (aCons (eVar 0) (aCons (eVar 2) (aCons (eVar 3) aNil))) [] []) ρ = .ok ((cor l j k).map fun x => pP (placeP x.1 l 0, x.2)) ρ := iSeq_ok hc (by
    show some (frzL ((cor l j k).map fun x => pP (placeP x.1 l 0, x.2))) = _
    have := frzL_PD ((cor l j k).map fun x => (placeP x.1 l 0, x.2))
    rw [List.map_map] at this
    exact congrArg some this)
  have lc := eLcL_ok (L := 6) (tt := mYes) it (by have := cor_len c j k; rw [List.length_map]; omega) rfl (lcGo_as (g := gTupD 2 (gsCons (gSet 4) (gsCons (gSet 5) gsNil))) (te := eFrz (e2 mulD (eVar 5) (e2 ixD (eVar 1) (eVar 4)))) (vs := [4, 5]) (P := fun x : List Int × Int => pP (placeP x.1 l 0, x.2)) (E := fun x => [some (T l), some (T tot), some (.int j), some (.int k), some (.int (placeP x.1 l 0)), some (.int x.2)]) (Y := fun x => .int (x.2 * tf l tot x.1)) (ρ := ρ) (cor l j k) ρ rfl fun x hx => ⟨rfl, by
    obtain ⟨n, hn, ep, _⟩ := place_row (cor_rows c hj hk x hx)
    let ρd : DL.Env := [some (T l), some (T tot), some (.int j), some (.int k), some (.int (placeP x.1 l 0)), some (.int x.2)]
    have hi : e2 ixD (eVar 1) (eVar 4) ρd = .ok (.int (tf l tot x.1)) ρd := by
      refine DL.e2_ok (x := T tot) (y := .int (placeP x.1 l 0)) (ev rfl rfl) (ev rfl rfl) ?_
      unfold tf
      rw [ep, Int.toNat_natCast]
      exact ix_TI (by rw [h.n]; exact hn)
    exact eFrz_int (mul_ok (ev rfl rfl) hi (one_mul_ok (cor_sign l j k x hx) (tf_le h x.1))), rfl⟩)
  have e : (cor l j k).map (fun x => D.int (x.2 * tf l tot x.1)) = ((cor l j k).map fun x => x.2 * tf l tot x.1).map D.int := by rw [List.map_map]; rfl
  rw [e] at lc
  have es : ((cor l j k).map fun x => x.2 * tf l tot x.1).sum = bs l tot j k := corn_box _ _ _
  rw [← es]
  exact sRet_ok (sum_ints (aCons_ok lc rfl))
theorem table_ok (l : List Int) {n : Nat} (h : l.length = n) : F_is_table [T l, .int n] = .ok (.bl true) [none, none] := by
  refine run_ok (b := b_is_table) (ρ := [some (T l), some (.int n)]) (ρ0 := [some (T l), some (.int n)]) ?_ rfl (by simp) rfl
  unfold b_is_table
  have hl : eBi lenD (aCons (eVar 0) aNil) [some (T l), some (.int n)] = .ok (.int l.length) [some (T l), some (.int n)] := eBi_ok (aCons_ok rfl rfl) (len_TI l)
  exact sRet_ok (eAnd_t (ρ1 := [some (T l), some (.int n)]) (eInst_ok rfl rfl) (eqi_ok (i := l.length) (j := n) hl rfl (decide_eq_true (by omega))))
theorem totals_ok {l tot : List Int} (c : Club l) (h : Tot l tot) : F_check_totals [T l, T tot] = .ok .non [none, none] := by
  have hN := c.Nle
  let ρ : DL.Env := [some (T l), some (T tot), none]
  refine run_nx (b := b_check_totals) (ρ := ρ) (ρ0 := ρ) ?_ rfl (by simp [ρ]) rfl
  unfold b_check_totals
  have hs : eFrz (eCall F_size_of (aCons (eVar 0) aNil) [] []) ρ = .ok (.int (N l)) ρ := eFrz_int (eCall_of (ρ1 := ρ) (aCons_ok (ev rfl rfl) rfl) rfl (size_ok2 c) rfl)
  have h1 : eCall F_is_table (aCons (eVar 1) (aCons (eFrz (eCall F_size_of (aCons (eVar 0) aNil) [] [])) aNil)) [] [] ρ = .ok (.bl true) ρ := eCall_of (ρ1 := ρ) (aCons_ok (ev rfl rfl) (aCons_ok hs rfl)) rfl (table_ok tot h.n) rfl
  have h2 : eBi allD (aCons (eLcL 3 (iSeq (eVar 1)) (gSet 2) mYes (eFrz (eCall F_is_integer (aCons (eVar 2) aNil) [] [])) [2]) aNil) ρ = .ok (.bl true) ρ := by
    refine all_t (o := true) (ys := (tot.map D.int).map fun _ => .bl true) (aCons_ok (lc_map1 (i := 2) (ρ1 := ρ) (iSeq_ok (d := T tot) (ev rfl rfl) rfl) (by rw [List.length_map, h.n]; omega) rfl rfl (by decide) ?_) rfl) ?_
    · intro d hd
      obtain ⟨i, hi, rfl⟩ := mem_T hd
      exact eFrz_ok (d := .bl true) (eCall_of (ρ1 := ρ.set 2 (some (.int i))) (aCons_ok (ev rfl rfl) rfl) rfl (isint_ok i) rfl)
    · intro y hy
      obtain ⟨_, _, rfl⟩ := List.mem_map.mp hy
      rfl
  exact (sIf_f (G := sNext) (mOr_f (mNot_ok (b := true) (eB_ok h1)) (mNot_ok (b := true) (eB_ok h2)))).trans rfl
theorem pair_ok (j k : Int) : F_is_pair [.tup [.int j, .int k]] = .ok (.bl true) [none] := by kernel_rfl
theorem places_ok {l : List Int} (c : Club l) {j k : Nat} (hj : j < N l) (hk : k < N l) : F_are_places [T l, .tup [.int j, .int k]] = .ok (.bl true) [none, none] := by
  let ρ : DL.Env := [some (T l), some (.tup [.int j, .int k])]
  refine run_ok (b := b_are_places) (ρ := ρ) (ρ0 := ρ) ?_ rfl (by simp [ρ]) rfl
  unfold b_are_places
  have i0 : e2 ixD (eVar 1) (eC (.int 0)) ρ = .ok (.int j) ρ := rfl
  have i1 : e2 ixD (eVar 1) (eC (.int 1)) ρ = .ok (.int k) ρ := rfl
  have h0 : eCall F_is_pair (aCons (eVar 1) aNil) [] [] ρ = .ok (.bl true) ρ := eCall_of (ρ1 := ρ) (aCons_ok (ev rfl rfl) rfl) rfl (pair_ok j k) rfl
  have h1 : eCall F_is_place (aCons (eVar 0) (aCons (e2 ixD (eVar 1) (eC (.int 0))) aNil)) [] [] ρ = .ok (.bl true) ρ := eCall_of (ρ1 := ρ) (aCons_ok (ev rfl rfl) (aCons_ok i0 rfl)) rfl (is_place_ok c hj) rfl
  have h2 : eCall F_is_place (aCons (eVar 0) (aCons (e2 ixD (eVar 1) (eC (.int 1))) aNil)) [] [] ρ = .ok (.bl true) ρ := eCall_of (ρ1 := ρ) (aCons_ok (ev rfl rfl) (aCons_ok i1 rfl)) rfl (is_place_ok c hk) rfl
  exact sRet_ok (eAnd_t h0 (eAnd_t h1 h2))
theorem box_sum_ok {l tot : List Int} (c : Club l) (h : Tot l tot) {j k : Nat} (hj : j < N l) (hk : k < N l) : F_box_sum [T l, T tot, .tup [.int j, .int k]] = .ok (.int (bs l tot j k)) [none, none, none] := by
  let ρ : DL.Env := [some (T l), some (T tot), some (.tup [.int j, .int k])]
  refine run_ok (b := b_box_sum) (ρ := ρ) (ρ0 := ρ) ?_ rfl (by simp [ρ]) rfl
  unfold b_box_sum
  have i0 : e2 ixD (eVar 2) (eC (.int 0)) ρ = .ok (.int j) ρ := rfl
  have i1 : e2 ixD (eVar 2) (eC (.int 1)) ρ = .ok (.int k) ρ := rfl
  refine Eq.trans (seq_nx (sDrop_ok (eCall_of (ρ1 := ρ) (aCons_ok (ev rfl rfl) rfl) rfl (check_ok c) rfl))) ?_
  refine Eq.trans (seq_nx (sDrop_ok (eCall_of (ρ1 := ρ) (aCons_ok (ev rfl rfl) (aCons_ok (ev rfl rfl) rfl)) rfl (totals_ok c h) rfl))) ?_
  refine Eq.trans (seq_nx ((sIf_f (G := sNext) (mNot_ok (b := true) (eB_ok (eCall_of (ρ1 := ρ) (aCons_ok (ev rfl rfl) (aCons_ok (ev rfl rfl) rfl)) rfl (places_ok c hj hk) rfl)))).trans rfl)) ?_
  exact sRet_ok (eCall_of (ρ1 := ρ) (aCons_ok (ev rfl rfl) (aCons_ok (ev rfl rfl) (aCons_ok i0 (aCons_ok i1 rfl)))) rfl (sum_of_box_ok c h hj hk) rfl)
/-! the law's own sum -/
abbrev bE (l tot xs ys : List Int) (x4 x5 x6 x7 : Option D) : DL.Env := [some (T l), some (T tot), some (T xs), some (T ys), x4, x5, x6, x7, none, none]
def bxB : SF := (sSeq (sAsg (eFrz (eLcL 10 (iSeq (eVar 4)) (gTupD 2 (gsCons (gSet 8) (gsCons (gSet 9) gsNil))) mYes (teA 5 8 9) [8, 9])) (gSet 7))
  (sSeq (sIf (eB (e2 neD (eVar 5) (eVar 6))) (sAsg (eFrz (e2 addD (eVar 7) (eLcL 10 (iSeq (eVar 4)) (gTupD 2 (gsCons (gSet 8) (gsCons (gSet 9) gsNil))) mYes (teN 6 8 9) [8, 9]))) (gSet 7)) sNext)
  (sAsg (eFrz (eVar 7)) (gSet 4))))
theorem add_lst {o p : Bool} {xs ys : List D} (h : xs.length + ys.length ≤ 100000) : addD (.lst o xs) (.lst p ys) = some (.lst true (xs ++ ys)) := by
  show (if xs.length + ys.length ≤ sizeLine then some (D.lst true (xs ++ ys)) else none) = _
  rw [if_pos (Nat.le_trans h (by rw [sizeLine_eq]; decide))]
theorem bxB_ok (l tot xs ys : List Int) (cs : List (List Int × Int)) (a b : Int) (x7 : Option D) (hl : ∀ c ∈ cs, c.1.length ≤ 1000) (hcs : cs.length ≤ 1000) : bxB (bE l tot xs ys (some (.lst false (CD cs))) (some (.int a)) (some (.int b)) x7) = .nx (bE l tot xs ys (some (.lst false (CD (cstep cs a b)))) (some (.int a)) (some (.int b)) (some (.lst false (CD (cstep cs a b))))) := by
  have it : ∀ x7, iSeq (eVar 4) (bE l tot xs ys (some (.lst false (CD cs))) (some (.int a)) (some (.int b)) x7) = .ok (CD cs) (bE l tot xs ys (some (.lst false (CD cs))) (some (.int a)) (some (.int b)) x7) := fun x7 => iSeq_ok (d := .lst false (CD cs)) (ev rfl rfl) (by show some (frzL (CD cs)) = _; rw [frzL_CD])
  have lcA : ∀ x7, eLcL 10 (iSeq (eVar 4)) (gTupD 2 (gsCons (gSet 8) (gsCons (gSet 9) gsNil))) mYes (teA 5 8 9) [8, 9] (bE l tot xs ys (some (.lst false (CD cs))) (some (.int a)) (some (.int b)) x7) = .ok (.lst true (CD (cs.map fun c => (c.1 ++ [a], c.2)))) (bE l tot xs ys (some (.lst false (CD cs))) (some (.int a)) (some (.int b)) x7) := fun x7 => by
    rw [show CD (cs.map fun c => (c.1 ++ [a], c.2)) = cs.map (pC ∘ fun c => (c.1 ++ [a], c.2)) from List.map_map]
    refine eLcL_ok (it _) (by rw [List.length_map]; omega) rfl (lcGo_as (P := pC) (E := fun c => [some (T l), some (T tot), some (T xs), some (T ys), some (.lst false (CD cs)), some (.int a), some (.int b), x7, some (T c.1), some (.int c.2)]) (Y := pC ∘ fun c => (c.1 ++ [a], c.2)) cs _ rfl fun c hc => ⟨rfl, ?_, rfl⟩)
    exact teA_ok rfl rfl rfl (hl c hc)
  have lcB : ∀ x7, eLcL 10 (iSeq (eVar 4)) (gTupD 2 (gsCons (gSet 8) (gsCons (gSet 9) gsNil))) mYes (teN 6 8 9) [8, 9] (bE l tot xs ys (some (.lst false (CD cs))) (some (.int a)) (some (.int b)) x7) = .ok (.lst true (CD (cs.map fun c => (c.1 ++ [b], -c.2)))) (bE l tot xs ys (some (.lst false (CD cs))) (some (.int a)) (some (.int b)) x7) := fun x7 => by
    rw [show CD (cs.map fun c => (c.1 ++ [b], -c.2)) = cs.map (pC ∘ fun c => (c.1 ++ [b], -c.2)) from List.map_map]
    refine eLcL_ok (it _) (by rw [List.length_map]; omega) rfl (lcGo_as (P := pC) (E := fun c => [some (T l), some (T tot), some (T xs), some (T ys), some (.lst false (CD cs)), some (.int a), some (.int b), x7, some (T c.1), some (.int c.2)]) (Y := pC ∘ fun c => (c.1 ++ [b], -c.2)) cs _ rfl fun c hc => ⟨rfl, ?_, rfl⟩)
    exact teN_ok rfl rfl rfl (hl c hc)
  have frz2 : ∀ (f : M D) (ρ ρ1 : DL.Env) (o : Bool) (c2 : List (List Int × Int)), f ρ = .ok (.lst o (CD c2)) ρ1 → eFrz f ρ = .ok (.lst false (CD c2)) ρ1 := fun f ρ ρ1 o c2 h => by
    refine (eFrz_ok h).trans ?_
    show Res.ok (D.lst false (frzL (CD c2))) _ = _
    rw [frzL_CD]
  unfold bxB
  refine Eq.trans (seq_nx (sAsg_ok (frz2 _ _ _ _ _ (lcA x7)) rfl)) ?_
  let ρ1 : DL.Env := bE l tot xs ys (some (.lst false (CD cs))) (some (.int a)) (some (.int b)) (some (.lst false (CD (cs.map fun c => (c.1 ++ [a], c.2)))))
  have v5 : eVar 5 ρ1 = .ok (.int a) ρ1 := ev rfl rfl
  have v6 : eVar 6 ρ1 = .ok (.int b) ρ1 := ev rfl rfl
  have fin : ∀ c2, sAsg (eFrz (eVar 7)) (gSet 4) (bE l tot xs ys (some (.lst false (CD cs))) (some (.int a)) (some (.int b)) (some (.lst false (CD c2)))) = .nx (bE l tot xs ys (some (.lst false (CD c2))) (some (.int a)) (some (.int b)) (some (.lst false (CD c2)))) := fun c2 => sAsg_ok (frz2 _ _ _ false c2 (ev rfl rfl)) rfl
  by_cases e : a = b
  · refine Eq.trans (seq_nx (ρ1 := ρ1) ((sIf_f (G := sNext) (eB_ok (nei_ok v5 v6 (by rw [decide_eq_true e]; rfl)))).trans rfl)) ?_
    refine (fin _).trans ?_
    unfold cstep
    rw [if_pos e, List.append_nil]
  · have ecs : CD (cs.map fun c => (c.1 ++ [a], c.2)) ++ CD (cs.map fun c => (c.1 ++ [b], -c.2)) = CD (cstep cs a b) := by
      unfold cstep
      rw [if_neg e]
      exact List.map_append.symm
    have ha : e2 addD (eVar 7) (eLcL 10 (iSeq (eVar 4)) (gTupD 2 (gsCons (gSet 8) (gsCons (gSet 9) gsNil))) mYes (teN 6 8 9) [8, 9]) ρ1 = .ok (.lst true (CD (cstep cs a b))) ρ1 := by
      rw [← ecs]
      exact DL.e2_ok (ev rfl rfl) (lcB _) (add_lst (by simp only [List.length_map]; omega))
    refine Eq.trans (seq_nx (ρ1 := bE l tot xs ys (some (.lst false (CD cs))) (some (.int a)) (some (.int b)) (some (.lst false (CD (cstep cs a b))))) ((sIf_t (eB_ok (nei_ok v5 v6 (by rw [decide_eq_false e]; rfl)))).trans (sAsg_ok (frz2 _ _ _ true _ ha) rfl))) ?_
    exact fin _
theorem cstep_len (cs : List (List Int × Int)) (a b : Int) : (cstep cs a b).length ≤ cs.length * 2 := by
  unfold cstep
  rw [List.length_append, List.length_map]
  split
  · simp; omega
  · rw [List.length_map]; omega
theorem cstep_row {cs : List (List Int × Int)} {n : Nat} (a b : Int) (hn : ∀ c ∈ cs, c.1.length ≤ n) : ∀ c ∈ cstep cs a b, c.1.length ≤ n + 1 := by
  intro c hc
  unfold cstep at hc
  rcases List.mem_append.mp hc with h | h
  · obtain ⟨d, hd, rfl⟩ := List.mem_map.mp h
    have := hn d hd
    rw [List.length_append]
    simp only [List.length_singleton]
    omega
  · split at h
    · cases h
    · obtain ⟨d, hd, rfl⟩ := List.mem_map.mp h
      have := hn d hd
      rw [List.length_append]
      simp only [List.length_singleton]
      omega
theorem bx_loop (l tot xs0 ys0 : List Int) : ∀ (xs ys : List Int) (cs : List (List Int × Int)) (n : Nat) (x5 x6 x7 : Option D), xs.length = ys.length → (∀ c ∈ cs, c.1.length ≤ n) → n + xs.length ≤ 1000 → cs.length * 2 ^ xs.length ≤ 1000 →
    ∃ y5 y6 y7, forGo (gTupD 2 (gsCons (gSet 5) (gsCons (gSet 6) gsNil))) bxB (zipD (xs.map D.int) (ys.map D.int)) (bE l tot xs0 ys0 (some (.lst false (CD cs))) x5 x6 x7) = .nx (bE l tot xs0 ys0 (some (.lst false (CD (corn cs xs ys)))) y5 y6 y7)
  | [], [], cs, n, x5, x6, x7, _, _, _, _ => ⟨x5, x6, x7, rfl⟩
  | a :: xs, b :: ys, cs, n, x5, x6, x7, he, hn, hl, hb => by
    rw [List.length_cons, Nat.pow_succ] at hb
    rw [List.length_cons] at hl
    have hp : 1 ≤ 2 ^ xs.length := Nat.one_le_two_pow
    have hc1 : cs.length * 1 ≤ cs.length * (2 ^ xs.length * 2) := Nat.mul_le_mul_left _ (by omega)
    have h2 : (cstep cs a b).length * 2 ^ xs.length ≤ 1000 := by
      have := Nat.mul_le_mul_right (2 ^ xs.length) (cstep_len cs a b)
      have e : cs.length * 2 * 2 ^ xs.length = cs.length * (2 ^ xs.length * 2) := by rw [Nat.mul_assoc, Nat.mul_comm 2]
      omega
    obtain ⟨y5, y6, y7, ih⟩ := bx_loop l tot xs0 ys0 xs ys (cstep cs a b) (n + 1) (some (.int a)) (some (.int b)) (some (.lst false (CD (cstep cs a b)))) (by simpa using he) (cstep_row a b hn) (by omega) h2
    refine ⟨y5, y6, y7, ?_⟩
    have hbd := bxB_ok l tot xs0 ys0 cs a b x7 (fun c hc => by have := hn c hc; omega) (by omega)
    show forGo _ _ (.tup [.int a, .int b] :: zipD (xs.map D.int) (ys.map D.int)) _ = _
    rw [forGo_cons rfl hbd]
    exact ih
  | [], _ :: _, _, _, _, _, _, he, _, _, _ => by cases he
  | _ :: _, [], _, _, _, _, _, he, _, _, _ => by cases he
theorem law_place_eq : F_law_place = F_place_of := rfl
theorem law_box_ok {l tot : List Int} (c : Club l) (h : Tot l tot) {j k : Nat} (hj : j < N l) (hk : k < N l) : F_law_box_sum [T l, T tot, T (slips l j), T (slips l k)] = .ok (.int (bs l tot j k)) [none, none, none, none] := by
  have h8 : 2 ^ l.length ≤ 2 ^ 8 := Nat.pow_le_pow_right (by decide) c.n8
  have hn8 := c.n8
  obtain ⟨y5, y6, y7, loop⟩ := bx_loop l tot (slips l j) (slips l k) (slips l j) (slips l k) [([], 1)] 0 none none none (by rw [slips_len, slips_len]) (by simp) (by rw [slips_len]; omega) (by rw [slips_len]; simp; omega)
  let ρ0 : DL.Env := bE l tot (slips l j) (slips l k) none none none none
  let ρ1 : DL.Env := bE l tot (slips l j) (slips l k) (some (.lst false (CD [([], 1)]))) none none none
  let ρ2 : DL.Env := bE l tot (slips l j) (slips l k) (some (.lst false (CD (cor l j k)))) y5 y6 y7
  refine run_ok (b := b_law_box_sum) (ρ := ρ2) (ρ0 := ρ0) ?_ rfl (by simp [ρ2]) rfl
  unfold b_law_box_sum
  refine Eq.trans (seq_nx (ρ1 := ρ1) (by
    have h : eFrz (eLst (aCons (eTup (aCons (eTup aNil) (aCons (eC (.int 1)) aNil))) aNil)) ρ0 = .ok (.lst false (CD [([], 1)])) ρ0 := rfl
    exact sAsg_ok h rfl)) ?_
  refine Eq.trans (seq_nx (ρ1 := ρ2) ((sFor_of (zip_ok ρ1 (ev rfl rfl) (ev rfl rfl))).trans loop)) ?_
  have it : iSeq (eVar 4) ρ2 = .ok (CD (cor l j k)) ρ2 := iSeq_ok (d := .lst false (CD (cor l j k))) (ev rfl rfl) (by show some (frzL (CD (cor l j k))) = _; rw [frzL_CD])
  have lc := eLcL_ok (L := 10) (tt := mYes) it (by have := cor_len c j k; rw [List.length_map]; omega) rfl (lcGo_as (g := gTupD 2 (gsCons (gSet 8) (gsCons (gSet 9) gsNil))) (te := eFrz (e2 mulD (eVar 9) (e2 ixD (eVar 1) (eCall F_law_place (aCons (eVar 0) (aCons (eVar 8) aNil)) [] [])))) (vs := [8, 9]) (P := pC) (E := fun x => [some (T l), some (T tot), some (T (slips l j)), some (T (slips l k)), some (.lst false (CD (cor l j k))), y5, y6, y7, some (T x.1), some (.int x.2)]) (Y := fun x => .int (x.2 * tf l tot x.1)) (ρ := ρ2) (cor l j k) ρ2 rfl fun x hx => ⟨rfl, by
    obtain ⟨n, hn, ep, _⟩ := place_row (cor_rows c hj hk x hx)
    let ρd : DL.Env := [some (T l), some (T tot), some (T (slips l j)), some (T (slips l k)), some (.lst false (CD (cor l j k))), y5, y6, y7, some (T x.1), some (.int x.2)]
    have hc : eCall F_law_place (aCons (eVar 0) (aCons (eVar 8) aNil)) [] [] ρd = .ok (.int (placeP x.1 l 0)) ρd := eCall_of (ρ1 := ρd) (aCons_ok (ev rfl rfl) (aCons_ok (ev rfl rfl) rfl)) rfl (by rw [law_place_eq]; exact place_ok (cor_rows c hj hk x hx) c.n8) rfl
    have hi : e2 ixD (eVar 1) (eCall F_law_place (aCons (eVar 0) (aCons (eVar 8) aNil)) [] []) ρd = .ok (.int (tf l tot x.1)) ρd := by
      refine DL.e2_ok (x := T tot) (y := .int (placeP x.1 l 0)) (ev rfl rfl) hc ?_
      unfold tf
      rw [ep, Int.toNat_natCast]
      exact ix_TI (by rw [h.n]; exact hn)
    exact eFrz_int (mul_ok (ev rfl rfl) hi (one_mul_ok (cor_sign l j k x hx) (tf_le h x.1))), rfl⟩)
  have e : (cor l j k).map (fun x => D.int (x.2 * tf l tot x.1)) = ((cor l j k).map fun x => x.2 * tf l tot x.1).map D.int := by rw [List.map_map]; rfl
  rw [e] at lc
  have es : ((cor l j k).map fun x => x.2 * tf l tot x.1).sum = bs l tot j k := corn_box _ _ _
  rw [← es]
  exact sRet_ok (sum_ints (aCons_ok lc rfl))
end Lk63

set_option Elab.async false
set_option linter.all false
set_option maxRecDepth 100000
set_option maxHeartbeats 2000000
namespace Lk63
open PySem PySem.Spec L2 DL
/-! a drawn number -/
theorem pow9 : powD (.int 10) (.int 9) = some (.int 1000000000) := by kernel_rfl
theorem pow37 : powD (.int 10) (.int 37) = some (.int (10 ^ 37)) := by kernel_rfl
def nrB : SF := (sIf (eB (e2 ltD (eVar 2) (eVar 1))) (sAsg (eFrz (e2 addD (e2 mulD (eVar 2) (e2 powD (eC (.int 10)) (eC (.int 9)))) (eCall F_law_draw (aCons (eMove 0) (aCons (e2 powD (eC (.int 10)) (eC (.int 9))) aNil)) [] [(0, 0)]))) (gSet 2)) sNext)
theorem nr_loop {size : Int} (h : size ≤ 10 ^ 37) : ∀ (ds : List D) (s : D) (B v : Int) (x3 : Option D), Pool B s → B + ds.length < 2 ^ 39 → 0 ≤ v → v ≤ 10 ^ 47 →
    ∃ s' v' y3, forGo (gSet 3) nrB ds [some s, some (.int size), some (.int v), x3] = .nx [some s', some (.int size), some (.int v'), y3] ∧ Pool (B + ds.length) s'
  | [], s, B, v, x3, hs, _, _, _ => ⟨s, v, x3, rfl, by simpa using hs⟩
  | d :: ds, s, B, v, x3, hs, hB, v0, v1 => by
    rw [List.length_cons] at hB ⊢
    let ρ : DL.Env := [some s, some (.int size), some (.int v), some d]
    have hv2 : eVar 2 ρ = .ok (.int v) ρ := ev rfl rfl
    have hv1 : eVar 1 ρ = .ok (.int size) ρ := ev rfl rfl
    by_cases c : v < size
    · obtain ⟨r, s1, k1, r0, r1, hs1⟩ := drw (ρ := ρ) (i := 0) (f := e2 powD (eC (.int 10)) (eC (.int 9))) (m := 1000000000) hs rfl (DL.e2_ok rfl rfl pow9) (by omega) (by omega) (by omega)
      have hv : v.natAbs ≤ 10 ^ 47 := by omega
      have hm : mulD (.int v) (.int 1000000000) = some (.int (v * 1000000000)) := mulD_ok (Nat.lt_of_le_of_lt hv (by decide)) (by decide)
      have hb : nrB ρ = .nx [some s1, some (.int size), some (.int (v * 1000000000 + r)), some d] := by
        refine (sIf_t (eB_ok (lt_ok hv2 hv1 (decide_eq_true c)))).trans ?_
        exact sAsg_ok (eFrz_int (add_ok (mul_ok hv2 (DL.e2_ok rfl rfl pow9) hm) k1)) rfl
      obtain ⟨s2, v2, y3, k2, hs2⟩ := nr_loop h ds s1 (B + 1) (v * 1000000000 + r) (some d) hs1 (by omega) (by omega) (by omega)
      refine ⟨s2, v2, y3, ?_, hs2.mono (by omega)⟩
      rw [forGo_cons rfl hb]
      exact k2
    · have hb : nrB ρ = .nx ρ := (sIf_f (G := sNext) (eB_ok (lt_ok hv2 hv1 (decide_eq_false c)))).trans rfl
      obtain ⟨s2, v2, y3, k2, hs2⟩ := nr_loop h ds s B v (some d) hs (by omega) v0 v1
      refine ⟨s2, v2, y3, ?_, hs2.mono (by omega)⟩
      rw [forGo_cons rfl hb]
      exact k2
theorem near_ok {size B : Int} {s : D} (h : 1 ≤ size ∧ size ≤ 10 ^ 37) (hs : Pool B s) (hB : B < 2 ^ 38) : ∃ v s', F_law_near [s, .int size] = .ok (.int v) [some s', none] ∧ -size ≤ v ∧ v ≤ size ∧ Pool (B + 8) s' := by
  let ρ : DL.Env := [some s, some (.int size), none, none]
  have hv1 : eVar 1 ρ = .ok (.int size) ρ := ev rfl rfl
  by_cases c : size < 1000000000
  · obtain ⟨r, s1, k1, r0, r1, hs1⟩ := drw (ρ := ρ) (i := 0) (f := e2 addD (e2 mulD (eC (.int 2)) (eVar 1)) (eC (.int 1))) (m := 2 * size + 1) hs rfl (add_ok (mul_ok (i := 2) (j := size) rfl (ev rfl rfl) (mulD_ok2 (by omega) (by omega))) rfl) (by omega) (by omega) (by omega)
    refine ⟨r - size, s1, run_ok (b := b_law_near) (ρ := [some s1, some (.int size), none, none]) (ρ0 := ρ) ?_ rfl (by simp) rfl, by omega, by omega, hs1.mono (by omega)⟩
    unfold b_law_near
    exact seq_ret ((sIf_t (eB_ok (lt_ok hv1 (DL.e2_ok rfl rfl pow9) (decide_eq_true c)))).trans (sRet_ok (sub_ok k1 (ev rfl rfl))))
  · obtain ⟨s2, v, y3, k2, hs2⟩ := nr_loop h.2 (rgD 0 8) s B 0 none hs (by rw [rgD_len]; omega) (by omega) (by omega)
    rw [rgD_len] at hs2
    have hm : 0 ≤ v % (2 * size + 1) ∧ v % (2 * size + 1) < 2 * size + 1 := ⟨Int.emod_nonneg _ (by omega), Int.emod_lt_of_pos _ (by omega)⟩
    let ρ2 : DL.Env := [some s2, some (.int size), some (.int v), y3]
    refine ⟨v % (2 * size + 1) - size, s2, run_ok (b := b_law_near) (ρ := ρ2) (ρ0 := ρ) ?_ rfl (by simp [ρ2]) rfl, by omega, by omega, hs2.mono (by omega)⟩
    unfold b_law_near
    refine Eq.trans (seq_nx ((sIf_f (G := sNext) (eB_ok (lt_ok hv1 (DL.e2_ok rfl rfl pow9) (decide_eq_false c)))).trans rfl)) ?_
    refine Eq.trans (seq_nx (ρ1 := [some s, some (.int size), some (.int 0), none]) (sAsg_ok (show eC (.int 0) ρ = .ok (.int 0) ρ from rfl) rfl)) ?_
    refine Eq.trans (seq_nx (ρ1 := ρ2) ((sFor_of (ρ1 := [some s, some (.int size), some (.int 0), none]) (iRg1_ok (n := 8) (aCons_ok rfl rfl) (by omega))).trans k2)) ?_
    have w2 : eVar 2 ρ2 = .ok (.int v) ρ2 := ev rfl rfl
    have w1 : eVar 1 ρ2 = .ok (.int size) ρ2 := ev rfl rfl
    have hv : size.natAbs ≤ 10 ^ 37 := by omega
    have hmul : mulD (.int 2) (.int size) = some (.int (2 * size)) := mulD_ok (by decide) (Nat.lt_of_le_of_lt hv (by decide))
    exact sRet_ok (sub_ok (mod_ok (int_ok (aCons_ok w2 rfl)) (add_ok (mul_ok (i := 2) rfl w1 hmul) rfl) (modD_ok (by omega))) w1)
theorem number_ok {B : Int} {s : D} (hs : Pool B s) (hB : B < 2 ^ 37) : ∃ v s', F_law_number [s] = .ok (.int v) [some s'] ∧ v.natAbs ≤ 10 ^ 37 ∧ Pool (B + 9) s' := by
  obtain ⟨size, s1, k1, hm, hs1⟩ := pick_ok (ls := [1, 3, 3, 9, 100, 10 ^ 37]) hs (by omega) (by simp) (by simp)
  have hsz : 1 ≤ size ∧ size ≤ 10 ^ 37 := by
    simp only [List.mem_cons, List.not_mem_nil, or_false] at hm
    rcases hm with rfl | rfl | rfl | rfl | rfl | rfl <;> decide
  obtain ⟨v, s2, k2, v0, v1, hs2⟩ := near_ok hsz hs1 (by omega)
  refine ⟨v, s2, run_ok (b := b_law_number) (ρ := [some s2]) (ρ0 := [some s]) ?_ rfl (by simp) rfl, by omega, hs2.mono (by omega)⟩
  unfold b_law_number
  have hl : eFrz (eLst (aCons (eC (.int 1)) (aCons (eC (.int 3)) (aCons (eC (.int 3)) (aCons (eC (.int 9)) (aCons (eC (.int 100)) (aCons (e2 powD (eC (.int 10)) (eC (.int 37))) aNil))))))) [none] = .ok (.lst false ([1, 3, 3, 9, 100, 10 ^ 37].map .int)) [none] := eFrz_ok (d := .lst true ([1, 3, 3, 9, 100, 10 ^ 37].map .int)) (eLst_ok (ds := [1, 3, 3, 9, 100, 10 ^ 37].map .int) (aCons_ok rfl (aCons_ok rfl (aCons_ok rfl (aCons_ok rfl (aCons_ok rfl (aCons_ok (DL.e2_ok rfl rfl pow37) rfl)))))) (by simp))
  have hp : eCall F_law_pick (aCons (eMove 0) (aCons (eFrz (eLst (aCons (eC (.int 1)) (aCons (eC (.int 3)) (aCons (eC (.int 3)) (aCons (eC (.int 9)) (aCons (eC (.int 100)) (aCons (e2 powD (eC (.int 10)) (eC (.int 37))) aNil)))))))) aNil)) [] [(0, 0)] [some s] = .ok (.int size) [some s1] := eCall_of (aCons_ok (show eMove 0 [some s] = .ok s [none] from rfl) (aCons_ok hl rfl)) rfl k1 rfl
  exact sRet_ok (eCall_of (ρ1 := [none]) (aMvL_ok (d0 := s) (d := s1) (ρ1 := [some s1]) rfl (aCons_ok (eFrz_int hp) rfl) rfl) rfl k2 rfl)
/-! a drawn club -/
theorem Pr_app (l : List Int) (x : Int) : Pr (l ++ [x]) = Pr l * x := by unfold Pr; rw [List.foldl_append]; rfl
structure Mk (l : List Int) (size most : Int) : Prop where
  s : ∀ x ∈ l, 1 ≤ x ∧ x ≤ 4
  p : Pr l = size
  r : 1 ≤ size ∧ size ≤ most
abbrev gE (most : Int) (s : D) (l : List Int) (size : Int) (x4 x5 : Option D) : DL.Env := [some s, some (.int most), some (.lst true (l.map .int)), some (.int size), x4, x5]
def pick6 : M D := (eCall F_law_pick (aCons (eMove 0) (aCons (eFrz (eLst (aCons (eC (.int 1)) (aCons (eC (.int 2)) (aCons (eC (.int 2)) (aCons (eC (.int 2)) (aCons (eC (.int 3)) (aCons (eC (.int 4)) aNil)))))))) aNil)) [] [(0, 0)])
def clB : SF := (sSeq (sAsg (eFrz pick6) (gSet 5))
  (sSeq (sIf (eB (e2 gtD (e2 mulD (eVar 3) (eVar 5)) (eVar 1))) (sAsg (eFrz (eIf (eB (e2 lebD (e2 mulD (eVar 3) (eC (.int 2))) (eVar 1))) (eC (.int 2)) (eC (.int 1)))) (gSet 5)) sNext)
  (sSeq (sDrop (eApp 2 (eVar 5)))
  (sAsg (eFrz (e2 mulD (eVar 3) (eVar 5))) (gSet 3)))))
theorem clB_ok {most : Int} (hmost : most ≤ 256) {s : D} {l : List Int} {size B : Int} (h : Mk l size most) (hl : l.length ≤ 100) (hs : Pool B s) (hB : B < 2 ^ 36) (x4 x5 : Option D) :
    ∃ s' v, clB (gE most s l size x4 x5) = .nx (gE most s' (l ++ [v]) (size * v) x4 (some (.int v))) ∧ Mk (l ++ [v]) (size * v) most ∧ Pool (B + 1) s' := by
  obtain ⟨q, s1, k1, hq, hs1⟩ := pick_ok (ls := [1, 2, 2, 2, 3, 4]) hs (by omega) (by simp) (by simp)
  have hr := h.r
  have hq4 : 1 ≤ q ∧ q ≤ 4 := by
    simp only [List.mem_cons, List.not_mem_nil, or_false] at hq
    omega
  have hp : pick6 (gE most s l size x4 x5) = .ok (.int q) (gE most s1 l size x4 x5) := eCall_of (ρ1 := (gE most s l size x4 x5).set 0 none) (aCons_ok rfl (aCons_ok rfl rfl)) rfl k1 rfl
  let ρ1 := gE most s1 l size x4 (some (.int q))
  have t1 : ∀ R : SF, sSeq (sAsg (eFrz pick6) (gSet 5)) R (gE most s l size x4 x5) = R ρ1 := fun R => seq_nx (sAsg_ok (eFrz_int hp) rfl)
  have mid : ∃ v : Int, (1 ≤ v ∧ v ≤ 4 ∧ size * v ≤ most) ∧ (sIf (eB (e2 gtD (e2 mulD (eVar 3) (eVar 5)) (eVar 1))) (sAsg (eFrz (eIf (eB (e2 lebD (e2 mulD (eVar 3) (eC (.int 2))) (eVar 1))) (eC (.int 2)) (eC (.int 1)))) (gSet 5)) sNext) ρ1 = .nx (gE most s1 l size x4 (some (.int v))) := by
    have v3 : eVar 3 ρ1 = .ok (.int size) ρ1 := ev rfl rfl
    have v5 : eVar 5 ρ1 = .ok (.int q) ρ1 := ev rfl rfl
    have v1 : eVar 1 ρ1 = .ok (.int most) ρ1 := ev rfl rfl
    have hm : mulD (.int size) (.int q) = some (.int (size * q)) := mulD_ok2 (by omega) (by omega)
    have hm2 : mulD (.int size) (.int 2) = some (.int (size * 2)) := mulD_ok2 (by omega) (by omega)
    by_cases c : most < size * q
    · have ht := eB_ok (gt_ok (mul_ok v3 v5 hm) v1 (decide_eq_true c))
      by_cases c2 : size * 2 ≤ most
      · exact ⟨2, ⟨by omega, by omega, c2⟩, (sIf_t ht).trans (sAsg_ok (eFrz_int (eIf_t (eB_ok (le_ok (mul_ok v3 rfl hm2) v1 (decide_eq_true c2))) rfl)) rfl)⟩
      · exact ⟨1, ⟨by omega, by omega, by omega⟩, (sIf_t ht).trans (sAsg_ok (eFrz_int (eIf_f (eB_ok (le_ok (mul_ok v3 rfl hm2) v1 (decide_eq_false c2))) rfl)) rfl)⟩
    · exact ⟨q, ⟨hq4.1, hq4.2, by omega⟩, (sIf_f (G := sNext) (eB_ok (gt_ok (mul_ok v3 v5 hm) v1 (decide_eq_false c)))).trans rfl⟩
  obtain ⟨v, ⟨v1, v4, vm⟩, t2⟩ := mid
  let ρ2 := gE most s1 l size x4 (some (.int v))
  let ρ3 := gE most s1 (l ++ [v]) size x4 (some (.int v))
  have ha : eApp 2 (eVar 5) ρ2 = .ok .non ρ3 := by
    refine (DL.app_ok (i := 2) (ds := l.map .int) (d := .int v) (ρ := ρ2) (ρ1 := ρ2) ⟨_, rfl⟩ (ev rfl rfl) rfl (by rw [List.length_map]; omega)).trans ?_
    rw [show l.map D.int ++ [D.int v] = (l ++ [v]).map D.int from by rw [List.map_append]; rfl]
    rfl
  have hm : mulD (.int size) (.int v) = some (.int (size * v)) := mulD_ok2 (by omega) (by omega)
  have h1 : size * 1 ≤ size * v := Int.mul_le_mul_of_nonneg_left v1 (by omega)
  refine ⟨s1, v, ?_, ⟨fun x hx => ?_, by rw [Pr_app, h.p], by omega, vm⟩, hs1⟩
  · unfold clB
    rw [t1]
    refine Eq.trans (seq_nx t2) ?_
    refine Eq.trans (seq_nx (sDrop_ok ha)) ?_
    exact sAsg_ok (eFrz_int (mul_ok (ev rfl rfl) (ev rfl rfl) hm)) rfl
  · rcases List.mem_append.mp hx with hx | hx
    · exact h.s x hx
    · rw [List.mem_singleton.mp hx]; exact ⟨v1, v4⟩
theorem cl_loop {most : Int} (hmost : most ≤ 256) : ∀ (ds : List D) (s : D) (l : List Int) (size B : Int) (x4 x5 : Option D), Mk l size most → l.length + ds.length ≤ 100 → Pool B s → B + ds.length < 2 ^ 36 →
    ∃ s' l' size' y4 y5, forGo (gSet 4) clB ds (gE most s l size x4 x5) = .nx (gE most s' l' size' y4 y5) ∧ Mk l' size' most ∧ l'.length = l.length + ds.length ∧ Pool (B + ds.length) s'
  | [], s, l, size, B, x4, x5, h, _, hs, _ => ⟨s, l, size, x4, x5, rfl, h, rfl, by simpa using hs⟩
  | d :: ds, s, l, size, B, x4, x5, h, hl, hs, hB => by
    rw [List.length_cons] at hl hB ⊢
    obtain ⟨s1, v, k1, h1, hs1⟩ := clB_ok hmost h (by omega) hs (by omega) (some d) x5
    obtain ⟨s2, l2, size2, y4, y5, k2, h2, hl2, hs2⟩ := cl_loop hmost ds s1 (l ++ [v]) (size * v) (B + 1) (some d) (some (.int v)) h1 (by rw [List.length_append, List.length_singleton]; omega) hs1 (by omega)
    refine ⟨s2, l2, size2, y4, y5, ?_, h2, by rw [hl2, List.length_append, List.length_singleton]; omega, hs2.mono (by omega)⟩
    rw [forGo_cons rfl k1]
    exact k2
theorem gclub_ok {most : Int} (hm : 1 ≤ most ∧ most ≤ 256) {B : Int} {s : D} (hs : Pool B s) (hB : B < 2 ^ 35) : ∃ s' l, F_law_club [s, .int most] = .ok (T l) [some s', none] ∧ Club l ∧ Pool (B + 10) s' := by
  obtain ⟨n, s1, k1, hn, hs1⟩ := pick_ok (ls := [1, 2, 2, 3, 3, 4, 5, 8]) hs (by omega) (by simp) (by simp)
  have hn8 : 1 ≤ n ∧ n ≤ 8 := by
    simp only [List.mem_cons, List.not_mem_nil, or_false] at hn
    omega
  obtain ⟨s2, l, size, y4, y5, k2, h2, hl2, hs2⟩ := cl_loop hm.2 (rgD 0 n) s1 [] 1 (B + 1) none none ⟨fun x hx => (by cases hx), rfl, by omega, hm.1⟩ (by rw [rgD_len]; simp; omega) hs1 (by rw [rgD_len]; omega)
  rw [rgD_len] at hl2 hs2
  have hlm : l.length = n.toNat := by rw [hl2]; simp
  let ρ0 : DL.Env := [some s, some (.int most), none, none, none, none]
  let ρ1 : DL.Env := [some s, some (.int most), some (.lst true []), some (.int 1), none, none]
  let ρ3 : DL.Env := [some s2, some (.int most), some (.lst false (l.map .int)), some (.int size), y4, y5]
  refine ⟨s2, l, run_ok (b := b_law_club) (ρ := ρ3) (ρ0 := ρ0) ?_ rfl (by simp [ρ3]) rfl, ⟨h2.s, by omega, by omega, by rw [h2.p]; have := h2.r; omega⟩, hs2.mono (by omega)⟩
  unfold b_law_club
  refine Eq.trans (seq_nx (ρ1 := [some s, some (.int most), some (.lst true []), none, none, none]) (sAsg_ok (d := .lst true []) (ρ1 := ρ0) (eLst_ok rfl (by simp)) rfl)) ?_
  refine Eq.trans (seq_nx (ρ1 := ρ1) (sAsg_ok (show eC (.int 1) _ = .ok (.int 1) [some s, some (.int most), some (.lst true []), none, none, none] from rfl) rfl)) ?_
  have hp : eCall F_law_pick (aCons (eMove 0) (aCons (eFrz (eLst (aCons (eC (.int 1)) (aCons (eC (.int 2)) (aCons (eC (.int 2)) (aCons (eC (.int 3)) (aCons (eC (.int 3)) (aCons (eC (.int 4)) (aCons (eC (.int 5)) (aCons (eC (.int 8)) aNil)))))))))) aNil)) [] [(0, 0)] ρ1 = .ok (.int n) (gE most s1 [] 1 none none) := eCall_of (ρ1 := ρ1.set 0 none) (aCons_ok rfl (aCons_ok rfl rfl)) rfl k1 rfl
  refine Eq.trans (seq_nx ((sFor_of (iRg1_ok (n := n) (aCons_ok hp rfl) (by omega))).trans k2)) ?_
  have hz : frzAt 2 (gE most s2 l size y4 y5) = ρ3 := by
    show [some s2, some (.int most), some (.lst false (frzL (l.map .int))), some (.int size), y4, y5] = _
    rw [frzL_ints]
  show sRet _ (frzAt 2 _) = _
  rw [hz]
  exact sRet_ok (tup_ints (o := false) (aCons_ok (ev rfl rfl) rfl))
/-! spots, unlike members -/
theorem nin1 (k m : Int) : ninD (.int k) (T [m]) = some (.bl (!decide (m = k))) := by
  unfold ninD inB
  rw [show toPy (T [m]) = some (.tuple [.int m]) from rfl, show toPy (.int k) = some (.int k) from rfl]
  have h3 : SeqAt.shaped (.tuple [.int m]) = true := rfl
  simp only [Option.bind_some, seqP, h3, shaped_int, and_self, if_true, List.any_cons, List.any_nil, Bool.or_false]
  rw [show PyData.eqv (.int m) (.int k) = decide (m = k) from by first | (rw [PyData.eqv]; done) | (rw [PyData.eqv]; rfl)]
  rfl
theorem spot_lc {r0 : List Int} {m : Nat} : ∀ (r : List Int) (k : Nat) (x2 x3 : Option D), lcGo (gTupD 2 (gsCons (gSet 2) (gsCons (gSet 3) gsNil))) (eB (e2 ninD (eVar 2) (eVar 1))) (eFrz (eVar 3)) [2, 3] (enumD k (r.map D.int)) [some (T r0), some (T [(m : Int)]), x2, x3] = .ok ((spotI m k r).map D.int) [some (T r0), some (T [(m : Int)]), none, none]
  | [], k, x2, x3 => rfl
  | x :: r, k, x2, x3 => by
    have ih := spot_lc (r0 := r0) (m := m) r (k + 1) (some (.int (k : Nat))) (some (.int x))
    let ρd : DL.Env := [some (T r0), some (T [(m : Int)]), some (.int (k : Nat)), some (.int x)]
    have hn : e2 ninD (eVar 2) (eVar 1) ρd = .ok (.bl (!decide ((m : Int) = k))) ρd := DL.e2_ok (ev rfl rfl) (ev rfl rfl) (nin1 k m)
    have v3 : eFrz (eVar 3) ρd = .ok (.int x) ρd := eFrz_int (ev rfl rfl)
    show lcGo _ _ _ _ (.tup [.int (k : Nat), .int x] :: enumD (k + 1) (r.map D.int)) _ = _
    unfold lcGo
    have hg : gTupD 2 (gsCons (gSet 2) (gsCons (gSet 3) gsNil)) (.tup [.int (k : Nat), .int x]) (wipeE [some (T r0), some (T [(m : Int)]), x2, x3] [2, 3]) = some ρd := rfl
    rw [hg]
    by_cases e : k = m
    · have hd : (!decide ((m : Int) = k)) = false := by simp [e]
      rw [hd] at hn
      show mbind (eB (e2 ninD (eVar 2) (eVar 1))) _ ρd = _
      rw [mbind_of (eB_ok hn)]
      show (lcGo _ _ _ _ _) ρd = _
      rw [show spotI m k (x :: r) = spotI m (k + 1) r from if_pos e]
      exact ih
    · have hd : (!decide ((m : Int) = k)) = true := by
        have : ¬ ((m : Int) = k) := by omega
        rw [decide_eq_false this]; rfl
      rw [hd] at hn
      show mbind (eB (e2 ninD (eVar 2) (eVar 1))) _ ρd = _
      rw [mbind_of (eB_ok hn)]
      rw [if_pos rfl, mbind_of v3, mbind_of ih, show spotI m k (x :: r) = x :: spotI m (k + 1) r from if_neg e]
      rfl
theorem enum_len (ds : List D) : ∀ k, (enumD k ds).length = ds.length := fun k => enumD_len k ds
theorem spot_ok {r : List Int} (hl : r.length ≤ 100) (m : Nat) : F_law_spot [T r, T [(m : Int)]] = .ok (T (spotI m 0 r)) [none, none] := by
  let ρ : DL.Env := [some (T r), some (T [(m : Int)]), none, none]
  refine run_ok (b := b_law_spot) (ρ := ρ) (ρ0 := ρ) ?_ rfl (by simp [ρ]) rfl
  unfold b_law_spot
  have hi : iEnuA (aCons (eVar 0) aNil) ρ = .ok (enumD 0 (r.map D.int)) ρ := by
    unfold iEnuA
    have ha : aCons (eVar 0) aNil ρ = .ok [T r] ρ := aCons_ok (ev rfl rfl) rfl
    rw [mbind_of ha]
    rfl
  have lc := eLcL_ok (L := 4) (g := gTupD 2 (gsCons (gSet 2) (gsCons (gSet 3) gsNil))) (tt := eB (e2 ninD (eVar 2) (eVar 1))) (te := eFrz (eVar 3)) (vs := [2, 3]) hi (by rw [enum_len, List.length_map]; omega) rfl (spot_lc r 0 none none)
  exact sRet_ok (tup_ints (o := true) (aCons_ok lc rfl))
theorem unlike_ok {xs ys : List Int} (he : xs.length = ys.length) (hl : xs.length ≤ 100) : F_law_unlike [T xs, T ys] = .ok (T (apart xs.length xs ys)) [none, none] := by
  let ρ : DL.Env := [some (T xs), some (T ys), none]
  refine run_ok (b := b_law_unlike) (ρ := ρ) (ρ0 := ρ) ?_ rfl (by simp [ρ]) rfl
  unfold b_law_unlike
  refine sRet_ok (tup_ints (o := true) (aCons_ok ?_ rfl))
  rw [← apart_eq]
  refine lc_filter1 (i := 2) (ρ1 := ρ) (iRg1_ok (n := xs.length) (aCons_ok (eBi_ok (ds := [T xs]) (aCons_ok (ev rfl rfl) rfl) (len_TI xs)) rfl) (by omega)) (by rw [rgD_len]; omega) rfl rfl (by decide) ?_ ?_
  · intro d hd
    obtain ⟨i, rfl, h1, h2⟩ := rgD_mem hd
    obtain ⟨n, rfl⟩ : ∃ n : Nat, i = n := ⟨i.toNat, by omega⟩
    let ρd := ρ.set 2 (some (.int n))
    have i1 : e2 ixD (eVar 0) (eVar 2) ρd = .ok (.int (xs.getD n 0)) ρd := DL.e2_ok (x := T xs) (y := .int n) (ev rfl rfl) (ev rfl rfl) (ix_TI (by omega))
    have i2 : e2 ixD (eVar 1) (eVar 2) ρd = .ok (.int (ys.getD n 0)) ρd := DL.e2_ok (x := T ys) (y := .int n) (ev rfl rfl) (ev rfl rfl) (ix_TI (by omega))
    exact eB_ok (nei_ok i1 i2 rfl)
  · intro d hd _
    obtain ⟨i, rfl, h1, h2⟩ := rgD_mem hd
    exact eFrz_ok rfl
end Lk63

set_option Elab.async false
set_option linter.all false
set_option maxRecDepth 100000
set_option maxHeartbeats 2000000
namespace Lk63
open PySem PySem.Spec L2 DL
/-! a dict from spots to numbers -/
abbrev kI (r : List Int) : List Key := r.map Sum.inl
theorem keysL_ints : ∀ r : List Int, keysL (r.map D.int) = some (kI r)
  | [] => rfl
  | a :: r => by
    show (key1 (.int a)).bind (fun k => (keysL (r.map D.int)).map fun ks => k :: ks) = _
    rw [keysL_ints r]
    rfl
theorem keyT_T (r : List Int) : keyT (T r) = some (kI r) := keysL_ints r
structure Dc (ks : List (List Key)) (vs : List Int) (n : Nat) : Prop where
  l : ks.length = vs.length
  n : ks.length ≤ n
  b : ∀ v ∈ vs, v.natAbs ≤ 10 ^ 37
theorem repV_ints (k : List Key) (v : Int) : ∀ (ks : List (List Key)) (vs : List Int), ks.length = vs.length → ∃ ws : List Int, repV k (.int v) ks (vs.map D.int) = ws.map D.int ∧ ks.length = ws.length ∧ ∀ x ∈ ws, x ∈ vs ∨ x = v
  | [], [], _ => ⟨[], rfl, rfl, fun x hx => (by cases hx)⟩
  | k' :: ks, w :: vs, h => by
    obtain ⟨ws, e1, e2, e3⟩ := repV_ints k v ks vs (by simpa using h)
    by_cases c : k' = k
    · refine ⟨v :: ws, ?_, by simp [e2], fun x hx => ?_⟩
      · show (if k' = k then D.int v else .int w) :: repV k (.int v) ks (vs.map D.int) = _
        rw [if_pos c, e1]; rfl
      · rcases List.mem_cons.mp hx with rfl | hx
        · exact .inr rfl
        · rcases e3 x hx with q | q
          · exact .inl (List.mem_cons_of_mem _ q)
          · exact .inr q
    · refine ⟨w :: ws, ?_, by simp [e2], fun x hx => ?_⟩
      · show (if k' = k then D.int v else .int w) :: repV k (.int v) ks (vs.map D.int) = _
        rw [if_neg c, e1]; rfl
      · rcases List.mem_cons.mp hx with rfl | hx
        · exact .inl List.mem_cons_self
        · rcases e3 x hx with q | q
          · exact .inl (List.mem_cons_of_mem _ q)
          · exact .inr q
  | [], _ :: _, h => by cases h
  | _ :: _, [], h => by cases h
theorem put_ints {ks : List (List Key)} {vs : List Int} {n : Nat} (h : Dc ks vs n) (hn : n < 1000) (r : List Int) {v : Int} (hv : v.natAbs ≤ 10 ^ 37) : ∃ ks' vs', dput (.dt true ks (vs.map D.int)) (T r) (.int v) = some (.dt true ks' (vs'.map D.int)) ∧ Dc ks' vs' (n + 1) ∧ kI r ∈ ks' ∧ ∀ k ∈ ks, k ∈ ks' := by
  have hlt : ks.length < sizeLine := Nat.lt_of_le_of_lt h.n (Nat.lt_of_lt_of_le hn (by rw [sizeLine_eq]; decide))
  have e : dput (.dt true ks (vs.map D.int)) (T r) (.int v) = some (.dt true (putKs ks (kI r)) (putV ks (vs.map D.int) (kI r) (.int v))) := by
    show (keyT (T r)).bind (fun k => if ks.length < sizeLine then some (D.dt true (putKs ks k) (putV ks (frzL (vs.map D.int)) k (frz (.int v)))) else none) = _
    rw [keyT_T, frzL_ints]
    simp only [Option.bind_some]
    rw [if_pos hlt]
    rfl
  rw [e]
  by_cases c : kI r ∈ ks
  · obtain ⟨ws, e1, e2, e3⟩ := repV_ints (kI r) v ks vs h.l
    refine ⟨ks, ws, ?_, ⟨e2, by have := h.n; omega, fun x hx => ?_⟩, c, fun k hk => hk⟩
    · unfold putKs putV
      rw [if_pos c, if_pos c, e1]
    · rcases e3 x hx with q | q
      · exact h.b x q
      · rw [q]; exact hv
  · refine ⟨ks ++ [kI r], vs ++ [v], ?_, ⟨by simp [h.l], by have := h.n; simp; omega, fun x hx => ?_⟩, by simp, fun k hk => List.mem_append_left _ hk⟩
    · unfold putKs putV
      rw [if_neg c, if_neg c, List.map_append]
      rfl
    · rcases List.mem_append.mp hx with q | q
      · exact h.b x q
      · rw [List.mem_singleton.mp q]; exact hv
theorem getV_ints (k : List Key) : ∀ (ks : List (List Key)) (vs : List Int), ks.length = vs.length → k ∈ ks → ∃ v ∈ vs, getV k ks (vs.map D.int) = some (.int v)
  | k' :: ks, w :: vs, h, hk => by
    by_cases c : k' = k
    · exact ⟨w, List.mem_cons_self, by show (if k' = k then some (D.int w) else _) = _; rw [if_pos c]⟩
    · obtain ⟨v, hv, e⟩ := getV_ints k ks vs (by simpa using h) (by
        rcases List.mem_cons.mp hk with q | q
        · exact absurd q.symm c
        · exact q)
      exact ⟨v, List.mem_cons_of_mem _ hv, by show (if k' = k then some (D.int w) else getV k ks (vs.map D.int)) = _; rw [if_neg c, e]⟩
  | [], _, _, hk => by cases hk
  | _ :: _, [], h, _ => by cases h
def kF (ks : List (List Key)) (vs : List Int) (s : List Int) : Int := match getV (kI s) ks (vs.map D.int) with
  | some (.int v) => v
  | _ => 0
theorem kF_ok {ks : List (List Key)} {vs : List Int} {n : Nat} (h : Dc ks vs n) {r : List Int} (hr : kI r ∈ ks) (o : Bool) : dget (.dt o ks (vs.map D.int)) (T r) = some (some (.int (kF ks vs r))) ∧ (kF ks vs r).natAbs ≤ 10 ^ 37 := by
  obtain ⟨v, hv, e⟩ := getV_ints (kI r) ks vs h.l hr
  have ek : kF ks vs r = v := by unfold kF; rw [e]
  refine ⟨?_, by rw [ek]; exact h.b v hv⟩
  show (keyT (T r)).map (fun k => getV k ks (vs.map D.int)) = _
  rw [keyT_T, ek, ← e]
  rfl
/-! totals of one who does not see a slip -/
def blind (l : List Int) (F : List Int → Int) (m : Nat) : List Int := (rowsL l).map fun r => F (spotI m 0 r)
theorem blind_tot {l : List Int} {F : List Int → Int} {m : Nat} (h : ∀ r ∈ rowsL l, (F (spotI m 0 r)).natAbs ≤ 10 ^ 37) : Tot l (blind l F m) := ⟨by unfold blind; rw [List.length_map, rowsL_len], fun x hx => by
  obtain ⟨r, hr, rfl⟩ := List.mem_map.mp hx
  exact Nat.le_trans (h r hr) (by decide)⟩
theorem blind_sum {l : List Int} (c : Club l) (F : List Int → Int) {m j k : Nat} (hj : j < N l) (hk : k < N l) (hm : m < l.length) (hne : (slips l j).getD m 0 ≠ (slips l k).getD m 0) : bs l (blind l F m) j k = 0 := by
  have e1 : bs l (blind l F m) j k = wsum (tf l (blind l F m)) (cor l j k) := (corn_box _ _ _).symm
  have e2 : wsum (tf l (blind l F m)) (cor l j k) = wsum (fun r => F (spotI m 0 r)) (cor l j k) := wsum_congr fun x hx => by
    obtain ⟨n, hn, ep, er⟩ := place_row (cor_rows c hj hk x hx)
    unfold tf blind rowsL
    rw [ep, Int.toNat_natCast, List.getD_eq_getElem?_getD, List.getElem?_map, List.getElem?_map, List.getElem?_range hn]
    show F (spotI m 0 (slips l (n : Int))) = _
    rw [er]
  have e3 : wsum (fun r => F (spotI m 0 r)) (cor l j k) = bx (fun r => F (spotI m 0 r)) (slips l j) (slips l k) := corn_box _ _ _
  rw [e1, e2, e3]
  exact bx_blind m (slips l j) (slips l k) 0 F m (by omega) (by rw [slips_len]; exact hm) (by rw [slips_len]; exact hm) hne
/-! the sum of two totals -/
def both (a b : List Int) : List Int := (a.zip b).map fun p => p.1 + p.2
theorem both_get : ∀ (a b : List Int) (k : Nat), a.length = b.length → (both a b).getD k 0 = a.getD k 0 + b.getD k 0
  | [], [], k, _ => by simp [both]
  | x :: a, y :: b, 0, _ => rfl
  | x :: a, y :: b, k + 1, h => by
    have := both_get a b k (by simpa using h)
    simpa [both] using this
  | [], _ :: _, _, h => by cases h
  | _ :: _, [], _, h => by cases h
theorem both_sum {l a b : List Int} (h : a.length = b.length) (j k : Nat) : bs l (both a b) j k = bs l a j k + bs l b j k := by
  have e : tf l (both a b) = fun r => tf l a r + tf l b r := by
    funext r
    exact both_get a b _ h
  unfold bs
  rw [e]
  exact bx_add _ _ _ _
theorem zip_pairs : ∀ (a b : List Int), zipD (a.map D.int) (b.map D.int) = (a.zip b).map pP
  | [], b => by cases b <;> rfl
  | _ :: _, [] => rfl
  | x :: a, y :: b => by
    show D.tup [.int x, .int y] :: zipD (a.map D.int) (b.map D.int) = _
    rw [zip_pairs a b]
    rfl
/-! a comprehension that draws -/
theorem lc_draw {E : D → Option D → DL.Env} {v : Nat} {te : M D} {P : Int → Prop} {K : Nat} (hw : ∀ s x, wipeE (E s x) [v] = E s none) (hg : ∀ d s, gSet v d (E s none) = some (E s (some d))) (ht : ∀ B s d, Pool B s → B < 2 ^ 30 → ∃ r s', te (E s (some d)) = .ok (.int r) (E s' (some d)) ∧ P r ∧ Pool (B + K) s') : ∀ (ds : List D) (B : Int) (s : D) (x : Option D), Pool B s → B + K * ds.length < 2 ^ 30 →
    ∃ (rs : List Int) (s' : D), lcGo (gSet v) mYes te [v] ds (E s x) = .ok (rs.map D.int) (E s' none) ∧ rs.length = ds.length ∧ (∀ r ∈ rs, P r) ∧ Pool (B + K * ds.length) s'
  | [], B, s, x, hs, _ => ⟨[], s, by show Res.ok [] (wipeE (E s x) [v]) = _; rw [hw]; rfl, rfl, fun r hr => (by cases hr), by simpa using hs⟩
  | d :: ds, B, s, x, hs, hB => by
    have e : (K : Int) * ((d :: ds).length : Nat) = K + K * (ds.length : Nat) := by rw [List.length_cons, Int.natCast_add, Int.mul_add]; omega
    rw [e] at hB
    have hnn : 0 ≤ (K : Int) * (ds.length : Nat) := Int.mul_nonneg (by omega) (by omega)
    obtain ⟨r, s1, e1, hr, hs1⟩ := ht B s d hs (by omega)
    obtain ⟨rs, s2, e2, h1, h2, h3⟩ := lc_draw hw hg ht ds (B + K) s1 (some d) hs1 (by omega)
    refine ⟨r :: rs, s2, ?_, by simp [h1], fun q hq => ?_, ?_⟩
    · unfold lcGo
      rw [hw, hg]
      show mbind te _ _ = _
      rw [mbind_of e1, mbind_of e2]
      rfl
    · rcases List.mem_cons.mp hq with rfl | hq
      · exact hr
      · exact h2 q hq
    · rw [e]
      exact h3.mono (by omega)
theorem in4 {n : Nat} (h : n ≤ 8) : inD (.int n) (.tup [.int 1, .int 3, .int 5, .int 7]) = some (.bl (decide (n % 2 = 1))) := by
  have cs : n = 0 ∨ n = 1 ∨ n = 2 ∨ n = 3 ∨ n = 4 ∨ n = 5 ∨ n = 6 ∨ n = 7 ∨ n = 8 := by omega
  rcases cs with rfl | rfl | rfl | rfl | rfl | rfl | rfl | rfl | rfl <;> kernel_rfl
end Lk63

set_option Elab.async false
set_option linter.all false
set_option maxRecDepth 100000
set_option maxHeartbeats 4000000
namespace Lk63
open PySem PySem.Spec L2 DL
abbrev rowsD (l : List Int) : D := .lst false (LL (rowsL l))
abbrev LE (ns : List Int) (s : D) (l tot mo bo : List Int) (x7 x8 x9 x10 x11 x12 x13 x14 x15 : Option D) : DL.Env := [some (.scr ns), some s, some (T l), some (rowsD l), some (T tot), some (T mo), some (T bo), x7, x8, x9, x10, x11, x12, x13, x14, x15]
def nrE : M D := (eCall F_law_number (aCons (eMove 1) aNil) [] [(0, 1)])
def spE : M D := (eCall F_law_spot (aCons (eVar 14) (aCons (eTup (aCons (eVar 12) aNil)) aNil)) [] [])
def knB : SF := sDPutI 13 (eFrz nrE) spE
theorem nr_ok {ρ : DL.Env} {s : D} {B : Int} (hs : Pool B s) (h : ρ[1]? = some (some s)) (hB : B < 2 ^ 37) : ∃ v s', nrE ρ = .ok (.int v) (ρ.set 1 (some s')) ∧ v.natAbs ≤ 10 ^ 37 ∧ Pool (B + 9) s' := by
  obtain ⟨v, s', e, hv, hs'⟩ := number_ok hs hB
  have hmv : eMove 1 ρ = .ok s (ρ.set 1 none) := by unfold eMove; rw [h]
  exact ⟨v, s', eCall_of (aCons_ok hmv rfl) rfl e (by show (ρ.set 1 none).set 1 (some s') = _; rw [List.set_set]), hv, hs'⟩
theorem sp_ok {ρ : DL.Env} {r : List Int} {m : Nat} (h1 : ρ[14]? = some (some (T r))) (h2 : ρ[12]? = some (some (.int m))) (hl : r.length ≤ 100) : spE ρ = .ok (T (spotI m 0 r)) ρ := by
  have k1 : eTup (aCons (eVar 12) aNil) ρ = .ok (T [(m : Int)]) ρ := eTup_ok (ds := [.int m]) (aCons_ok (ev h2 rfl) rfl) (by simp)
  exact eCall_of (aCons_ok (ev h1 rfl) (aCons_ok k1 rfl)) rfl (spot_ok hl m) rfl
theorem kn_loop {ns : List Int} {l tot mo bo : List Int} {x7 x8 x9 x10 x11 x15 : Option D} {m : Nat} : ∀ (rs : List (List Int)) (s : D) (ks : List (List Key)) (vs : List Int) (n : Nat) (B : Int) (x14 : Option D), (∀ r ∈ rs, r.length ≤ 100) → Dc ks vs n → n + rs.length ≤ 900 → Pool B s → B + 9 * rs.length < 2 ^ 36 →
    ∃ s' ks' vs' y14, forGo (gSet 14) knB (LL rs) (LE ns s l tot mo bo x7 x8 x9 x10 x11 (some (.int m)) (some (.dt true ks (vs.map D.int))) x14 x15) = .nx (LE ns s' l tot mo bo x7 x8 x9 x10 x11 (some (.int m)) (some (.dt true ks' (vs'.map D.int))) y14 x15) ∧ Dc ks' vs' (n + rs.length) ∧ (∀ r ∈ rs, kI (spotI m 0 r) ∈ ks') ∧ (∀ k ∈ ks, k ∈ ks') ∧ Pool (B + 9 * rs.length) s'
  | [], s, ks, vs, n, B, x14, _, h, _, hs, _ => ⟨s, ks, vs, x14, rfl, h, fun r hr => (by cases hr), fun k hk => hk, by simpa using hs⟩
  | r :: rs, s, ks, vs, n, B, x14, hl, h, hn, hs, hB => by
    rw [List.length_cons] at hn hB ⊢
    let ρ := LE ns s l tot mo bo x7 x8 x9 x10 x11 (some (.int m)) (some (.dt true ks (vs.map D.int))) (some (T r)) x15
    obtain ⟨v, s1, k1, hv, hs1⟩ := nr_ok (ρ := ρ) hs rfl (by omega)
    have k2 := sp_ok (ρ := ρ.set 1 (some s1)) (r := r) (m := m) rfl rfl (hl r List.mem_cons_self)
    obtain ⟨ks1, vs1, k3, h1, hin, hsub⟩ := put_ints h (by omega) (spotI m 0 r) hv
    have hb : knB ρ = .nx (LE ns s1 l tot mo bo x7 x8 x9 x10 x11 (some (.int m)) (some (.dt true ks1 (vs1.map D.int))) (some (T r)) x15) := dput_ok (eFrz_int k1) rfl k2 rfl k3
    obtain ⟨s2, ks2, vs2, y14, k4, h2, hin2, hsub2, hs2⟩ := kn_loop (ns := ns) (l := l) (tot := tot) (mo := mo) (bo := bo) (x7 := x7) (x8 := x8) (x9 := x9) (x10 := x10) (x11 := x11) (x15 := x15) (m := m) rs s1 ks1 vs1 (n + 1) (B + 9) (some (T r)) (fun q hq => hl q (List.mem_cons_of_mem _ hq)) h1 (by omega) hs1 (by omega)
    refine ⟨s2, ks2, vs2, y14, ?_, by rw [show n + (rs.length + 1) = n + 1 + rs.length by omega]; exact h2, fun q hq => ?_, fun k hk => hsub2 k (hsub k hk), hs2.mono (by omega)⟩
    · show forGo _ _ (T r :: LL rs) _ = _
      rw [forGo_cons rfl hb]
      exact k4
    · rcases List.mem_cons.mp hq with rfl | hq
      · exact hsub2 _ hin
      · exact hin2 q hq
def mB : SF := (sSeq (sAsg (eC (.dt true [] [])) (gSet 13))
  (sSeq (sFor (iSeq (eVar 3)) (gSet 14) knB)
  (sSeq (sAsg (eBi tupleD (aCons (eLcL 16 (iSeq (eVar 3)) (gSet 14) mYes (eFrz (eDix 13 spE)) [14]) aNil)) (gSet 15))
  (sIf (eB (e2 neD (eCall F_box_sum (aCons (eVar 2) (aCons (eVar 15) (aCons (eTup (aCons (eVar 8) (aCons (eVar 9) aNil))) aNil))) [] []) (eC (.int 0)))) (sRet (eC (.bl false))) sNext))))
theorem rows_len {l : List Int} (c : Club l) : ∀ r ∈ rowsL l, r.length ≤ 100 := by
  intro r hr
  obtain ⟨k, _, rfl⟩ := List.mem_map.mp hr
  rw [slips_len]
  have := c.n8
  omega
theorem mB_ok {ns l tot mo bo : List Int} (c : Club l) {s : D} {B : Int} (hs : Pool B s) (hB : B < 2 ^ 34) {j k m : Nat} (hj : j < N l) (hk : k < N l) (hm : m < l.length) (hne : (slips l j).getD m 0 ≠ (slips l k).getD m 0) (x7 x10 x11 x13 x14 x15 : Option D) :
    ∃ s' y13 y14 y15, mB (LE ns s l tot mo bo x7 (some (.int j)) (some (.int k)) x10 x11 (some (.int m)) x13 x14 x15) = .nx (LE ns s' l tot mo bo x7 (some (.int j)) (some (.int k)) x10 x11 (some (.int m)) y13 y14 y15) ∧ Pool (B + 2304) s' := by
  have hN := c.Nle
  let ρ1 := LE ns s l tot mo bo x7 (some (.int j)) (some (.int k)) x10 x11 (some (.int m)) (some (.dt true [] [])) x14 x15
  obtain ⟨s2, ks, vs, y14, k2, h2, hin, _, hs2⟩ := kn_loop (ns := ns) (l := l) (tot := tot) (mo := mo) (bo := bo) (x7 := x7) (x8 := some (.int j)) (x9 := some (.int k)) (x10 := x10) (x11 := x11) (x15 := x15) (m := m) (rowsL l) s [] [] 0 B x14 (rows_len c) ⟨rfl, by simp, fun v hv => (by cases hv)⟩ (by rw [rowsL_len]; omega) hs (by rw [rowsL_len]; omega)
  rw [rowsL_len] at hs2
  let F : List Int → Int := kF ks vs
  let ρ2 := LE ns s2 l tot mo bo x7 (some (.int j)) (some (.int k)) x10 x11 (some (.int m)) (some (.dt true ks (vs.map D.int))) y14 x15
  let ρw := LE ns s2 l tot mo bo x7 (some (.int j)) (some (.int k)) x10 x11 (some (.int m)) (some (.dt true ks (vs.map D.int))) none x15
  let ρ3 := LE ns s2 l tot mo bo x7 (some (.int j)) (some (.int k)) x10 x11 (some (.int m)) (some (.dt true ks (vs.map D.int))) none (some (T (blind l F m)))
  have it : ∀ s x13 x14 x15, iSeq (eVar 3) (LE ns s l tot mo bo x7 (some (.int j)) (some (.int k)) x10 x11 (some (.int m)) x13 x14 x15) = .ok (LL (rowsL l)) (LE ns s l tot mo bo x7 (some (.int j)) (some (.int k)) x10 x11 (some (.int m)) x13 x14 x15) := fun s x13 x14 x15 => iSeq_ok (d := rowsD l) (ev rfl rfl) (by show some (frzL (LL (rowsL l))) = _; rw [frzL_TI])
  have lc := eLcL_ok (L := 16) (tt := mYes) (g := gSet 14) (vs := [14]) (te := eFrz (eDix 13 spE)) (ρ := ρ2) (ρ1 := ρ2) (it _ _ _ _) (by rw [List.length_map, rowsL_len]; omega) rfl (lcGo_as (P := T) (E := fun r => LE ns s2 l tot mo bo x7 (some (.int j)) (some (.int k)) x10 x11 (some (.int m)) (some (.dt true ks (vs.map D.int))) (some (T r)) x15) (Y := fun r => .int (F (spotI m 0 r))) (ρ := ρw) (rowsL l) ρ2 rfl fun r hr => ⟨rfl, by
    have h1 := sp_ok (ρ := LE ns s2 l tot mo bo x7 (some (.int j)) (some (.int k)) x10 x11 (some (.int m)) (some (.dt true ks (vs.map D.int))) (some (T r)) x15) (r := r) (m := m) rfl rfl (rows_len c r hr)
    exact eFrz_int (dix_ok (c := .dt true ks (vs.map D.int)) rfl h1 rfl (kF_ok h2 (hin r hr) true).1 rfl), rfl⟩)
  have eb : (rowsL l).map (fun r => D.int (F (spotI m 0 r))) = (blind l F m).map D.int := by unfold blind; rw [List.map_map]; rfl
  rw [eb] at lc
  have hbt : Tot l (blind l F m) := blind_tot fun r hr => (kF_ok h2 (hin r hr) true).2
  have hbs := box_sum_ok c hbt hj hk
  rw [blind_sum c F hj hk hm hne] at hbs
  have hcall : eCall F_box_sum (aCons (eVar 2) (aCons (eVar 15) (aCons (eTup (aCons (eVar 8) (aCons (eVar 9) aNil))) aNil))) [] [] ρ3 = .ok (.int 0) ρ3 := by
    have k1 : eTup (aCons (eVar 8) (aCons (eVar 9) aNil)) ρ3 = .ok (.tup [.int j, .int k]) ρ3 := eTup_ok (ds := [.int j, .int k]) (aCons_ok (ev rfl rfl) (aCons_ok (ev rfl rfl) rfl)) (by simp)
    exact eCall_of (ρ1 := ρ3) (aCons_ok (ev rfl rfl) (aCons_ok (ev rfl rfl) (aCons_ok k1 rfl))) rfl hbs rfl
  refine ⟨s2, some (.dt true ks (vs.map D.int)), none, some (T (blind l F m)), ?_, hs2.mono (by omega)⟩
  unfold mB
  refine Eq.trans (seq_nx (ρ1 := ρ1) (sAsg_ok (d := .dt true [] []) (ρ1 := LE ns s l tot mo bo x7 (some (.int j)) (some (.int k)) x10 x11 (some (.int m)) x13 x14 x15) rfl rfl)) ?_
  refine Eq.trans (seq_nx (ρ1 := ρ2) ((sFor_of (it _ _ _ _)).trans k2)) ?_
  refine Eq.trans (seq_nx (ρ1 := ρ3) (sAsg_ok (tup_ints (o := true) (aCons_ok lc rfl)) rfl)) ?_
  exact (sIf_f (G := sNext) (eB_ok (nei_ok (j := 0) hcall rfl (by simp)))).trans rfl
theorem m_loop {ns l tot mo bo : List Int} (c : Club l) {j k : Nat} (hj : j < N l) (hk : k < N l) (x7 x10 x11 : Option D) : ∀ (ms : List Int) (s : D) (B : Int) (x12 x13 x14 x15 : Option D), (∀ x ∈ ms, ∃ m : Nat, x = m ∧ m < l.length ∧ (slips l j).getD m 0 ≠ (slips l k).getD m 0) → Pool B s → B + 2304 * ms.length < 2 ^ 34 →
    ∃ s' y12 y13 y14 y15, forGo (gSet 12) mB (ms.map D.int) (LE ns s l tot mo bo x7 (some (.int j)) (some (.int k)) x10 x11 x12 x13 x14 x15) = .nx (LE ns s' l tot mo bo x7 (some (.int j)) (some (.int k)) x10 x11 y12 y13 y14 y15) ∧ Pool (B + 2304 * ms.length) s'
  | [], s, B, x12, x13, x14, x15, _, hs, _ => ⟨s, x12, x13, x14, x15, rfl, by simpa using hs⟩
  | x :: ms, s, B, x12, x13, x14, x15, hm, hs, hB => by
    rw [List.length_cons] at hB ⊢
    obtain ⟨m, rfl, h1, h2⟩ := hm x List.mem_cons_self
    obtain ⟨s1, y13, y14, y15, k1, hs1⟩ := mB_ok (ns := ns) (tot := tot) (mo := mo) (bo := bo) c hs (by omega) hj hk h1 h2 x7 x10 x11 x13 x14 x15
    obtain ⟨s2, z12, z13, z14, z15, k2, hs2⟩ := m_loop (ns := ns) (tot := tot) (mo := mo) (bo := bo) c hj hk x7 x10 x11 ms s1 (B + 2304) (some (.int m)) y13 y14 y15 (fun y hy => hm y (List.mem_cons_of_mem _ hy)) hs1 (by omega)
    refine ⟨s2, z12, z13, z14, z15, ?_, hs2.mono (by omega)⟩
    rw [List.map_cons, forGo_cons rfl k1]
    exact k2
def pkE : M D := (eCall F_law_pick (aMvL 1 (aCons (eFrz (eLst (aCons (eFrz (eCall F_law_draw (aCons (eMove 1) (aCons (eBi lenD (aCons (eVar 3) aNil)) aNil)) [] [(0, 1)])) (aCons (eFrz (eCall F_law_draw (aCons (eMove 1) (aCons (eBi lenD (aCons (eVar 3) aNil)) aNil)) [] [(0, 1)])) (aCons (eVar 8) aNil))))) aNil)) [] [(0, 1)])
def bsE (t a b : Nat) : M D := (eCall F_box_sum (aCons (eVar 2) (aCons (eVar t) (aCons (eTup (aCons (eVar a) (aCons (eVar b) aNil))) aNil))) [] [])
def tB : SF := (sSeq (sAsg (eFrz (eCall F_law_draw (aCons (eMove 1) (aCons (eBi lenD (aCons (eVar 3) aNil)) aNil)) [] [(0, 1)])) (gSet 8))
  (sSeq (sAsg (eFrz pkE) (gSet 9))
  (sSeq (sAsg (eFrz (bsE 4 8 9)) (gSet 10))
  (sSeq (sIf (mOr (mNot (eB (eCall F_law_is_int (aCons (eVar 10) aNil) [] []))) (eB (e2 neD (eVar 10) (eCall F_law_box_sum (aCons (eVar 2) (aCons (eVar 4) (aCons (e2 ixD (eVar 3) (eVar 8)) (aCons (e2 ixD (eVar 3) (eVar 9)) aNil)))) [] [])))) (sRet (eC (.bl false))) sNext)
  (sSeq (sAsg (eFrz (eIf (eB (e2 inD (eBi lenD (aCons (eCall F_law_unlike (aCons (e2 ixD (eVar 3) (eVar 8)) (aCons (e2 ixD (eVar 3) (eVar 9)) aNil)) [] []) aNil)) (eTup (aCons (eC (.int 1)) (aCons (eC (.int 3)) (aCons (eC (.int 5)) (aCons (eC (.int 7)) aNil))))))) (e1 negD (eC (.int 1))) (eC (.int 1)))) (gSet 11))
  (sSeq (sIf (eB (e2 neD (bsE 4 9 8) (e2 mulD (eVar 11) (eVar 10)))) (sRet (eC (.bl false))) sNext)
  (sSeq (sIf (eB (e2 neD (bsE 6 8 9) (e2 addD (eVar 10) (bsE 5 8 9)))) (sRet (eC (.bl false))) sNext)
  (sFor (iSeq (eCall F_law_unlike (aCons (e2 ixD (eVar 3) (eVar 8)) (aCons (e2 ixD (eVar 3) (eVar 9)) aNil)) [] [])) (gSet 12) mB))))))))
theorem isint_law (i : Int) : F_law_is_int [.int i] = .ok (.bl true) [none] := isint_ok i
theorem apart_mem {l : List Int} {j k : Nat} : ∀ x ∈ apart l.length (slips l j) (slips l k), ∃ m : Nat, x = m ∧ m < l.length ∧ (slips l j).getD m 0 ≠ (slips l k).getD m 0 := by
  intro x hx
  unfold apart at hx
  obtain ⟨m, hm, rfl⟩ := List.mem_map.mp hx
  obtain ⟨h1, h2⟩ := List.mem_filter.mp hm
  exact ⟨m, rfl, List.mem_range.mp h1, by simpa using h2⟩
theorem tB_ok {ns l tot mo : List Int} (c : Club l) (ht : Tot l tot) (hm : Tot l mo) (hb : Tot l (both tot mo)) {s : D} {B : Int} (hs : Pool B s) (hB : B < 2 ^ 33) (x7 x8 x9 x10 x11 x12 x13 x14 x15 : Option D) :
    ∃ s' y8 y9 y10 y11 y12 y13 y14 y15, tB (LE ns s l tot mo (both tot mo) x7 x8 x9 x10 x11 x12 x13 x14 x15) = .nx (LE ns s' l tot mo (both tot mo) x7 y8 y9 y10 y11 y12 y13 y14 y15) ∧ Pool (B + 20000) s' := by
  have hN := c.Nle
  have hN1 : 0 < N l := by
    have := c.N
    have h1 : (1 : Int) ≤ Pr l := prod_le l 1 (fun x hx => (c.s x hx).1) (by decide)
    omega
  have hn8 := c.n8
  have hLl : (LL (rowsL l)).length = N l := by rw [List.length_map, rowsL_len]
  have hv3 : ∀ x1 x7 x8 x9 x10 x11 x12 x13 x14 x15, eBi lenD (aCons (eVar 3) aNil) ([some (.scr ns), x1, some (T l), some (rowsD l), some (T tot), some (T mo), some (T (both tot mo)), x7, x8, x9, x10, x11, x12, x13, x14, x15] : DL.Env) = .ok (.int (N l)) [some (.scr ns), x1, some (T l), some (rowsD l), some (T tot), some (T mo), some (T (both tot mo)), x7, x8, x9, x10, x11, x12, x13, x14, x15] := fun x1 x7 x8 x9 x10 x11 x12 x13 x14 x15 => eBi_ok (ds := [rowsD l]) (aCons_ok (ev rfl rfl) rfl) (by rw [len_lst, hLl])
  obtain ⟨j, s1, k1, j0, j1, hs1⟩ := drw (ρ := LE ns s l tot mo (both tot mo) x7 x8 x9 x10 x11 x12 x13 x14 x15) (i := 1) (f := eBi lenD (aCons (eVar 3) aNil)) (m := N l) hs rfl (hv3 _ _ _ _ _ _ _ _ _ _) (by omega) (by omega) (by omega)
  obtain ⟨j, rfl⟩ : ∃ n : Nat, j = n := ⟨j.toNat, by omega⟩
  have hj : j < N l := by omega
  let ρ1 := LE ns s1 l tot mo (both tot mo) x7 (some (.int j)) x9 x10 x11 x12 x13 x14 x15
  obtain ⟨a, s2, k2, a0, a1, hs2⟩ := drw (ρ := ρ1) (i := 1) (f := eBi lenD (aCons (eVar 3) aNil)) (m := N l) hs1 rfl (hv3 _ _ _ _ _ _ _ _ _ _) (by omega) (by omega) (by omega)
  obtain ⟨b, s3, k3, b0, b1, hs3⟩ := drw (ρ := LE ns s2 l tot mo (both tot mo) x7 (some (.int j)) x9 x10 x11 x12 x13 x14 x15) (i := 1) (f := eBi lenD (aCons (eVar 3) aNil)) (m := N l) hs2 rfl (hv3 _ _ _ _ _ _ _ _ _ _) (by omega) (by omega) (by omega)
  obtain ⟨k, s4, k4, hk4, hs4⟩ := pick_ok (ls := [a, b, (j : Int)]) hs3 (by omega) (by simp) (by simp)
  have hkb : 0 ≤ k ∧ k < N l := by
    simp only [List.mem_cons, List.not_mem_nil, or_false] at hk4
    omega
  obtain ⟨k, rfl⟩ : ∃ n : Nat, k = n := ⟨k.toNat, by omega⟩
  have hk : k < N l := by omega
  have hpk : pkE ρ1 = .ok (.int k) (LE ns s4 l tot mo (both tot mo) x7 (some (.int j)) x9 x10 x11 x12 x13 x14 x15) := by
    have hl : eFrz (eLst (aCons (eFrz (eCall F_law_draw (aCons (eMove 1) (aCons (eBi lenD (aCons (eVar 3) aNil)) aNil)) [] [(0, 1)])) (aCons (eFrz (eCall F_law_draw (aCons (eMove 1) (aCons (eBi lenD (aCons (eVar 3) aNil)) aNil)) [] [(0, 1)])) (aCons (eVar 8) aNil)))) ρ1 = .ok (.lst false ([a, b, (j : Int)].map .int)) (LE ns s3 l tot mo (both tot mo) x7 (some (.int j)) x9 x10 x11 x12 x13 x14 x15) := eFrz_ok (d := .lst true ([a, b, (j : Int)].map .int)) (eLst_ok (ds := [.int a, .int b, .int j]) (aCons_ok (eFrz_int k2) (aCons_ok (eFrz_int k3) (aCons_ok (ev rfl rfl) rfl))) (by simp))
    exact eCall_of (ρ1 := (LE ns s3 l tot mo (both tot mo) x7 (some (.int j)) x9 x10 x11 x12 x13 x14 x15).set 1 none) (aMvL_ok (d0 := s1) (d := s3) (ρ1 := LE ns s3 l tot mo (both tot mo) x7 (some (.int j)) x9 x10 x11 x12 x13 x14 x15) rfl (aCons_ok hl rfl) rfl) rfl k4 rfl
  let xs := slips l j
  let ys := slips l k
  let R : Option D → Option D → DL.Env := fun x10 x11 => LE ns s4 l tot mo (both tot mo) x7 (some (.int j)) (some (.int k)) x10 x11 x12 x13 x14 x15
  have row : ∀ (x10 x11 : Option D) (i : Nat) (n : Nat), n < N l → (R x10 x11)[i]? = some (some (.int n)) → e2 ixD (eVar 3) (eVar i) (R x10 x11) = .ok (T (slips l n)) (R x10 x11) := fun x10 x11 i n hn hi => DL.e2_ok (x := rowsD l) (y := .int n) (ev rfl rfl) (ev hi rfl) (ix_l (rowsL_get hn))
  have bsv : ∀ (x10 x11 : Option D) (t a b : Nat) (tt : List Int) (p q : Nat), Tot l tt → p < N l → q < N l → (R x10 x11)[t]? = some (some (T tt)) → (R x10 x11)[a]? = some (some (.int p)) → (R x10 x11)[b]? = some (some (.int q)) → bsE t a b (R x10 x11) = .ok (.int (bs l tt p q)) (R x10 x11) := fun x10 x11 t a b tt p q h1 h2 h3 e1 e2 e3 => by
    have hk1 : eTup (aCons (eVar a) (aCons (eVar b) aNil)) (R x10 x11) = .ok (.tup [.int p, .int q]) (R x10 x11) := eTup_ok (ds := [.int p, .int q]) (aCons_ok (ev e2 rfl) (aCons_ok (ev e3 rfl) rfl)) (by simp)
    exact eCall_of (ρ1 := R x10 x11) (aCons_ok (ev rfl rfl) (aCons_ok (ev e1 rfl) (aCons_ok hk1 rfl))) rfl (box_sum_ok c h1 h2 h3) rfl
  let t := bs l tot j k
  have htb := bs_le c ht j k
  have hul : F_law_unlike [T xs, T ys] = .ok (T (apart xs.length xs ys)) [none, none] := unlike_ok (by rw [slips_len, slips_len]) (by rw [slips_len]; omega)
  have hcnt : (apart xs.length xs ys).length = cnt xs ys := apart_cnt xs ys (by rw [slips_len, slips_len])
  have hc8 : cnt xs ys ≤ 8 := by
    rw [← hcnt]
    exact Nat.le_trans (apart_len _ _ _) (by rw [slips_len]; exact hn8)
  have ulv : ∀ (x10 x11 : Option D), eCall F_law_unlike (aCons (e2 ixD (eVar 3) (eVar 8)) (aCons (e2 ixD (eVar 3) (eVar 9)) aNil)) [] [] (R x10 x11) = .ok (T (apart xs.length xs ys)) (R x10 x11) := fun x10 x11 => eCall_of (ρ1 := R x10 x11) (aCons_ok (row _ _ 8 j hj rfl) (aCons_ok (row _ _ 9 k hk rfl) rfl)) rfl hul rfl
  obtain ⟨s5, z12, z13, z14, z15, k5, hs5⟩ := m_loop (ns := ns) (tot := tot) (mo := mo) (bo := both tot mo) c hj hk x7 (some (.int t)) (some (.int (sg (cnt xs ys)))) (apart xs.length xs ys) s4 (B + 1 + 1 + 1 + 1) x12 x13 x14 x15 (by
    have := apart_mem (l := l) (j := j) (k := k)
    have e : xs.length = l.length := slips_len _ _
    rw [e]
    exact this) hs4 (by rw [hcnt]; omega)
  refine ⟨s5, some (.int j), some (.int k), some (.int t), some (.int (sg (cnt xs ys))), z12, z13, z14, z15, ?_, hs5.mono (by rw [hcnt]; omega)⟩
  show tB (LE ns s l tot mo (both tot mo) x7 x8 x9 x10 x11 x12 x13 x14 x15) = _
  unfold tB
  refine Eq.trans (seq_nx (ρ1 := ρ1) (sAsg_ok (eFrz_int k1) rfl)) ?_
  refine Eq.trans (seq_nx (ρ1 := R x10 x11) (sAsg_ok (eFrz_int hpk) rfl)) ?_
  refine Eq.trans (seq_nx (ρ1 := R (some (.int t)) x11) (sAsg_ok (eFrz_int (bsv x10 x11 4 8 9 tot j k ht hj hk rfl rfl rfl)) rfl)) ?_
  have v10 : ∀ x11, eVar 10 (R (some (.int t)) x11) = .ok (.int t) (R (some (.int t)) x11) := fun x11 => ev rfl rfl
  have hint : eCall F_law_is_int (aCons (eVar 10) aNil) [] [] (R (some (.int t)) x11) = .ok (.bl true) (R (some (.int t)) x11) := eCall_of (ρ1 := R (some (.int t)) x11) (aCons_ok (v10 _) rfl) rfl (isint_law t) rfl
  have hown : eCall F_law_box_sum (aCons (eVar 2) (aCons (eVar 4) (aCons (e2 ixD (eVar 3) (eVar 8)) (aCons (e2 ixD (eVar 3) (eVar 9)) aNil)))) [] [] (R (some (.int t)) x11) = .ok (.int t) (R (some (.int t)) x11) := eCall_of (ρ1 := R (some (.int t)) x11) (aCons_ok (ev rfl rfl) (aCons_ok (ev rfl rfl) (aCons_ok (row _ _ 8 j hj rfl) (aCons_ok (row _ _ 9 k hk rfl) rfl)))) rfl (law_box_ok c ht hj hk) rfl
  refine Eq.trans (seq_nx ((sIf_f (G := sNext) (mOr_f (mNot_ok (b := true) (eB_ok hint)) (eB_ok (nei_ok (v10 _) hown (by simp))))).trans rfl)) ?_
  have hsg : eFrz (eIf (eB (e2 inD (eBi lenD (aCons (eCall F_law_unlike (aCons (e2 ixD (eVar 3) (eVar 8)) (aCons (e2 ixD (eVar 3) (eVar 9)) aNil)) [] []) aNil)) (eTup (aCons (eC (.int 1)) (aCons (eC (.int 3)) (aCons (eC (.int 5)) (aCons (eC (.int 7)) aNil))))))) (e1 negD (eC (.int 1))) (eC (.int 1))) (R (some (.int t)) x11) = .ok (.int (sg (cnt xs ys))) (R (some (.int t)) x11) := by
    have hlen : eBi lenD (aCons (eCall F_law_unlike (aCons (e2 ixD (eVar 3) (eVar 8)) (aCons (e2 ixD (eVar 3) (eVar 9)) aNil)) [] []) aNil) (R (some (.int t)) x11) = .ok (.int (cnt xs ys : Nat)) (R (some (.int t)) x11) := eBi_ok (ds := [T (apart xs.length xs ys)]) (aCons_ok (ulv _ _) rfl) (by rw [len_TI, hcnt])
    have h4 : eTup (aCons (eC (.int 1)) (aCons (eC (.int 3)) (aCons (eC (.int 5)) (aCons (eC (.int 7)) aNil)))) (R (some (.int t)) x11) = .ok (.tup [.int 1, .int 3, .int 5, .int 7]) (R (some (.int t)) x11) := eTup_ok (ds := [.int 1, .int 3, .int 5, .int 7]) (aCons_ok rfl (aCons_ok rfl (aCons_ok rfl (aCons_ok rfl rfl)))) (by simp)
    have hin := DL.e2_ok hlen h4 (in4 hc8)
    unfold sg
    by_cases q : cnt xs ys % 2 = 1
    · rw [decide_eq_true q] at hin
      rw [if_pos q]
      exact eFrz_int (eIf_t (eB_ok hin) rfl)
    · rw [decide_eq_false q] at hin
      rw [if_neg q]
      exact eFrz_int (eIf_f (eB_ok hin) rfl)
  refine Eq.trans (seq_nx (ρ1 := R (some (.int t)) (some (.int (sg (cnt xs ys))))) (sAsg_ok hsg rfl)) ?_
  let ρ6 := R (some (.int t)) (some (.int (sg (cnt xs ys))))
  have hmul : mulD (.int (sg (cnt xs ys))) (.int t) = some (.int (sg (cnt xs ys) * t)) := by
    refine mulD_ok ?_ (Nat.lt_of_lt_of_le htb (Nat.pow_le_pow_right (by decide) (by decide)))
    unfold sg
    split <;> decide
  have hswap : bs l tot k j = sg (cnt xs ys) * t := bx_swap xs ys (tf l tot)
  have hb1 := bsv (some (.int t)) (some (.int (sg (cnt xs ys)))) 4 9 8 tot k j ht hk hj rfl rfl rfl
  have hb2 : e2 mulD (eVar 11) (eVar 10) ρ6 = .ok (.int (sg (cnt xs ys) * t)) ρ6 := mul_ok (ev rfl rfl) (ev rfl rfl) hmul
  refine Eq.trans (seq_nx ((sIf_f (G := sNext) (eB_ok (nei_ok hb1 hb2 (by rw [hswap]; simp)))).trans rfl)) ?_
  have hb3 := bsv (some (.int t)) (some (.int (sg (cnt xs ys)))) 6 8 9 (both tot mo) j k hb hj hk rfl rfl rfl
  have hb4 := bsv (some (.int t)) (some (.int (sg (cnt xs ys)))) 5 8 9 mo j k hm hj hk rfl rfl rfl
  have hadd : bs l (both tot mo) j k = t + bs l mo j k := both_sum (by rw [ht.n, hm.n]) j k
  have hb5 : e2 addD (eVar 10) (bsE 5 8 9) ρ6 = .ok (.int (t + bs l mo j k)) ρ6 := add_ok (ev rfl rfl) hb4
  refine Eq.trans (seq_nx ((sIf_f (G := sNext) (eB_ok (nei_ok hb3 hb5 (by rw [hadd]; simp)))).trans rfl)) ?_
  have it : iSeq (eCall F_law_unlike (aCons (e2 ixD (eVar 3) (eVar 8)) (aCons (e2 ixD (eVar 3) (eVar 9)) aNil)) [] []) ρ6 = .ok ((apart xs.length xs ys).map D.int) ρ6 := iSeq_ok (ulv _ _) rfl
  exact (sFor_of it).trans k5
theorem t_loop {ns l tot mo : List Int} (c : Club l) (ht : Tot l tot) (hm : Tot l mo) (hb : Tot l (both tot mo)) : ∀ (ds : List D) (s : D) (B : Int) (x7 x8 x9 x10 x11 x12 x13 x14 x15 : Option D), Pool B s → B + 20000 * ds.length < 2 ^ 33 →
    ∃ s' y7 y8 y9 y10 y11 y12 y13 y14 y15, forGo (gSet 7) tB ds (LE ns s l tot mo (both tot mo) x7 x8 x9 x10 x11 x12 x13 x14 x15) = .nx (LE ns s' l tot mo (both tot mo) y7 y8 y9 y10 y11 y12 y13 y14 y15)
  | [], s, B, x7, x8, x9, x10, x11, x12, x13, x14, x15, hs, _ => ⟨s, x7, x8, x9, x10, x11, x12, x13, x14, x15, rfl⟩
  | d :: ds, s, B, x7, x8, x9, x10, x11, x12, x13, x14, x15, hs, hB => by
    rw [List.length_cons] at hB
    obtain ⟨s1, y8, y9, y10, y11, y12, y13, y14, y15, k1, hs1⟩ := tB_ok (ns := ns) c ht hm hb hs (by omega) (some d) x8 x9 x10 x11 x12 x13 x14 x15
    obtain ⟨s2, w7, w8, w9, w10, w11, w12, w13, w14, w15, k2⟩ := t_loop (ns := ns) c ht hm hb ds s1 (B + 20000) (some d) y8 y9 y10 y11 y12 y13 y14 y15 hs1 (by omega)
    refine ⟨s2, w7, w8, w9, w10, w11, w12, w13, w14, w15, ?_⟩
    rw [forGo_cons rfl k1]
    exact k2
theorem law_true (ns : List Int) (hl : ns.length ≤ 63) : ∃ os, F_law [.scr ns] = .ok (.bl true) os := by
  obtain ⟨s, es, hs⟩ := pool_ok hl
  let ρ0 : DL.Env := [some (.scr ns), none, none, none, none, none, none, none, none, none, none, none, none, none, none, none]
  let ρ1 : DL.Env := [some (.scr ns), some s, none, none, none, none, none, none, none, none, none, none, none, none, none, none]
  obtain ⟨r, s1, k1, r0, r1, hs1⟩ := drw (ρ := ρ1) (i := 1) (f := eC (.int 8)) (m := 8) hs rfl rfl (by omega) (by omega) (by omega)
  obtain ⟨most, hmost, kmost⟩ : ∃ most : Int, (1 ≤ most ∧ most ≤ 256) ∧ eFrz (eIf (eB (e2 eqD (eCall F_law_draw (aCons (eMove 1) (aCons (eC (.int 8)) aNil)) [] [(0, 1)]) (eC (.int 0)))) (eC (.int 256)) (eC (.int 24))) ρ1 = .ok (.int most) (ρ1.set 1 (some s1)) := by
    by_cases c : r = 0
    · exact ⟨256, by omega, eFrz_int (eIf_t (eB_ok (eqi_ok (j := 0) k1 rfl (decide_eq_true c))) rfl)⟩
    · exact ⟨24, by omega, eFrz_int (eIf_f (eB_ok (eqi_ok (j := 0) k1 rfl (decide_eq_false c))) rfl)⟩
  obtain ⟨s2, l, k2, c, hs2⟩ := gclub_ok hmost hs1 (by omega)
  have hN := c.Nle
  have hLl : (LL (rowsL l)).length = N l := by rw [List.length_map, rowsL_len]
  let ρ2 : DL.Env := [some (.scr ns), some s2, some (T l), none, none, none, none, none, none, none, none, none, none, none, none, none]
  let ρ3 : DL.Env := [some (.scr ns), some s2, some (T l), some (rowsD l), none, none, none, none, none, none, none, none, none, none, none, none]
  have hclub : eCall F_law_club (aMvL 1 (aCons (eFrz (eIf (eB (e2 eqD (eCall F_law_draw (aCons (eMove 1) (aCons (eC (.int 8)) aNil)) [] [(0, 1)]) (eC (.int 0)))) (eC (.int 256)) (eC (.int 24)))) aNil)) [] [(0, 1)] ρ1 = .ok (T l) (ρ1.set 1 (some s2)) := eCall_of (ρ1 := (ρ1.set 1 (some s1)).set 1 none) (aMvL_ok (d0 := s) (d := s1) (ρ1 := ρ1.set 1 (some s1)) rfl (aCons_ok kmost rfl) rfl) rfl k2 rfl
  have hrows : eFrz (eCall F_law_rows (aCons (eVar 2) aNil) [] []) ρ2 = .ok (rowsD l) ρ2 := by
    refine (eFrz_ok (eCall_of (ρ1 := ρ2) (aCons_ok (ev rfl rfl) rfl) rfl (law_rows_ok c) rfl)).trans ?_
    show Res.ok (D.lst false (frzL (LL (rowsL l)))) _ = _
    rw [frzL_TI]
    rfl
  have lcn : ∀ (E : D → Option D → DL.Env), (∀ s x, (E s x)[1]? = some (some s)) → (∀ s s' x, (E s x).set 1 (some s') = E s' x) → (∀ s x, wipeE (E s x) [14] = E s none) → (∀ d s, gSet 14 d (E s none) = some (E s (some d))) → ∀ (B : Int) (s : D), Pool B s → B < 2 ^ 29 → ∃ (tot : List Int) (s' : D), lcGo (gSet 14) mYes (eFrz nrE) [14] (LL (rowsL l)) (E s none) = .ok (tot.map D.int) (E s' none) ∧ tot.length = N l ∧ (∀ x ∈ tot, x.natAbs ≤ 10 ^ 37) ∧ Pool (B + 2304) s' := by
    intro E hE1 hE2 hw hg B s hs hB
    obtain ⟨tot, s', e, h1, h2, h3⟩ := lc_draw (E := E) (v := 14) (te := eFrz nrE) (P := fun x => x.natAbs ≤ 10 ^ 37) (K := 9) hw hg (fun B s d hs hB => by
      obtain ⟨v, s', k, hv, hs'⟩ := nr_ok (ρ := E s (some d)) hs (hE1 _ _) (by omega)
      rw [hE2] at k
      exact ⟨v, s', eFrz_int k, hv, hs'⟩) (LL (rowsL l)) B s none hs (by rw [hLl]; omega)
    rw [hLl] at h1 h3
    exact ⟨tot, s', e, h1, h2, h3.mono (by omega)⟩
  obtain ⟨tot, s3, k3, tl, tb, hs3⟩ := lcn (fun s x => [some (.scr ns), some s, some (T l), some (rowsD l), none, none, none, none, none, none, none, none, none, none, x, none]) (fun _ _ => rfl) (fun _ _ _ => rfl) (fun _ _ => rfl) (fun _ _ => rfl) _ s2 hs2 (by omega)
  obtain ⟨mo, s4, k4, ml, mb, hs4⟩ := lcn (fun s x => [some (.scr ns), some s, some (T l), some (rowsD l), some (T tot), none, none, none, none, none, none, none, none, none, x, none]) (fun _ _ => rfl) (fun _ _ _ => rfl) (fun _ _ => rfl) (fun _ _ => rfl) _ s3 hs3 (by omega)
  have ht : Tot l tot := ⟨tl, fun x hx => Nat.le_trans (tb x hx) (by decide)⟩
  have hm : Tot l mo := ⟨ml, fun x hx => Nat.le_trans (mb x hx) (by decide)⟩
  have hb : Tot l (both tot mo) := ⟨by unfold both; rw [List.length_map, List.length_zip, tl, ml, Nat.min_self], fun x hx => by
    obtain ⟨p, hp, rfl⟩ := List.mem_map.mp hx
    have h1 := tb p.1 (List.of_mem_zip hp).1
    have h2 := mb p.2 (List.of_mem_zip hp).2
    show (p.1 + p.2).natAbs ≤ 10 ^ 40
    have : 10 ^ 37 + 10 ^ 37 ≤ 10 ^ 40 := by decide
    omega⟩
  let ρ4 : DL.Env := [some (.scr ns), some s3, some (T l), some (rowsD l), some (T tot), none, none, none, none, none, none, none, none, none, none, none]
  let ρ5 : DL.Env := [some (.scr ns), some s4, some (T l), some (rowsD l), some (T tot), some (T mo), none, none, none, none, none, none, none, none, none, none]
  let ρ6 : DL.Env := LE ns s4 l tot mo (both tot mo) none none none none none none none none none
  obtain ⟨s5, y7, y8, y9, y10, y11, y12, y13, y14, y15, k5⟩ := t_loop (ns := ns) c ht hm hb (rgD 0 5) s4 _ none none none none none none none none none hs4 (by rw [rgD_len]; omega)
  refine ⟨_, run_ok (b := b_law) (ρ := LE ns s5 l tot mo (both tot mo) y7 y8 y9 y10 y11 y12 y13 y14 y15) (ρ0 := ρ0) ?_ rfl (by simp) rfl⟩
  unfold b_law
  refine Eq.trans (seq_nx (ρ1 := ρ1) (sAsg_ok (eCall_of (aCons_ok (ev rfl rfl) rfl) rfl es rfl) rfl)) ?_
  refine Eq.trans (seq_nx (ρ1 := ρ2) (sAsg_ok (eFrz_ok hclub) rfl)) ?_
  refine Eq.trans (seq_nx (ρ1 := ρ3) (sAsg_ok hrows rfl)) ?_
  have it : ∀ ρ : DL.Env, ρ[3]? = some (some (rowsD l)) → iSeq (eVar 3) ρ = .ok (LL (rowsL l)) ρ := fun ρ h => iSeq_ok (d := rowsD l) (ev h rfl) (by show some (frzL (LL (rowsL l))) = _; rw [frzL_TI])
  have lc1 := eLcL_ok (L := 16) (tt := mYes) (g := gSet 14) (vs := [14]) (te := eFrz nrE) (it ρ3 rfl) (by rw [hLl]; omega) rfl k3
  refine Eq.trans (seq_nx (ρ1 := ρ4) (sAsg_ok (tup_ints (o := true) (aCons_ok lc1 rfl)) rfl)) ?_
  have lc2 := eLcL_ok (L := 16) (tt := mYes) (g := gSet 14) (vs := [14]) (te := eFrz nrE) (it ρ4 rfl) (by rw [hLl]; omega) rfl k4
  refine Eq.trans (seq_nx (ρ1 := ρ5) (sAsg_ok (tup_ints (o := true) (aCons_ok lc2 rfl)) rfl)) ?_
  have hz : iZipD (aCons (eVar 4) (aCons (eVar 5) aNil)) ρ5 = .ok ((tot.zip mo).map pP) ρ5 := by
    rw [← zip_pairs]
    exact zip_ok ρ5 (ev rfl rfl) (ev rfl rfl)
  have lc3 := eLcL_ok (L := 16) (tt := mYes) (g := gTupD 2 (gsCons (gSet 8) (gsCons (gSet 9) gsNil))) (vs := [8, 9]) (te := eFrz (e2 addD (eVar 8) (eVar 9))) hz (by rw [List.length_map, List.length_zip]; omega) rfl (lcGo_as (P := pP) (E := fun p => [some (.scr ns), some s4, some (T l), some (rowsD l), some (T tot), some (T mo), none, none, some (.int p.1), some (.int p.2), none, none, none, none, none, none]) (Y := fun p => .int (p.1 + p.2)) (ρ := ρ5) (tot.zip mo) ρ5 rfl fun p _ => ⟨rfl, eFrz_int (add_ok (ev rfl rfl) (ev rfl rfl)), rfl⟩)
  have eb : (tot.zip mo).map (fun p => D.int (p.1 + p.2)) = (both tot mo).map D.int := by unfold both; rw [List.map_map]; rfl
  rw [eb] at lc3
  refine Eq.trans (seq_nx (ρ1 := ρ6) (sAsg_ok (tup_ints (o := true) (aCons_ok lc3 rfl)) rfl)) ?_
  refine Eq.trans (seq_nx ((sFor_of (ρ1 := ρ6) (iRg1_ok (n := 5) (aCons_ok rfl rfl) (by omega))).trans k5)) ?_
  exact sRet_ok rfl
end Lk63

open PySem PySem.W PySem.Calls PyProof.Rows
theorem PySem.Challenge.cw_owncause_k63_whole_sums_of_boxes_holds : PySem.Challenge.rw_owncause_k63_whole_sums_of_boxes.Holds := by
  w_on; o_law
  refine HandSHeadRun.head_any (r := OpenLaw.row PySem.Challenge.rw_owncause_k63_whole_sums_of_boxes) (q := view (OpenLaw.row PySem.Challenge.rw_owncause_k63_whole_sums_of_boxes).prog [40]) (H := Lk63.hk) (ob := Lk63.ob) (M := 4000) (loose := Lk63.loose) (d := HandSHeadRun.topDef (OpenLaw.row PySem.Challenge.rw_owncause_k63_whole_sums_of_boxes).prog 40) (kwd := []) Lk63.ob_eq
    (by kernel_rfl) (fun s => by kernel_rfl) Lk63.run (by kernel_rfl) (by kernel_rfl) (by kernel_rfl) (by rfl) (by first | assumption | decide +kernel) (by decide +kernel) ⟨rfl, rfl, rfl, rfl, rfl, by decide +kernel⟩ ?hw ?hc
  case hw => w_witness2
  case hc =>
    refine DL.walk_ofEW (l := PySem.Challenge.rw_owncause_k63_whole_sums_of_boxes) (n := 63) (k := 7) (x := "_law_script") (CX := fun w => L2.CX (PySem.Challenge.rw_owncause_k63_whole_sums_of_boxes).prog w) rfl (by decide) (by kernel_rfl) ⟨rfl, by decide, by decide⟩ ?F DL.cx_no
    intro w mg fa h Y G hmg0
    obtain ⟨K, KX, c⟩ := Y
    have hmg : mg ("law" : PySem.Str) = some (.ref fa) := by
      have e : (HandSHeadRun.topDef (OpenLaw.row PySem.Challenge.rw_owncause_k63_whole_sums_of_boxes).prog 40).name = ("law" : PySem.Str) := by kernel_rfl
      rw [← e]
      exact hmg0
    obtain ⟨fd, hb, hF⟩ := Lk63.facts (P := (PySem.Challenge.rw_owncause_k63_whole_sums_of_boxes).prog) (w := w) KX G hmg c
    exact ⟨K, fd, _, KX, hb, fun H a ns hl _ hS => DL.spLaw_of Lk63.law_true H a ns hl hS, hF⟩
