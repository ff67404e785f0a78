import PyProof.Rows.All
import Wide.All
import OpenK.AllK
import Wide.FinOn
import HandS.ForMost
import HandS.Walk
import HandS.DictComp
import HandS.Conv
import KE.SortData
import KE.DataEq
import KE.DataMinMax
import KE.DataIsa
import PyProof.ReprRoads
import HandS.IsInst
import HandS.NoneIn
import HandS.Rev
import HandS.RevTup
import PySem.Challenge.RW_samphire_k50_greatest_flows_and_least_cu
set_option Elab.async false
set_option linter.all false
set_option maxRecDepth 100000
set_option autoImplicit false
/-! D layer, part 1: data, owned cells, states. -/
namespace DL
open PySem PySem.Spec PyProof.Rows L2

/-- data that stand still -/
inductive Dt where
  | non | bl (b : Bool) | int (i : Int) | str (s : Str)
  | tup (ds : List Dt) | lst (ds : List Dt)
  | dic (kvs : List (Key × Dt))
  | dct (kvs : List (List Key × Dt))
  | ins (C : Addr) (fs : List (Str × Dt))
  /-- a list of ints that is only read (the script) -/
  | rl (ns : List Int)
  /-- a tuple of ints and texts that may be a key -/
  | kt (ks : List Key)

mutual
inductive Rp (K : PySem.W.Frag) (H : Hp) : V → Dt → Prop
  | non : Rp K H .non .non
  | bl (b : Bool) : Rp K H (.bl b) (.bl b)
  | int (i : Int) : Rp K H (.int i) (.int i)
  | str (x : Str) : Rp K H (.str x) (.str x)
  | tup {a : Addr} {vs : List V} {ds : List Dt} : SqT K H a vs → RpL K H vs ds → Rp K H (.ref a) (.tup ds)
  | lst {a : Addr} {vs : List V} {ds : List Dt} : Rd H a (.lst vs) → RpL K H vs ds → Rp K H (.ref a) (.lst ds)
  | dic {a : Addr} {ws : List (Key × V)} {kvs : List (Key × Dt)} : Rd H a (.dK ws) → RpK K H ws kvs → Rp K H (.ref a) (.dic kvs)
  | dct {a : Addr} {ws : List (List Key × V)} {kvs : List (List Key × Dt)} : Rd H a (.dT ws) → RpT K H ws kvs → Rp K H (.ref a) (.dct kvs)
  | ins {a C dx : Addr} {ws : List (Str × V)} {fs : List (Str × Dt)} : H a = some (.ins C dx ws) → RpF K H ws fs → Rp K H (.ref a) (.ins C fs)
  | rl {a : Addr} {ns : List Int} : SqL K H a (ns.map V.int) → Rp K H (.ref a) (.rl ns)
  | kt {a : Addr} {ks : List Key} : H a = some (.tup (ks.map kV)) → Rp K H (.ref a) (.kt ks)
inductive RpL (K : PySem.W.Frag) (H : Hp) : List V → List Dt → Prop
  | nil : RpL K H [] []
  | cons {v : V} {vs : List V} {d : Dt} {ds : List Dt} : Rp K H v d → RpL K H vs ds → RpL K H (v :: vs) (d :: ds)
inductive RpK (K : PySem.W.Frag) (H : Hp) : List (Key × V) → List (Key × Dt) → Prop
  | nil : RpK K H [] []
  | cons {k : Key} {v : V} {vs : List (Key × V)} {d : Dt} {ds : List (Key × Dt)} : Rp K H v d → RpK K H vs ds → RpK K H ((k, v) :: vs) ((k, d) :: ds)
inductive RpT (K : PySem.W.Frag) (H : Hp) : List (List Key × V) → List (List Key × Dt) → Prop
  | nil : RpT K H [] []
  | cons {k : List Key} {v : V} {vs : List (List Key × V)} {d : Dt} {ds : List (List Key × Dt)} : Rp K H v d → RpT K H vs ds → RpT K H ((k, v) :: vs) ((k, d) :: ds)
inductive RpF (K : PySem.W.Frag) (H : Hp) : List (Str × V) → List (Str × Dt) → Prop
  | nil : RpF K H [] []
  | cons {k : Str} {v : V} {vs : List (Str × V)} {d : Dt} {ds : List (Str × Dt)} : Rp K H v d → RpF K H vs ds → RpF K H ((k, v) :: vs) ((k, d) :: ds)
end

/-- what is read stays where tracked things stay, or are only locked or unlocked -/
structure Kp (H H' : Hp) : Prop where
  tupS : ∀ a xs, H a = some (.tup xs) → H' a = some (.tup xs)
  tup : ∀ a xs, Rd H a (.tup xs) → Rd H' a (.tup xs)
  lst : ∀ a xs, Rd H a (.lst xs) → Rd H' a (.lst xs)
  dK : ∀ a xs, Rd H a (.dK xs) → Rd H' a (.dK xs)
  dT : ∀ a xs, Rd H a (.dT xs) → Rd H' a (.dT xs)
  ins : ∀ a C dx fs, H a = some (.ins C dx fs) → H' a = some (.ins C dx fs)
section
variable {K : PySem.W.Frag} {H H' : Hp}
theorem Kp.of (h : ∀ a o, H a = some o → H' a = some o) : Kp H H' := by
  have r : ∀ a u, Rd H a u → Rd H' a u := fun a u q => by
    rcases q with q | ⟨o, q⟩
    · exact .inl (h _ _ q)
    · exact .inr ⟨o, h _ _ q⟩
  exact ⟨fun a _ => h a _, fun a _ => r a _, fun a _ => r a _, fun a _ => r a _, fun a _ => r a _, fun a _ _ _ => h a _⟩
theorem Kp.sqT (h : Kp H H') {a : Addr} {xs : List V} (q : SqT K H a xs) : SqT K H' a xs := by
  rcases q with q | q
  · exact .inl (h.tup _ _ q)
  · exact .inr q
theorem Kp.sqL (h : Kp H H') {a : Addr} {xs : List V} (q : SqL K H a xs) : SqL K H' a xs := by
  rcases q with q | q
  · exact .inl (h.lst _ _ q)
  · exact .inr q
mutual
theorem Rp.mono (h : Kp H H') : ∀ {v : V} {d : Dt}, Rp K H v d → Rp K H' v d
  | _, _, .non => .non
  | _, _, .bl b => .bl b
  | _, _, .int i => .int i
  | _, _, .str x => .str x
  | _, _, .tup q r => .tup (h.sqT q) (RpL.mono h r)
  | _, _, .lst q r => .lst (h.lst _ _ q) (RpL.mono h r)
  | _, _, .dic q r => .dic (h.dK _ _ q) (RpK.mono h r)
  | _, _, .dct q r => .dct (h.dT _ _ q) (RpT.mono h r)
  | _, _, .ins q r => .ins (h.ins _ _ _ _ q) (RpF.mono h r)
  | _, _, .rl q => .rl (h.sqL q)
  | _, _, .kt q => .kt (h.tupS _ _ q)
theorem RpL.mono (h : Kp H H') : ∀ {v : List V} {d : List Dt}, RpL K H v d → RpL K H' v d
  | _, _, .nil => .nil
  | _, _, .cons q r => .cons (Rp.mono h q) (RpL.mono h r)
theorem RpK.mono (h : Kp H H') : ∀ {v : List (Key × V)} {d : List (Key × Dt)}, RpK K H v d → RpK K H' v d
  | _, _, .nil => .nil
  | _, _, .cons q r => .cons (Rp.mono h q) (RpK.mono h r)
theorem RpT.mono (h : Kp H H') : ∀ {v : List (List Key × V)} {d : List (List Key × Dt)}, RpT K H v d → RpT K H' v d
  | _, _, .nil => .nil
  | _, _, .cons q r => .cons (Rp.mono h q) (RpT.mono h r)
theorem RpF.mono (h : Kp H H') : ∀ {v : List (Str × V)} {d : List (Str × Dt)}, RpF K H v d → RpF K H' v d
  | _, _, .nil => .nil
  | _, _, .cons q r => .cons (Rp.mono h q) (RpF.mono h r)
end
theorem RpL.length : ∀ {v : List V} {d : List Dt}, RpL K H v d → v.length = d.length
  | _, _, .nil => rfl
  | _, _, .cons _ r => congrArg (· + 1) (RpL.length r)
theorem RpL.get {i : Nat} {d : Dt} : ∀ {vs : List V} {ds : List Dt} {i : Nat}, RpL K H vs ds → ds[i]? = some d → ∃ v, vs[i]? = some v ∧ Rp K H v d
  | _, _, _, .nil, e => by simp at e
  | _, _, 0, .cons q _, e => by simp at e; subst e; exact ⟨_, rfl, q⟩
  | _, _, i + 1, .cons _ r, e => by
    obtain ⟨v, e1, q⟩ := RpL.get (i := i) r (by simpa using e)
    exact ⟨v, by simpa using e1, q⟩
theorem RpL.getV {v : V} : ∀ {vs : List V} {ds : List Dt} {i : Nat}, RpL K H vs ds → vs[i]? = some v → ∃ d, ds[i]? = some d ∧ Rp K H v d
  | _, _, _, .nil, e => by simp at e
  | _, _, 0, .cons q _, e => by simp at e; subst e; exact ⟨_, rfl, q⟩
  | _, _, i + 1, .cons _ r, e => by
    obtain ⟨v, e1, q⟩ := RpL.getV (i := i) r (by simpa using e)
    exact ⟨v, by simpa using e1, q⟩
theorem RpL.app : ∀ {vs ws : List V} {ds es : List Dt}, RpL K H vs ds → RpL K H ws es → RpL K H (vs ++ ws) (ds ++ es)
  | _, _, _, _, .nil, s => s
  | _, _, _, _, .cons q r, s => .cons q (RpL.app r s)
theorem RpL.take : ∀ {vs : List V} {ds : List Dt} (n : Nat), RpL K H vs ds → RpL K H (vs.take n) (ds.take n)
  | _, _, 0, _ => .nil
  | _, _, _ + 1, .nil => .nil
  | _, _, n + 1, .cons q r => .cons q (RpL.take n r)
theorem RpL.drop : ∀ {vs : List V} {ds : List Dt} (n : Nat), RpL K H vs ds → RpL K H (vs.drop n) (ds.drop n)
  | _, _, 0, r => r
  | _, _, _ + 1, .nil => .nil
  | _, _, n + 1, .cons _ r => RpL.drop n r
theorem RpL.set {v : V} {d : Dt} (h : Rp K H v d) : ∀ {vs : List V} {ds : List Dt} (n : Nat), RpL K H vs ds → RpL K H (vs.set n v) (ds.set n d)
  | _, _, _, .nil => .nil
  | _, _, 0, .cons _ r => .cons h r
  | _, _, n + 1, .cons q r => .cons q (RpL.set h n r)
theorem RpL.rev : ∀ {vs : List V} {ds : List Dt}, RpL K H vs ds → RpL K H vs.reverse ds.reverse
  | _, _, .nil => .nil
  | _, _, .cons q r => by
    rw [List.reverse_cons, List.reverse_cons]
    exact RpL.app (RpL.rev r) (.cons q .nil)
theorem RpL.ints : ∀ {vs : List V} {ns : List Int}, RpL K H vs (ns.map Dt.int) → vs = ns.map V.int
  | _, [], .nil => rfl
  | _, n :: ns, .cons q r => by
    cases q
    rw [RpL.ints r]
    rfl
theorem RpL.of_ints : ∀ (ns : List Int), RpL K H (ns.map V.int) (ns.map Dt.int)
  | [] => .nil
  | n :: ns => .cons (.int n) (RpL.of_ints ns)
end

/-- a value of the symbolic state: data, or an owned cell -/
inductive W where
  | d (x : Dt)
  | l (n : Nat)
/-- what stands in an owned cell -/
inductive OD where
  | gone
  | ls (ds : List Dt)
  | lw (ws : List W)
  | dk (kvs : List (Key × Dt))
  | dt (kvs : List (List Key × Dt))
  | ins (C : Addr) (fs : List (Str × W))

abbrev RO := List (Option Addr)
abbrev Gm := List (Option W)
abbrev Om := List OD
/-- the abstract heap without what is owned -/
def hid (F : List Addr) (ρ : RO) (H : Hp) : Hp := fun a => if some a ∈ ρ ∨ a ∈ F then none else H a
def RpW (K : PySem.W.Frag) (F : List Addr) (ρ : RO) (H : Hp) : V → W → Prop
  | v, .d x => Rp K (hid F ρ H) v x
  | v, .l n => ∃ a, v = .ref a ∧ ρ[n]? = some (some a)
def RpO (K : PySem.W.Frag) (F : List Addr) (ρ : RO) (H : Hp) (a : Addr) : OD → Prop
  | .gone => True
  | .ls ds => ∃ vs, H a = some (.lst vs) ∧ RpL K (hid F ρ H) vs ds
  | .lw ws => ∃ vs, H a = some (.lst vs) ∧ Paired (RpW K F ρ H) vs ws
  | .dk kvs => ∃ ws, H a = some (.dK ws) ∧ RpK K (hid F ρ H) ws kvs
  | .dt kvs => ∃ ws, H a = some (.dT ws) ∧ RpT K (hid F ρ H) ws kvs
  | .ins C fs => ∃ dx ws, H a = some (.ins C dx ws) ∧ Paired (fun (p : Str × V) (q : Str × W) => p.1 = q.1 ∧ RpW K F ρ H p.2 q.2) ws fs
structure Wd (K : PySem.W.Frag) (F : List Addr) (ρ : RO) (Ω : Om) (H : Hp) : Prop where
  len : ρ.length = Ω.length
  nd : ∀ (i j : Nat) (a : Addr), ρ[i]? = some (some a) → ρ[j]? = some (some a) → i = j
  ob : ∀ (n : Nat) (od : OD), Ω[n]? = some od → od ≠ .gone → ∃ a, ρ[n]? = some (some a) ∧ RpO K F ρ H a od
  dead : ∀ (n : Nat), Ω[n]? = some .gone → ρ[n]? = some none
  fr : ∀ a ∈ F, H a ≠ none ∧ some a ∉ ρ
def Sl (K : PySem.W.Frag) (F : List Addr) (ρ : RO) (Γ : Gm) (σ : L2.St) (H : Hp) : Prop :=
  σ.length = Γ.length ∧ ∀ (i : Nat) (w : W), Γ[i]? = some (some w) → ∃ v, σ[i]? = some (some v) ∧ RpW K F ρ H v w
/-- from one state to a later one; the first k cells are the same -/
structure Step (k : Nat) (ρ : RO) (H : Hp) (ρ' : RO) (H' : Hp) : Prop where
  ext : ∀ a o, H a = some o → some a ∉ ρ → H' a = some o
  old : ∀ (n : Nat), n < k → ρ'[n]? = ρ[n]?
  new : ∀ a, some a ∈ ρ' → some a ∈ ρ ∨ H a = none
  trk : ∀ a, some a ∈ ρ → H' a ≠ none
/-- only new cells behind the old ones -/
def Pre (ρ ρ' : RO) : Prop := ∃ ν, ρ' = ρ ++ ν
theorem Pre.refl (ρ : RO) : Pre ρ ρ := ⟨[], (List.append_nil ρ).symm⟩
theorem Pre.trans {ρ ρ1 ρ2 : RO} (h : Pre ρ ρ1) (g : Pre ρ1 ρ2) : Pre ρ ρ2 := by
  obtain ⟨a, rfl⟩ := h
  obtain ⟨b, rfl⟩ := g
  exact ⟨a ++ b, List.append_assoc _ _ _⟩
theorem Pre.get {ρ ρ' : RO} (h : Pre ρ ρ') {n : Nat} {x : Option Addr} (e : ρ[n]? = some x) : ρ'[n]? = some x := by
  obtain ⟨ν, rfl⟩ := h
  have hn := (List.getElem?_eq_some_iff.mp e).1
  rw [List.getElem?_append_left hn]
  exact e
theorem Pre.old {ρ ρ' : RO} (h : Pre ρ ρ') {n : Nat} (e : n < ρ.length) : ρ'[n]? = ρ[n]? := by
  obtain ⟨ν, rfl⟩ := h
  rw [List.getElem?_append_left e]
theorem hid_le {F : List Addr} {ρ : RO} {H : Hp} {a : Addr} {o : HO} (h : hid F ρ H a = some o) : H a = some o ∧ some a ∉ ρ := by
  unfold hid at h
  split at h
  · cases h
  · rename_i z
    exact ⟨h, fun q => z (.inl q)⟩
theorem hid_leF {F : List Addr} {ρ : RO} {H : Hp} {a : Addr} {o : HO} (h : hid F ρ H a = some o) : a ∉ F := by
  unfold hid at h
  split at h
  · cases h
  · rename_i z
    exact fun q => z (.inr q)
theorem hid_of {F : List Addr} {ρ : RO} {H : Hp} {a : Addr} {o : HO} (h : H a = some o) (n : some a ∉ ρ) (m : a ∉ F) : hid F ρ H a = some o := by
  unfold hid
  rw [if_neg (fun z => z.elim n m)]
  exact h
theorem mem_of_get {ρ : RO} {n : Nat} {a : Addr} (h : ρ[n]? = some (some a)) : some a ∈ ρ := List.mem_of_getElem? h

section
variable {K : PySem.W.Frag} {F : List Addr} {ρ ρ' ρ1 ρ2 : RO} {H H' H1 H2 : Hp} {Γ : Gm} {Ω Ω' : Om} {σ : L2.St} {k j : Nat}
theorem Wd.trk (h : Wd K F ρ Ω H) {a : Addr} (m : some a ∈ ρ) : H a ≠ none := by
  obtain ⟨n, e⟩ := List.getElem?_of_mem m
  have hn : n < Ω.length := by rw [← h.len]; exact (List.getElem?_eq_some_iff.mp e).1
  have eo : Ω[n]? = some Ω[n] := List.getElem?_eq_getElem hn
  by_cases hg : Ω[n] = .gone
  · rw [hg] at eo
    have := h.dead n eo
    rw [e] at this
    cases this
  · obtain ⟨b, eb, r⟩ := h.ob n _ eo hg
    rw [e] at eb
    cases eb
    intro hz
    cases q : Ω[n] with
    | gone => exact hg q
    | ls ds => rw [q] at r; obtain ⟨_, r, _⟩ := r; rw [hz] at r; cases r
    | lw ds => rw [q] at r; obtain ⟨_, r, _⟩ := r; rw [hz] at r; cases r
    | dk ds => rw [q] at r; obtain ⟨_, r, _⟩ := r; rw [hz] at r; cases r
    | dt ds => rw [q] at r; obtain ⟨_, r, _⟩ := r; rw [hz] at r; cases r
    | ins C ds => rw [q] at r; obtain ⟨_, _, r, _⟩ := r; rw [hz] at r; cases r
theorem Wd.fresh (h : Wd K F ρ Ω H) {a : Addr} (e : H a = none) : some a ∉ ρ := fun m => h.trk m e
theorem Step.refl (h : Wd K F ρ Ω H) : Step k ρ H ρ H := ⟨fun _ _ e _ => e, fun _ _ => rfl, fun _ m => .inl m, fun _ m => h.trk m⟩
theorem Step.trans (a : Step k ρ H ρ1 H1) (b : Step k ρ1 H1 ρ2 H2) : Step k ρ H ρ2 H2 where
  ext := fun x o e n => by
    refine b.ext x o (a.ext x o e n) fun m => ?_
    rcases a.new x m with q | q
    · exact n q
    · rw [e] at q; cases q
  old := fun n hn => (b.old n hn).trans (a.old n hn)
  new := fun x m => by
    rcases b.new x m with q | q
    · exact a.new x q
    · cases e : H x with
      | none => exact .inr rfl
      | some o =>
        by_cases n : some x ∈ ρ
        · exact .inl n
        · rw [a.ext x o e n] at q; cases q
  trk := fun x m => by
    have t := a.trk x m
    cases e : H1 x with
    | none => exact absurd e t
    | some o =>
      by_cases n : some x ∈ ρ1
      · exact b.trk x n
      · rw [b.ext x o e n]; exact fun z => by cases z
theorem Step.le (a : Step k ρ H ρ1 H1) (h : j ≤ k) : Step j ρ H ρ1 H1 := ⟨a.ext, fun n hn => a.old n (Nat.lt_of_lt_of_le hn h), a.new, a.trk⟩
theorem Step.hid (a : Step k ρ H ρ1 H1) : ∀ x o, hid F ρ H x = some o → hid F ρ1 H1 x = some o := fun x o e => by
  have f := hid_leF e
  obtain ⟨e, n⟩ := hid_le e
  refine hid_of (a.ext x o e n) (fun m => ?_) f
  rcases a.new x m with q | q
  · exact n q
  · rw [e] at q; cases q
theorem Step.kp (a : Step k ρ H ρ1 H1) : Kp (DL.hid F ρ H) (DL.hid F ρ1 H1) := Kp.of a.hid
theorem RpW.mono (a : Step k ρ H ρ1 H1) (p : Pre ρ ρ1) {v : V} {w : W} (h : RpW K F ρ H v w) : RpW K F ρ1 H1 v w := by
  cases w with
  | d x => exact Rp.mono a.kp h
  | l n =>
    obtain ⟨b, e, q⟩ := h
    exact ⟨b, e, p.get q⟩
theorem Sl.mono (a : Step k ρ H ρ1 H1) (p : Pre ρ ρ1) (h : Sl K F ρ Γ σ H) : Sl K F ρ1 Γ σ H1 :=
  ⟨h.1, fun i w e => let ⟨v, e1, r⟩ := h.2 i w e; ⟨v, e1, RpW.mono a p r⟩⟩
theorem Paired.imp {α β : Type} {F G : α → β → Prop} (f : ∀ a b, F a b → G a b) : ∀ {xs : List α} {ys : List β}, Paired F xs ys → Paired G xs ys
  | _, _, .nil => .nil
  | _, _, .cons q r => .cons (f _ _ q) (Paired.imp f r)
theorem RpO.mono (a : Step k ρ H ρ1 H1) (p : Pre ρ ρ1) {b : Addr} {od : OD} (e : ∀ o, H b = some o → H1 b = some o) (h : RpO K F ρ H b od) : RpO K F ρ1 H1 b od := by
  cases od with
  | gone => trivial
  | ls ds => obtain ⟨vs, q, r⟩ := h; exact ⟨vs, e _ q, RpL.mono a.kp r⟩
  | lw ws => obtain ⟨vs, q, r⟩ := h; exact ⟨vs, e _ q, Paired.imp (fun _ _ z => RpW.mono a p z) r⟩
  | dk ds => obtain ⟨vs, q, r⟩ := h; exact ⟨vs, e _ q, RpK.mono a.kp r⟩
  | dt ds => obtain ⟨vs, q, r⟩ := h; exact ⟨vs, e _ q, RpT.mono a.kp r⟩
  | ins C ds => obtain ⟨dx, vs, q, r⟩ := h; exact ⟨dx, vs, e _ q, Paired.imp (fun _ _ z => ⟨z.1, RpW.mono a p z.2⟩) r⟩
/-- a new object that is data -/
theorem step_new (h : Wd K F ρ Ω H) {b : Addr} {o : HO} (e : H b = none) : Step k ρ H ρ (upd H b o) where
  ext := fun a u q _ => by rw [upd_ne (ne_of_none q e)]; exact q
  old := fun _ _ => rfl
  new := fun _ m => .inl m
  trk := fun a m => by
    have := h.trk m
    rw [upd_ne (fun z => this (by rw [z]; exact e))]
    exact this
theorem Wd.new (h : Wd K F ρ Ω H) {b : Addr} {o : HO} (e : H b = none) : Wd K F ρ Ω (upd H b o) := by
  have s : Step 0 ρ H ρ (upd H b o) := step_new h e
  refine ⟨h.len, h.nd, fun n od en hg => ?_, h.dead, fun a ha => ⟨fun z => (h.fr a ha).1 (by rw [upd_ne (fun y => (h.fr a ha).1 (by rw [y]; exact e))] at z; exact z), (h.fr a ha).2⟩⟩
  obtain ⟨a, ea, r⟩ := h.ob n od en hg
  exact ⟨a, ea, r.mono s (Pre.refl ρ) fun u q => by rw [upd_ne (ne_of_none q e)]; exact q⟩
/-- heaps that only grow -/
theorem Wd.grow (h : Wd K F ρ Ω H) (e : ∀ a o, H a = some o → H' a = some o) : Step k ρ H ρ H' ∧ Wd K F ρ Ω H' := by
  have s : Step k ρ H ρ H' := ⟨fun a o q _ => e a o q, fun _ _ => rfl, fun _ m => .inl m, fun a m z => by
    cases q : H a with
    | none => exact h.trk m q
    | some o => rw [e a o q] at z; cases z⟩
  exact ⟨s, h.len, h.nd, fun n od en hg => let ⟨a, ea, r⟩ := h.ob n od en hg; ⟨a, ea, r.mono s (Pre.refl ρ) fun u q => e a u q⟩, h.dead, fun a ha => ⟨fun z => (h.fr a ha).1 (by
    cases q : H a with
    | none => rfl
    | some o => rw [e a o q] at z; cases z), (h.fr a ha).2⟩⟩
/-- a new object that is owned -/
theorem Wd.own (h : Wd K F ρ Ω H) {b : Addr} {o : HO} {od : OD} (e : H b = none) (hg : od ≠ .gone) (r : RpO K F (ρ ++ [some b]) (upd H b o) b od) (hk : k ≤ ρ.length) :
    Step k ρ H (ρ ++ [some b]) (upd H b o) ∧ Pre ρ (ρ ++ [some b]) ∧ Wd K F (ρ ++ [some b]) (Ω ++ [od]) (upd H b o) := by
  have p : Pre ρ (ρ ++ [some b]) := ⟨_, rfl⟩
  have s : Step k ρ H (ρ ++ [some b]) (upd H b o) := ⟨(step_new (k := k) h e).ext, fun n hn => p.old (Nat.lt_of_lt_of_le hn hk), fun a m => by
    rcases List.mem_append.mp m with q | q
    · exact .inl q
    · simp at q; subst q; exact .inr e, (step_new (k := k) h e).trk⟩
  refine ⟨s, p, by rw [List.length_append, List.length_append, h.len]; rfl, fun i j a e1 e2 => ?_, fun n q en hq => ?_, fun n en => ?_, fun a ha => ⟨fun z => ?_, fun m => ?_⟩⟩
  · have fr : ∀ (i : Nat), ρ[i]? = some (some b) → False := fun i q => h.fresh e (mem_of_get q)
    have lo : ∀ (i : Nat), (ρ ++ [some b])[i]? = some (some a) → (ρ[i]? = some (some a) ∧ i < ρ.length) ∨ (i = ρ.length ∧ a = b) := fun i q => by
      by_cases hi : i < ρ.length
      · rw [List.getElem?_append_left hi] at q; exact .inl ⟨q, hi⟩
      · have hl := (List.getElem?_eq_some_iff.mp q).1
        rw [List.length_append] at hl
        simp only [List.length_cons, List.length_nil] at hl
        have hi2 : i = ρ.length := by omega
        subst hi2
        rw [List.getElem?_append_right (Nat.le_refl _), Nat.sub_self] at q
        simp at q
        exact .inr ⟨rfl, q.symm⟩
    rcases lo i e1 with ⟨q1, l1⟩ | ⟨q1, z1⟩ <;> rcases lo j e2 with ⟨q2, l2⟩ | ⟨q2, z2⟩
    · exact h.nd i j a q1 q2
    · subst z2; exact (fr i q1).elim
    · subst z1; exact (fr j q2).elim
    · rw [q1, q2]
  · by_cases hn : n < Ω.length
    · rw [List.getElem?_append_left hn] at en
      obtain ⟨a, ea, ra⟩ := h.ob n q en hq
      exact ⟨a, p.get ea, ra.mono s p fun u z => by rw [upd_ne (ne_of_none z e)]; exact z⟩
    · have hl := (List.getElem?_eq_some_iff.mp en).1
      rw [List.length_append] at hl
      simp only [List.length_cons, List.length_nil] at hl
      have hi2 : n = Ω.length := by omega
      subst hi2
      rw [List.getElem?_append_right (Nat.le_refl _), Nat.sub_self] at en
      simp at en
      subst en
      refine ⟨b, ?_, r⟩
      rw [List.getElem?_append_right (by rw [h.len]; exact Nat.le_refl _), h.len, Nat.sub_self]
      rfl
  · by_cases hn : n < Ω.length
    · rw [List.getElem?_append_left hn] at en
      exact p.get (h.dead n en)
    · have hl := (List.getElem?_eq_some_iff.mp en).1
      rw [List.length_append] at hl
      simp only [List.length_cons, List.length_nil] at hl
      have hi2 : n = Ω.length := by omega
      subst hi2
      rw [List.getElem?_append_right (Nat.le_refl _), Nat.sub_self] at en
      simp at en
      exact (hg en).elim
  · have q := (h.fr a ha).1
    rw [upd_ne (fun y => q (by rw [y]; exact e))] at z
    exact q z
  · rcases List.mem_append.mp m with q | q
    · exact (h.fr a ha).2 q
    · simp at q; subst q; exact (h.fr a ha).1 e
/-- an owned cell is written -/
theorem step_put (h : Wd K F ρ Ω H) {n : Nat} {a : Addr} {o : HO} (ea : ρ[n]? = some (some a)) : Step k ρ H ρ (upd H a o) where
  ext := fun b u q m => by rw [upd_ne (fun z => m (by rw [z]; exact mem_of_get ea))]; exact q
  old := fun _ _ => rfl
  new := fun _ m => .inl m
  trk := fun b m => by
    by_cases z : b = a
    · subst z; rw [upd_same]; exact fun q => by cases q
    · rw [upd_ne z]; exact h.trk m
theorem Wd.put (h : Wd K F ρ Ω H) {n : Nat} {a : Addr} {o : HO} {od od0 : OD} (e0 : Ω[n]? = some od0) (g0 : od0 ≠ .gone) (ea : ρ[n]? = some (some a)) (hg : od ≠ .gone) (r : RpO K F ρ (upd H a o) a od) : Wd K F ρ (Ω.set n od) (upd H a o) := by
  have s : Step 0 ρ H ρ (upd H a o) := step_put h ea
  have hn : n < Ω.length := (List.getElem?_eq_some_iff.mp e0).1
  refine ⟨by rw [List.length_set]; exact h.len, h.nd, fun m q em hq => ?_, fun m em => ?_, fun b hb => ⟨?_, (h.fr b hb).2⟩⟩
  · by_cases z : n = m
    · subst z
      rw [List.getElem?_set_self hn] at em
      cases em
      exact ⟨a, ea, r⟩
    · rw [List.getElem?_set_ne z] at em
      obtain ⟨b, eb, rb⟩ := h.ob m q em hq
      refine ⟨b, eb, rb.mono s (Pre.refl ρ) fun u y => ?_⟩
      rw [upd_ne]
      · exact y
      · intro c; subst c; exact z (h.nd n m _ ea eb)
  · by_cases z : n = m
    · subst z
      rw [List.getElem?_set_self hn] at em
      cases em
      exact (hg rfl).elim
    · rw [List.getElem?_set_ne z] at em
      exact h.dead m em
  · rw [upd_ne (fun z => (h.fr b hb).2 (by rw [z]; exact mem_of_get ea))]
    exact (h.fr b hb).1
/-- the hidden heap does not see a write to an owned cell -/
theorem hid_put {n : Nat} {a : Addr} {o : HO} (ea : ρ[n]? = some (some a)) : hid F ρ (upd H a o) = hid F ρ H := by
  funext b
  unfold hid
  by_cases m : some b ∈ ρ ∨ b ∈ F
  · rw [if_pos m, if_pos m]
  · rw [if_neg m, if_neg m, upd_ne]
    intro z; subst z; exact m (.inl (mem_of_get ea))
theorem RpW.put {n : Nat} {a : Addr} {o : HO} (ea : ρ[n]? = some (some a)) {v : V} {w : W} (h : RpW K F ρ H v w) : RpW K F ρ (upd H a o) v w := by
  cases w with
  | d x =>
    show Rp K (hid F ρ (upd H a o)) v x
    rw [hid_put ea]
    exact h
  | l n => exact h
end
end DL
/-! D layer, part 2: judgements of expressions, and their first rules. -/
namespace DL
open PySem PySem.Spec PyProof.Rows L2

def XS (ρ : RO) (H : Hp) (ρ' : RO) (H' : Hp) : Prop := Step ρ.length ρ H ρ' H' ∧ Pre ρ ρ'
/-- what follows, given the value, the cells and the heap behind -/
def Kont (K : PySem.W.Frag) (F : List Addr) (ρ : RO) (H : Hp) (Ω' : Om) (w : W) (Q : VK) : Prop := ∀ v ρ' H', XS ρ H ρ' H' → Wd K F ρ' Ω' H' → RpW K F ρ' H' v w → Q v H'
def tX (K : PySem.W.Frag) (Γ : Gm) (Ω : Om) (w : W) (Ω' : Om) : TE := fun σ H Q => ∃ F ρ, Wd K F ρ Ω H ∧ Sl K F ρ Γ σ H ∧ Kont K F ρ H Ω' w Q
/-- e gives w; the owned cells go from Ω to Ω' -/
def PX (X : Cx) (e : Expr) (Γ : Gm) (Ω : Om) (w : W) (Ω' : Om) : Prop := PE X e (tX X.K Γ Ω w Ω')
def tTX (K : PySem.W.Frag) (Γ : Gm) (Ω : Om) (b : Bool) (Ω' : Om) : TT := fun σ H Q => ∃ F ρ, Wd K F ρ Ω H ∧ Sl K F ρ Γ σ H ∧ ∀ ρ' H', XS ρ H ρ' H' → Wd K F ρ' Ω' H' → Q b H'
def TX (X : Cx) (e : Expr) (Γ : Gm) (Ω : Om) (b : Bool) (Ω' : Om) : Prop := PT X e (tTX X.K Γ Ω b Ω')
def WX (X : Cx) (e : Expr) (Γ : Gm) (Ω : Om) (b : Bool) (Ω' : Om) : Prop := PW X e (tTX X.K Γ Ω b Ω')
def RpWs (K : PySem.W.Frag) (F : List Addr) (ρ : RO) (H : Hp) : List V → List W → Prop := Paired (RpW K F ρ H)
def tAX (K : PySem.W.Frag) (Γ : Gm) (Ω : Om) (ws : List W) (Ω' : Om) : TA := fun σ H Q => ∃ F ρ, Wd K F ρ Ω H ∧ Sl K F ρ Γ σ H ∧ ∀ vs ρ' H', XS ρ H ρ' H' → Wd K F ρ' Ω' H' → RpWs K F ρ' H' vs ws → Q vs H'
def AX (X : Cx) (es : List Expr) (Γ : Gm) (Ω : Om) (ws : List W) (Ω' : Om) : Prop := PA X es (tAX X.K Γ Ω ws Ω')

theorem PE.wk {X : Cx} {e : Expr} {t t' : TE} (h : PE X e t) (w : ∀ σ H Q, t' σ H Q → t σ H Q) : PE X e t' := ⟨fun pins s σ H Q I q => h.run pins s σ H Q I (w _ _ _ q)⟩
theorem PT.wk {X : Cx} {e : Expr} {t t' : TT} (h : PT X e t) (w : ∀ σ H Q, t' σ H Q → t σ H Q) : PT X e t' := ⟨fun pins s σ H Q I q => h.run pins s σ H Q I (w _ _ _ q)⟩
theorem PW.wk {X : Cx} {e : Expr} {t t' : TT} (h : PW X e t) (w : ∀ σ H Q, t' σ H Q → t σ H Q) : PW X e t' := ⟨fun wh pins s σ H Q I q => h.run wh pins s σ H Q I (w _ _ _ q)⟩
theorem PA.wk {X : Cx} {e : List Expr} {t t' : TA} (h : PA X e t) (w : ∀ σ H Q, t' σ H Q → t σ H Q) : PA X e t' := ⟨fun pos pins s σ H Q I q => h.run pos pins s σ H Q I (w _ _ _ q)⟩
theorem PS.wk {X : Cx} {e : Stmt} {t t' : TS} (h : PS X e t) (w : ∀ D σ H, t' D σ H → t D σ H) : PS X e t' := ⟨fun pins s σ H D I q => h.run pins s σ H D I (w _ _ _ q)⟩
theorem PSs.wk {X : Cx} {e : List Stmt} {t t' : TS} (h : PSs X e t) (w : ∀ D σ H, t' D σ H → t D σ H) : PSs X e t' := ⟨fun pins s σ H D I q => h.run pins s σ H D I (w _ _ _ q)⟩
theorem PE.wkEx {X : Cx} {e : Expr} {ι : Type} {p : ι → Prop} {t : ι → TE} (h : ∀ i, p i → PE X e (t i)) : PE X e (fun σ H Q => ∃ i, p i ∧ t i σ H Q) := ⟨fun pins s σ H Q I q => let ⟨i, hp, q⟩ := q; (h i hp).run pins s σ H Q I q⟩
theorem PSs.wkEx {X : Cx} {e : List Stmt} {ι : Type} {p : ι → Prop} {t : ι → TS} (h : ∀ i, p i → PSs X e (t i)) : PSs X e (fun D σ H => ∃ i, p i ∧ t i D σ H) := ⟨fun pins s σ H D I q => let ⟨i, hp, q⟩ := q; (h i hp).run pins s σ H D I q⟩

section
variable {K : PySem.W.Frag} {F : List Addr} {ρ ρ' ρ1 ρ2 : RO} {H H' H1 H2 : Hp} {Γ : Gm} {Ω Ω' Ω1 Ω2 Ω3 : Om} {σ : L2.St} {Q : VK} {w : W} {v : V} {k : Nat}
theorem Pre.len (p : Pre ρ ρ') : ρ.length ≤ ρ'.length := by
  obtain ⟨ν, rfl⟩ := p
  rw [List.length_append]
  exact Nat.le_add_right _ _
theorem XS.refl (h : Wd K F ρ Ω H) : XS ρ H ρ H := ⟨Step.refl h, Pre.refl ρ⟩
theorem XS.trans (a : XS ρ H ρ1 H1) (b : XS ρ1 H1 ρ2 H2) : XS ρ H ρ2 H2 := ⟨a.1.trans (b.1.le a.2.len), a.2.trans b.2⟩
theorem RpW.xs (a : XS ρ H ρ1 H1) {v : V} {w : W} (h : RpW K F ρ H v w) : RpW K F ρ1 H1 v w := RpW.mono a.1 a.2 h
theorem RpWs.xs (a : XS ρ H ρ1 H1) {v : List V} {w : List W} (h : RpWs K F ρ H v w) : RpWs K F ρ1 H1 v w := Paired.imp (fun _ _ z => RpW.xs a z) h
theorem Sl.xs (a : XS ρ H ρ1 H1) (h : Sl K F ρ Γ σ H) : Sl K F ρ1 Γ σ H1 := Sl.mono a.1 a.2 h
/-- a value, nothing changed -/
theorem Kont.val (q : Kont K F ρ H Ω w Q) (h : Wd K F ρ Ω H) (r : RpW K F ρ H v w) : Q v H := q v ρ H (XS.refl h) h r
theorem Kont.go (q : Kont K F ρ H Ω w Q) (a : XS ρ H ρ1 H1) : Kont K F ρ1 H1 Ω w Q := fun v ρ' H' s => q v ρ' H' (a.trans s)
/-- a new object that is data -/
theorem Kont.new {x : Dt} {p : Addr} {o : HO} (q : Kont K F ρ H Ω (.d x) Q) (h : Wd K F ρ Ω H) (e : H p = none) (r : Rp K (hid F ρ (upd H p o)) (.ref p) x) : Q (.ref p) (upd H p o) :=
  q _ ρ _ ⟨step_new h e, Pre.refl ρ⟩ (h.new e) r
theorem hid_new (h : Wd K F ρ Ω H) {p : Addr} {o : HO} (e : H p = none) : hid F ρ (upd H p o) p = some o := hid_of upd_same (h.fresh e) (fun m => (h.fr p m).1 e)
theorem Rp.new (h : Wd K F ρ Ω H) {p : Addr} {o : HO} (e : H p = none) {v : V} {x : Dt} (r : Rp K (hid F ρ H) v x) : Rp K (hid F ρ (upd H p o)) v x := Rp.mono (step_new (k := 0) h e).kp r
theorem RpL.new (h : Wd K F ρ Ω H) {p : Addr} {o : HO} (e : H p = none) {v : List V} {x : List Dt} (r : RpL K (hid F ρ H) v x) : RpL K (hid F ρ (upd H p o)) v x := RpL.mono (step_new (k := 0) h e).kp r
theorem Rp.newL (h : Wd K F ρ Ω H) {p : Addr} {vs : List V} {ds : List Dt} (e : H p = none) (r : RpL K (hid F ρ H) vs ds) : Rp K (hid F ρ (upd H p (.lst vs))) (.ref p) (.lst ds) :=
  .lst (.inl (hid_new h e)) (r.new h e)
theorem Rp.newT (h : Wd K F ρ Ω H) {p : Addr} {vs : List V} {ds : List Dt} (e : H p = none) (r : RpL K (hid F ρ H) vs ds) : Rp K (hid F ρ (upd H p (.tup vs))) (.ref p) (.tup ds) :=
  .tup (.inl (.inl (hid_new h e))) (r.new h e)
theorem Kont.newL {vs : List V} {ds : List Dt} {p : Addr} (q : Kont K F ρ H Ω (.d (.lst ds)) Q) (h : Wd K F ρ Ω H) (r : RpL K (hid F ρ H) vs ds) (e : H p = none) : Q (.ref p) (upd H p (.lst vs)) := q.new h e (Rp.newL h e r)
theorem Kont.newT {vs : List V} {ds : List Dt} {p : Addr} (q : Kont K F ρ H Ω (.d (.tup ds)) Q) (h : Wd K F ρ Ω H) (r : RpL K (hid F ρ H) vs ds) (e : H p = none) : Q (.ref p) (upd H p (.tup vs)) := q.new h e (Rp.newT h e r)
/-- the hidden heap of an own new object is the old one -/
theorem kp_own (h : Wd K F ρ Ω H) {p : Addr} {o : HO} (e : H p = none) : Kp (hid F ρ H) (hid F (ρ ++ [some p]) (upd H p o)) := Kp.of fun a u q => by
  have f := hid_leF q
  obtain ⟨q, n⟩ := hid_le q
  refine hid_of (by rw [upd_ne (ne_of_none q e)]; exact q) (fun m => ?_) f
  rcases List.mem_append.mp m with z | z
  · exact n z
  · simp at z; subst z; rw [e] at q; cases q
theorem Kont.ownL {vs : List V} {ds : List Dt} {p : Addr} (q : Kont K F ρ H (Ω ++ [.ls ds]) (.l Ω.length) Q) (h : Wd K F ρ Ω H) (r : RpL K (hid F ρ H) vs ds) (e : H p = none) : Q (.ref p) (upd H p (.lst vs)) := by
  obtain ⟨s, p1, w1⟩ := h.own (od := .ls ds) (o := .lst vs) (k := ρ.length) e (fun z => by cases z) ⟨vs, upd_same, RpL.mono (kp_own h e) r⟩ (Nat.le_refl _)
  refine q _ _ _ ⟨s, p1⟩ w1 ⟨p, rfl, ?_⟩
  rw [← h.len, List.getElem?_append_right (Nat.le_refl _), Nat.sub_self]
  rfl
theorem Kont.ownK {ws : List (Key × V)} {kvs : List (Key × Dt)} {p : Addr} (q : Kont K F ρ H (Ω ++ [.dk kvs]) (.l Ω.length) Q) (h : Wd K F ρ Ω H) (r : RpK K (hid F ρ H) ws kvs) (e : H p = none) : Q (.ref p) (upd H p (.dK ws)) := by
  obtain ⟨s, p1, w1⟩ := h.own (od := .dk kvs) (o := .dK ws) (k := ρ.length) e (fun z => by cases z) ⟨ws, upd_same, RpK.mono (kp_own h e) r⟩ (Nat.le_refl _)
  refine q _ _ _ ⟨s, p1⟩ w1 ⟨p, rfl, ?_⟩
  rw [← h.len, List.getElem?_append_right (Nat.le_refl _), Nat.sub_self]
  rfl
theorem Kont.ownT {ws : List (List Key × V)} {kvs : List (List Key × Dt)} {p : Addr} (q : Kont K F ρ H (Ω ++ [.dt kvs]) (.l Ω.length) Q) (h : Wd K F ρ Ω H) (r : RpT K (hid F ρ H) ws kvs) (e : H p = none) : Q (.ref p) (upd H p (.dT ws)) := by
  obtain ⟨s, p1, w1⟩ := h.own (od := .dt kvs) (o := .dT ws) (k := ρ.length) e (fun z => by cases z) ⟨ws, upd_same, RpT.mono (kp_own h e) r⟩ (Nat.le_refl _)
  refine q _ _ _ ⟨s, p1⟩ w1 ⟨p, rfl, ?_⟩
  rw [← h.len, List.getElem?_append_right (Nat.le_refl _), Nat.sub_self]
  rfl
/-- a write to an owned cell -/
theorem Kont.put {n : Nat} {a : Addr} {o : HO} {od od0 : OD} (q : Kont K F ρ H (Ω.set n od) w Q) (h : Wd K F ρ Ω H) (e0 : Ω[n]? = some od0) (g0 : od0 ≠ .gone) (ea : ρ[n]? = some (some a)) (hg : od ≠ .gone) (r : RpO K F ρ (upd H a o) a od) (rw : RpW K F ρ H v w) :
    Q v (upd H a o) := q v ρ _ ⟨step_put h ea, Pre.refl ρ⟩ (h.put e0 g0 ea hg r) (RpW.put ea rw)

/-! ### value level: operations on values -/
def R2X (K : PySem.W.Frag) (r : R2) (Ω : Om) (wa wb w : W) (Ω' : Om) : Prop := ∀ F ρ H x y (Q : VK), Wd K F ρ Ω H → RpW K F ρ H x wa → RpW K F ρ H y wb → Kont K F ρ H Ω' w Q → r x y H Q
def R1X (K : PySem.W.Frag) (r : V → Hp → VK → Prop) (Ω : Om) (wa w : W) (Ω' : Om) : Prop := ∀ F ρ H x (Q : VK), Wd K F ρ Ω H → RpW K F ρ H x wa → Kont K F ρ H Ω' w Q → r x H Q
def RNX (K : PySem.W.Frag) (r : List V → Hp → VK → Prop) (Ω : Om) (ws : List W) (w : W) (Ω' : Om) : Prop := ∀ F ρ H xs (Q : VK), Wd K F ρ Ω H → RpWs K F ρ H xs ws → Kont K F ρ H Ω' w Q → r xs H Q
def RMX (K : PySem.W.Frag) (r : V → List V → Hp → VK → Prop) (Ω : Om) (wo : W) (ws : List W) (w : W) (Ω' : Om) : Prop := ∀ F ρ H x xs (Q : VK), Wd K F ρ Ω H → RpW K F ρ H x wo → RpWs K F ρ H xs ws → Kont K F ρ H Ω' w Q → r x xs H Q
end

section
variable {X : Cx} {e a b c : Expr} {es : List Expr} {Γ : Gm} {Ω Ω' Ω1 Ω2 Ω3 : Om} {w wa wb wc : W} {ws : List W} {pos : Pos} {p q : Bool}

theorem px_conv {w' : W} (h : PX X e Γ Ω w Ω') (he : w = w') : PX X e Γ Ω w' Ω' := he ▸ h
theorem px_convO (h : PX X e Γ Ω w Ω1) (he : Ω1 = Ω') : PX X e Γ Ω w Ω' := he ▸ h
theorem tx_conv (h : TX X e Γ Ω p Ω') (he : p = q) : TX X e Γ Ω q Ω' := he ▸ h
theorem px_var (i : Nat) {x : Str} (hG : Γ[i]? = some (some w) := by rfl) (hN : X.N[i]? = some x := by rfl)
    (hv : Vis X.env.scope x := by first | exact Or.inl rfl | exact Or.inr (Or.inl rfl) | exact Or.inr (Or.inr rfl)) (hd : (x == ("__debug__" : Str)) = false := by decide) (hcd : (x == ("__classdict__" : Str)) = false := by decide) : PX X (.Name x pos) Γ Ω w Ω :=
  PE.wk (pe_var hN hv hd hcd) fun σ H Q ⟨F, ρ, hw, hs, k⟩ => by
    obtain ⟨v, e, r⟩ := hs.2 i w hG
    exact ⟨v, e, k.val hw r⟩
theorem px_c {v : V} (h : PE X e (tC v)) (r : ∀ K F ρ H, RpW K F ρ H v w) : PX X e Γ Ω w Ω := PE.wk h fun σ H Q ⟨F, ρ, hw, hs, k⟩ => k.val hw (r _ _ _ _)
theorem px_int {i j} : PX X (.Constant (.int i) j pos) Γ Ω (.d (.int i)) Ω := px_c pe_int fun _ _ _ _ => .int i
theorem px_bl {i j} : PX X (.Constant (.bool i) j pos) Γ Ω (.d (.bl i)) Ω := px_c pe_bl fun _ _ _ _ => .bl i
theorem px_str {i j} : PX X (.Constant (.str i) j pos) Γ Ω (.d (.str i)) Ω := px_c pe_str fun _ _ _ _ => .str i
theorem px_non {j} : PX X (.Constant .none j pos) Γ Ω (.d .non) Ω := px_c pe_non fun _ _ _ _ => .non
theorem px_op {op : Operator} {r : R2} (ho : OpR X (binaryOp op) r) (hr : R2X X.K r Ω2 wa wb w Ω3) (ha : PX X a Γ Ω wa Ω1) (hb : PX X b Γ Ω1 wb Ω2) : PX X (.BinOp a op b pos) Γ Ω w Ω3 :=
  PE.wk (pe_op ho ha hb) fun σ H Q ⟨F, ρ, hw, hs, k⟩ => ⟨F, ρ, hw, hs, fun v1 ρ1 H1 s1 w1 r1 => ⟨F, ρ1, w1, hs.xs s1, fun v2 ρ2 H2 s2 w2 r2 => hr F ρ2 H2 v1 v2 Q w2 (r1.xs s2) r2 ((k.go s1).go s2)⟩⟩
theorem px_cmp {op : CmpOp} {r : R2} (ho : OpR X (compareOp op) r) (hr : R2X X.K r Ω2 wa wb w Ω3) (ha : PX X a Γ Ω wa Ω1) (hb : PX X b Γ Ω1 wb Ω2) (hm : behindInMarks op b = false := by first | exact nomark _ | rfl) : PX X (.Compare a [op] [b] pos) Γ Ω w Ω3 :=
  PE.wk (pe_cmpR ho ha hb hm) fun σ H Q ⟨F, ρ, hw, hs, k⟩ => ⟨F, ρ, hw, hs, fun v1 ρ1 H1 s1 w1 r1 => ⟨F, ρ1, w1, hs.xs s1, fun v2 ρ2 H2 s2 w2 r2 => hr F ρ2 H2 v1 v2 Q w2 (r1.xs s2) r2 ((k.go s1).go s2)⟩⟩
theorem px_un {op : UnaryOp} {r : V → Hp → VK → Prop} (ho : UnR X (unaryOp op) r) (hr : R1X X.K r Ω1 wa w Ω2) (ha : PX X a Γ Ω wa Ω1) : PX X (.UnaryOp op a pos) Γ Ω w Ω2 :=
  PE.wk (pe_un ho ha) fun σ H Q ⟨F, ρ, hw, hs, k⟩ => ⟨F, ρ, hw, hs, fun v1 ρ1 H1 s1 w1 r1 => hr F ρ1 H1 v1 Q w1 r1 (k.go s1)⟩
theorem tx_cmp {op : CmpOp} {r : R2} (ho : OpR X (compareOp op) r) (hr : R2X X.K r Ω2 wa wb (.d (.bl p)) Ω3) (ha : PX X a Γ Ω wa Ω1) (hb : PX X b Γ Ω1 wb Ω2) (hm : behindInMarks op b = false := by first | exact nomark _ | rfl) : TX X (.Compare a [op] [b] pos) Γ Ω p Ω3 :=
  PT.wk (pt_cmpR ho ha hb hm) fun σ H Q ⟨F, ρ, hw, hs, k⟩ => ⟨F, ρ, hw, hs, fun v1 ρ1 H1 s1 w1 r1 => ⟨F, ρ1, w1, hs.xs s1, fun v2 ρ2 H2 s2 w2 r2 => hr F ρ2 H2 v1 v2 _ w2 (r1.xs s2) r2 fun v3 ρ3 H3 s3 w3 r3 => by
    have r3 : Rp X.K (hid F ρ3 H3) v3 (.bl p) := r3
    cases r3
    exact ⟨p, rfl, k ρ3 H3 ((s1.trans s2).trans s3) w3⟩⟩⟩
/-- an expression that gives a bool, as a test -/
theorem tx_val (h : PX X e Γ Ω (.d (.bl p)) Ω1) (he : ∀ whole, isTrue e X.env whole = (do let v ← whole; standAt e.pos; holding [v] (truthy v)) := by intro _; rfl) : TX X e Γ Ω p Ω1 :=
  PT.wk (pt_val h he) fun σ H Q ⟨F, ρ, hw, hs, k⟩ => ⟨F, ρ, hw, hs, fun v1 ρ1 H1 s1 w1 r1 => by
    have r1 : Rp X.K (hid F ρ1 H1) v1 (.bl p) := r1
    cases r1
    exact ⟨p, rfl, k ρ1 H1 s1 w1⟩⟩
theorem WX.tx (h : WX X e Γ Ω p Ω1) : TX X e Γ Ω p Ω1 := PW.pt h
theorem tx_and1 (ha : TX X a Γ Ω p Ω1) : WX X (.BoolOp .And [a] pos) Γ Ω p Ω1 := pw_and1 ha
theorem tx_or1 (ha : TX X a Γ Ω p Ω1) : WX X (.BoolOp .Or [a] pos) Γ Ω p Ω1 := pw_or1 ha
theorem tx_and {rest : List Expr} (ha : TX X a Γ Ω p Ω) (hb : p = true → WX X (.BoolOp .And (b :: rest) pos) Γ Ω q Ω) : WX X (.BoolOp .And (a :: b :: rest) pos) Γ Ω (p && q) Ω := by
  have hb' : PW X (.BoolOp .And (b :: rest) pos) (fun σ H Q => p = true ∧ tTX X.K Γ Ω q Ω σ H Q) := ⟨fun wh pins s σ H Q I z => (hb z.1).run wh pins s σ H Q I z.2⟩
  refine PW.wk (pw_and ha hb') fun σ H Q ⟨F, ρ, hw, hs, k⟩ => ⟨F, ρ, hw, hs, fun ρ1 H1 s1 w1 => ?_⟩
  cases p with
  | true => exact ⟨rfl, F, ρ1, w1, hs.xs s1, fun ρ2 H2 s2 w2 => k ρ2 H2 (s1.trans s2) w2⟩
  | false => exact k ρ1 H1 s1 w1
theorem tx_or {rest : List Expr} (ha : TX X a Γ Ω p Ω) (hb : p = false → WX X (.BoolOp .Or (b :: rest) pos) Γ Ω q Ω) : WX X (.BoolOp .Or (a :: b :: rest) pos) Γ Ω (p || q) Ω := by
  have hb' : PW X (.BoolOp .Or (b :: rest) pos) (fun σ H Q => p = false ∧ tTX X.K Γ Ω q Ω σ H Q) := ⟨fun wh pins s σ H Q I z => (hb z.1).run wh pins s σ H Q I z.2⟩
  refine PW.wk (pw_or ha hb') fun σ H Q ⟨F, ρ, hw, hs, k⟩ => ⟨F, ρ, hw, hs, fun ρ1 H1 s1 w1 => ?_⟩
  cases p with
  | false => exact ⟨rfl, F, ρ1, w1, hs.xs s1, fun ρ2 H2 s2 w2 => k ρ2 H2 (s1.trans s2) w2⟩
  | true => exact k ρ1 H1 s1 w1
theorem tx_not (ha : TX X a Γ Ω p Ω1) : TX X (.UnaryOp .Not a pos) Γ Ω (!p) Ω1 :=
  PT.wk (pt_not ha) fun σ H Q ⟨F, ρ, hw, hs, k⟩ => ⟨F, ρ, hw, hs, fun ρ1 H1 s1 w1 => k ρ1 H1 s1 w1⟩
/-- as values -/
theorem px_and1 {op : BoolOp} (ha : PX X a Γ Ω w Ω1) : PX X (.BoolOp op [a] pos) Γ Ω w Ω1 := pe_one ha
theorem px_and {rest : List Expr} (ha : PX X a Γ Ω (.d (.bl p)) Ω) (hb : p = true → PX X (.BoolOp .And (b :: rest) pos) Γ Ω (.d (.bl q)) Ω) : PX X (.BoolOp .And (a :: b :: rest) pos) Γ Ω (.d (.bl (p && q))) Ω := by
  have hb' : PE X (.BoolOp .And (b :: rest) pos) (fun σ H Q => p = true ∧ tX X.K Γ Ω (.d (.bl q)) Ω σ H Q) := ⟨fun pins s σ H Q I z => (hb z.1).run pins s σ H Q I z.2⟩
  refine PE.wk (pe_and ha hb') fun σ H Q ⟨F, ρ, hw, hs, k⟩ => ⟨F, ρ, hw, hs, fun v1 ρ1 H1 s1 w1 r1 => ?_⟩
  have r1 : Rp X.K (hid F ρ1 H1) v1 (.bl p) := r1
  cases r1
  refine ⟨p, rfl, ?_⟩
  cases p with
  | true => exact ⟨rfl, F, ρ1, w1, hs.xs s1, k.go s1⟩
  | false => exact k _ ρ1 H1 s1 w1 (Rp.bl false)
theorem px_or {rest : List Expr} (ha : PX X a Γ Ω (.d (.bl p)) Ω) (hb : p = false → PX X (.BoolOp .Or (b :: rest) pos) Γ Ω (.d (.bl q)) Ω) : PX X (.BoolOp .Or (a :: b :: rest) pos) Γ Ω (.d (.bl (p || q))) Ω := by
  have hb' : PE X (.BoolOp .Or (b :: rest) pos) (fun σ H Q => p = false ∧ tX X.K Γ Ω (.d (.bl q)) Ω σ H Q) := ⟨fun pins s σ H Q I z => (hb z.1).run pins s σ H Q I z.2⟩
  refine PE.wk (pe_or ha hb') fun σ H Q ⟨F, ρ, hw, hs, k⟩ => ⟨F, ρ, hw, hs, fun v1 ρ1 H1 s1 w1 r1 => ?_⟩
  have r1 : Rp X.K (hid F ρ1 H1) v1 (.bl p) := r1
  cases r1
  refine ⟨p, rfl, ?_⟩
  cases p with
  | false => exact ⟨rfl, F, ρ1, w1, hs.xs s1, k.go s1⟩
  | true => exact k _ ρ1 H1 s1 w1 (Rp.bl true)
theorem px_not (ha : PX X a Γ Ω (.d (.bl p)) Ω1) : PX X (.UnaryOp .Not a pos) Γ Ω (.d (.bl (!p))) Ω1 :=
  PE.wk (pe_not ha) fun σ H Q ⟨F, ρ, hw, hs, k⟩ => ⟨F, ρ, hw, hs, fun v1 ρ1 H1 s1 w1 r1 => by
    have r1 : Rp X.K (hid F ρ1 H1) v1 (.bl p) := r1
    cases r1
    exact ⟨p, rfl, k _ ρ1 H1 s1 w1 (Rp.bl (!p))⟩⟩
theorem px_if (hc : TX X c Γ Ω p Ω1) (ha : p = true → PX X a Γ Ω1 w Ω2) (hb : p = false → PX X b Γ Ω1 w Ω2) : PX X (.IfExp c a b pos) Γ Ω w Ω2 := by
  have ha' : PE X a (fun σ H Q => p = true ∧ tX X.K Γ Ω1 w Ω2 σ H Q) := ⟨fun pins s σ H Q I z => (ha z.1).run pins s σ H Q I z.2⟩
  have hb' : PE X b (fun σ H Q => p = false ∧ tX X.K Γ Ω1 w Ω2 σ H Q) := ⟨fun pins s σ H Q I z => (hb z.1).run pins s σ H Q I z.2⟩
  refine PE.wk (pe_ifExp hc ha' hb') fun σ H Q ⟨F, ρ, hw, hs, k⟩ => ⟨F, ρ, hw, hs, fun ρ1 H1 s1 w1 => ?_⟩
  cases p with
  | true => exact ⟨rfl, F, ρ1, w1, hs.xs s1, k.go s1⟩
  | false => exact ⟨rfl, F, ρ1, w1, hs.xs s1, k.go s1⟩
/-- arguments -/
theorem ax_nil : AX X [] Γ Ω [] Ω := PA.wk pa_nil fun σ H Q ⟨F, ρ, hw, hs, k⟩ => k [] ρ H (XS.refl hw) hw .nil
theorem ax_cons (ha : PX X e Γ Ω w Ω1) (hr : AX X es Γ Ω1 ws Ω2) (hs : starEach (e :: es) X.env = (false, eval e X.env) :: starEach es X.env := by rfl) : AX X (e :: es) Γ Ω (w :: ws) Ω2 :=
  PA.wk (pa_cons ha hr hs) fun σ H Q ⟨F, ρ, hw, hs, k⟩ => ⟨F, ρ, hw, hs, fun v1 ρ1 H1 s1 w1 r1 => ⟨F, ρ1, w1, hs.xs s1, fun vs ρ2 H2 s2 w2 r2 => k _ ρ2 H2 (s1.trans s2) w2 (.cons (r1.xs s2) r2)⟩⟩
theorem RpWs.data {K : PySem.W.Frag} {F : List Addr} {ρ : RO} {H : Hp} : ∀ {ds : List Dt} {vs : List V}, RpWs K F ρ H vs (ds.map W.d) → RpL K (hid F ρ H) vs ds
  | [], _, .nil => .nil
  | d :: ds, _, .cons q r => .cons q (RpWs.data r)
theorem RpWs.of_data {K : PySem.W.Frag} {F : List Addr} {ρ : RO} {H : Hp} : ∀ {ds : List Dt} {vs : List V}, RpL K (hid F ρ H) vs ds → RpWs K F ρ H vs (ds.map W.d)
  | _, _, .nil => .nil
  | _, _, .cons q r => .cons q (RpWs.of_data r)
theorem px_tup {x1} {ds : List Dt} (ha : AX X es Γ Ω ws Ω1) (he : ws = ds.map W.d := by rfl) (hl : ds.length ≤ 1000 := by exact Nat.le_of_ble_eq_true rfl) : PX X (.Tuple es x1 pos) Γ Ω (.d (.tup ds)) Ω1 := by
  subst he
  refine PE.wk (pe_tup ha) fun σ H Q ⟨F, ρ, hw, hs, k⟩ => ⟨F, ρ, hw, hs, fun vs ρ1 H1 s1 w1 r1 => ?_⟩
  have r2 := RpWs.data r1
  exact ⟨by rw [r2.length]; exact Nat.le_trans hl (by decide), fun p e => (k.go s1).newT w1 r2 e⟩
theorem px_lst {ds : List Dt} (ha : AX X es Γ Ω ws Ω1) (he : ws = ds.map W.d := by rfl) (hl : ds.length ≤ 1000 := by exact Nat.le_of_ble_eq_true rfl) : PX X (.List es pos) Γ Ω (.d (.lst ds)) Ω1 := by
  subst he
  refine PE.wk (pe_lst ha) fun σ H Q ⟨F, ρ, hw, hs, k⟩ => ⟨F, ρ, hw, hs, fun vs ρ1 H1 s1 w1 r1 => ?_⟩
  have r2 := RpWs.data r1
  exact ⟨by rw [r2.length]; exact Nat.le_trans hl (by decide), fun p e => (k.go s1).newL w1 r2 e⟩
/-- a list display that is owned -/
theorem px_lstO {ds : List Dt} (ha : AX X es Γ Ω ws Ω1) (he : ws = ds.map W.d := by rfl) (hl : ds.length ≤ 1000 := by exact Nat.le_of_ble_eq_true rfl) : PX X (.List es pos) Γ Ω (.l Ω1.length) (Ω1 ++ [.ls ds]) := by
  subst he
  refine PE.wk (pe_lst ha) fun σ H Q ⟨F, ρ, hw, hs, k⟩ => ⟨F, ρ, hw, hs, fun vs ρ1 H1 s1 w1 r1 => ?_⟩
  have r2 := RpWs.data r1
  exact ⟨by rw [r2.length]; exact Nat.le_trans hl (by decide), fun p e => (k.go s1).ownL w1 r2 e⟩
theorem px_dnew : PX X (.Dict [] [] pos) Γ Ω (.l Ω.length) (Ω ++ [.dk []]) :=
  PE.wk pe_dnewK fun σ H Q ⟨F, ρ, hw, hs, k⟩ => fun p e => k.ownK hw .nil e
theorem px_dnewT : PX X (.Dict [] [] pos) Γ Ω (.l Ω.length) (Ω ++ [.dt []]) :=
  PE.wk pe_dnewT fun σ H Q ⟨F, ρ, hw, hs, k⟩ => fun p e => k.ownT hw .nil e
end
/-! ### operations on ints, by values -/
section
variable {K : PySem.W.Frag} {Ω : Om}
theorem rx_I {C : Int → Int → Prop} {g : Int → Int → V} {i j : Int} {w : W} (hc : C i j) (r : ∀ F ρ H, RpW K F ρ H (g i j) w) : R2X K (rI C g) Ω (.d (.int i)) (.d (.int j)) w Ω := fun F ρ H x y Q hw rx ry k => by
  have rx : Rp K (hid F ρ H) x (.int i) := rx
  have ry : Rp K (hid F ρ H) y (.int j) := ry
  cases rx
  cases ry
  exact ⟨i, j, rfl, rfl, hc, k.val hw (r _ _ _)⟩
theorem rx_I0 {g : Int → Int → V} {i j : Int} {w : W} (r : ∀ F ρ H, RpW K F ρ H (g i j) w) : R2X K (rI0 g) Ω (.d (.int i)) (.d (.int j)) w Ω := fun F ρ H x y Q hw rx ry k => by
  have rx : Rp K (hid F ρ H) x (.int i) := rx
  have ry : Rp K (hid F ρ H) y (.int j) := ry
  cases rx
  cases ry
  exact ⟨i, j, rfl, rfl, k.val hw (r _ _ _)⟩
end
section
variable {X : Cx} {a b : Expr} {Γ : Gm} {Ω Ω1 Ω2 : Om} {pos : Pos} {i j : Int}
theorem px_add (ha : PX X a Γ Ω (.d (.int i)) Ω1) (hb : PX X b Γ Ω1 (.d (.int j)) Ω2) : PX X (.BinOp a .Add b pos) Γ Ω (.d (.int (i + j))) Ω2 := px_op op_add (rx_I0 fun _ _ _ => .int _) ha hb
theorem px_sub (ha : PX X a Γ Ω (.d (.int i)) Ω1) (hb : PX X b Γ Ω1 (.d (.int j)) Ω2) : PX X (.BinOp a .Sub b pos) Γ Ω (.d (.int (i - j))) Ω2 := px_op op_sub (rx_I0 fun _ _ _ => .int _) ha hb
theorem px_mul (hc : CMul i j) (ha : PX X a Γ Ω (.d (.int i)) Ω1) (hb : PX X b Γ Ω1 (.d (.int j)) Ω2) : PX X (.BinOp a .Mult b pos) Γ Ω (.d (.int (i * j))) Ω2 := px_op op_mul (rx_I hc fun _ _ _ => .int _) ha hb
theorem px_mod (hc : 0 < j) (ha : PX X a Γ Ω (.d (.int i)) Ω1) (hb : PX X b Γ Ω1 (.d (.int j)) Ω2) : PX X (.BinOp a .Mod b pos) Γ Ω (.d (.int (i % j))) Ω2 := px_op op_mod (rx_I hc fun _ _ _ => .int _) ha hb
theorem px_fdiv (hc : CDiv i j) (ha : PX X a Γ Ω (.d (.int i)) Ω1) (hb : PX X b Γ Ω1 (.d (.int j)) Ω2) : PX X (.BinOp a .FloorDiv b pos) Γ Ω (.d (.int (i / j))) Ω2 := px_op op_fdiv (rx_I hc fun _ _ _ => .int _) ha hb
theorem px_fdivN (hc : CDivN i j) (ha : PX X a Γ Ω (.d (.int i)) Ω1) (hb : PX X b Γ Ω1 (.d (.int j)) Ω2) : PX X (.BinOp a .FloorDiv b pos) Γ Ω (.d (.int (i.fdiv j))) Ω2 := px_op op_fdivN (rx_I hc fun _ _ _ => .int _) ha hb
theorem px_pow (hc : CPow i j) (ha : PX X a Γ Ω (.d (.int i)) Ω1) (hb : PX X b Γ Ω1 (.d (.int j)) Ω2) : PX X (.BinOp a .Pow b pos) Γ Ω (.d (.int (i ^ j.toNat))) Ω2 := px_op op_pow (rx_I hc fun _ _ _ => .int _) ha hb
theorem px_neg (ha : PX X a Γ Ω (.d (.int i)) Ω1) : PX X (.UnaryOp .USub a pos) Γ Ω (.d (.int (-i))) Ω1 := px_un un_neg (fun F ρ H x Q hw rx k => by
  have rx : Rp X.K (hid F ρ H) x (.int i) := rx
  cases rx
  exact ⟨i, rfl, k.val hw (Rp.int _)⟩) ha
theorem tx_lt (ha : PX X a Γ Ω (.d (.int i)) Ω1) (hb : PX X b Γ Ω1 (.d (.int j)) Ω2) : TX X (.Compare a [.Lt] [b] pos) Γ Ω (decide (i < j)) Ω2 := tx_cmp op_lt (rx_I0 fun _ _ _ => .bl _) ha hb
theorem tx_le (ha : PX X a Γ Ω (.d (.int i)) Ω1) (hb : PX X b Γ Ω1 (.d (.int j)) Ω2) : TX X (.Compare a [.LtE] [b] pos) Γ Ω (decide (i ≤ j)) Ω2 := tx_cmp op_le (rx_I0 fun _ _ _ => .bl _) ha hb
theorem tx_gt (ha : PX X a Γ Ω (.d (.int i)) Ω1) (hb : PX X b Γ Ω1 (.d (.int j)) Ω2) : TX X (.Compare a [.Gt] [b] pos) Γ Ω (decide (j < i)) Ω2 := tx_cmp op_gt (rx_I0 fun _ _ _ => .bl _) ha hb
theorem tx_ge (ha : PX X a Γ Ω (.d (.int i)) Ω1) (hb : PX X b Γ Ω1 (.d (.int j)) Ω2) : TX X (.Compare a [.GtE] [b] pos) Γ Ω (decide (j ≤ i)) Ω2 := tx_cmp op_ge (rx_I0 fun _ _ _ => .bl _) ha hb
theorem px_lt (ha : PX X a Γ Ω (.d (.int i)) Ω1) (hb : PX X b Γ Ω1 (.d (.int j)) Ω2) : PX X (.Compare a [.Lt] [b] pos) Γ Ω (.d (.bl (decide (i < j)))) Ω2 := px_cmp op_lt (rx_I0 fun _ _ _ => .bl _) ha hb
theorem px_le (ha : PX X a Γ Ω (.d (.int i)) Ω1) (hb : PX X b Γ Ω1 (.d (.int j)) Ω2) : PX X (.Compare a [.LtE] [b] pos) Γ Ω (.d (.bl (decide (i ≤ j)))) Ω2 := px_cmp op_le (rx_I0 fun _ _ _ => .bl _) ha hb
theorem px_gt (ha : PX X a Γ Ω (.d (.int i)) Ω1) (hb : PX X b Γ Ω1 (.d (.int j)) Ω2) : PX X (.Compare a [.Gt] [b] pos) Γ Ω (.d (.bl (decide (j < i)))) Ω2 := px_cmp op_gt (rx_I0 fun _ _ _ => .bl _) ha hb
theorem px_ge (ha : PX X a Γ Ω (.d (.int i)) Ω1) (hb : PX X b Γ Ω1 (.d (.int j)) Ω2) : PX X (.Compare a [.GtE] [b] pos) Γ Ω (.d (.bl (decide (j ≤ i)))) Ω2 := px_cmp op_ge (rx_I0 fun _ _ _ => .bl _) ha hb
end
/-! ### == of plain small values -/
def Dt.sc : Dt → Dt → Bool
  | .int _, .int _ => true
  | .str _, .str _ => true
  | .bl _, .bl _ => true
  | .non, .non => true
  | .non, .int _ => true
  | .int _, .non => true
  | .non, .str _ => true
  | .str _, .non => true
  | .int _, .str _ => true
  | .str _, .int _ => true
  | _, _ => false
def Dt.scEq : Dt → Dt → Bool
  | .int i, .int j => decide (i = j)
  | .str i, .str j => decide (i = j)
  | .bl i, .bl j => decide (i = j)
  | .non, .non => true
  | _, _ => false
section
variable {K : PySem.W.Frag} {H : Hp} {F : List Addr} {ρ : RO} {Ω : Om} {x y : Dt}
theorem sc_rel {v u : V} (h : Dt.sc x y = true) (rx : Rp K H v x) (ry : Rp K H u y) : scal v u = true ∧ decide (v = u) = Dt.scEq x y := by
  cases rx <;> cases ry <;> first
    | exact (Bool.noConfusion h)
    | (refine ⟨rfl, ?_⟩; simp [Dt.scEq])
theorem rx_eq (h : Dt.sc x y = true) : R2X K rEq Ω (.d x) (.d y) (.d (.bl (Dt.scEq x y))) Ω := fun F ρ H v u Q hw rx ry k => by
  obtain ⟨h1, h2⟩ := sc_rel h rx ry
  refine ⟨h1, ?_⟩
  rw [h2]
  exact k.val hw (Rp.bl _)
theorem rx_ne (h : Dt.sc x y = true) : R2X K rNe Ω (.d x) (.d y) (.d (.bl (!Dt.scEq x y))) Ω := fun F ρ H v u Q hw rx ry k => by
  obtain ⟨h1, h2⟩ := sc_rel h rx ry
  refine ⟨h1, ?_⟩
  rw [h2]
  exact k.val hw (Rp.bl _)
end
section
variable {X : Cx} {a b : Expr} {Γ : Gm} {Ω Ω1 Ω2 : Om} {pos : Pos} {x y : Dt}
theorem px_eq (ha : PX X a Γ Ω (.d x) Ω1) (hb : PX X b Γ Ω1 (.d y) Ω2) (h : Dt.sc x y = true := by rfl) : PX X (.Compare a [.Eq] [b] pos) Γ Ω (.d (.bl (Dt.scEq x y))) Ω2 := px_cmp op_eq (rx_eq h) ha hb
theorem px_ne (ha : PX X a Γ Ω (.d x) Ω1) (hb : PX X b Γ Ω1 (.d y) Ω2) (h : Dt.sc x y = true := by rfl) : PX X (.Compare a [.NotEq] [b] pos) Γ Ω (.d (.bl (!Dt.scEq x y))) Ω2 := px_cmp op_ne (rx_ne h) ha hb
theorem tx_eq (ha : PX X a Γ Ω (.d x) Ω1) (hb : PX X b Γ Ω1 (.d y) Ω2) (h : Dt.sc x y = true := by rfl) : TX X (.Compare a [.Eq] [b] pos) Γ Ω (Dt.scEq x y) Ω2 := tx_cmp op_eq (rx_eq h) ha hb
theorem tx_ne (ha : PX X a Γ Ω (.d x) Ω1) (hb : PX X b Γ Ω1 (.d y) Ω2) (h : Dt.sc x y = true := by rfl) : TX X (.Compare a [.NotEq] [b] pos) Γ Ω (!Dt.scEq x y) Ω2 := tx_cmp op_ne (rx_ne h) ha hb
end
/-! ### is None -/
def W.isN : W → Bool
  | .d .non => true
  | _ => false
section
variable {K : PySem.W.Frag}
theorem isN_rel {F : List Addr} {ρ : RO} {H : Hp} {v : V} {w : W} (r : RpW K F ρ H v w) : decide (v = .non) = w.isN := by
  cases w with
  | l n =>
    obtain ⟨a, rfl, _⟩ := r
    rfl
  | d x =>
    have r : Rp K (hid F ρ H) v x := r
    cases r <;> rfl
theorem rx_isN {Ω : Om} {w : W} : R2X K (fun x y H Q => y = .non ∧ Q (.bl (decide (x = .non))) H) Ω w (.d .non) (.d (.bl w.isN)) Ω := fun F ρ H v u Q hw rx ry k => by
  have ry : Rp K (hid F ρ H) u .non := ry
  cases ry
  refine ⟨rfl, ?_⟩
  rw [isN_rel rx]
  exact k.val hw (Rp.bl _)
theorem rx_notN {Ω : Om} {w : W} : R2X K (fun x y H Q => y = .non ∧ Q (.bl (!decide (x = .non))) H) Ω w (.d .non) (.d (.bl (!w.isN))) Ω := fun F ρ H v u Q hw rx ry k => by
  have ry : Rp K (hid F ρ H) u .non := ry
  cases ry
  refine ⟨rfl, ?_⟩
  rw [isN_rel rx]
  exact k.val hw (Rp.bl _)
end
section
variable {X : Cx} {a b : Expr} {Γ : Gm} {Ω Ω1 Ω2 : Om} {pos : Pos} {w : W}
theorem px_isN (ha : PX X a Γ Ω w Ω1) (hb : PX X b Γ Ω1 (.d .non) Ω2) : PX X (.Compare a [.Is] [b] pos) Γ Ω (.d (.bl w.isN)) Ω2 := px_cmp op_isN rx_isN ha hb
theorem px_notN (ha : PX X a Γ Ω w Ω1) (hb : PX X b Γ Ω1 (.d .non) Ω2) : PX X (.Compare a [.IsNot] [b] pos) Γ Ω (.d (.bl (!w.isN))) Ω2 := px_cmp op_notN rx_notN ha hb
theorem tx_isN (ha : PX X a Γ Ω w Ω1) (hb : PX X b Γ Ω1 (.d .non) Ω2) : TX X (.Compare a [.Is] [b] pos) Γ Ω w.isN Ω2 := tx_cmp op_isN rx_isN ha hb
theorem tx_notN (ha : PX X a Γ Ω w Ω1) (hb : PX X b Γ Ω1 (.d .non) Ω2) : TX X (.Compare a [.IsNot] [b] pos) Γ Ω (!w.isN) Ω2 := tx_cmp op_notN rx_notN ha hb
end
end DL
/-! D layer, part 3: sequences, built-ins, == of data, sorting. -/
namespace DL
open PySem PySem.Spec PyProof.Rows L2

/-- a list: data, the script, or an owned one -/
inductive LsOf (Ω : Om) : W → List Dt → Prop
  | d {ds : List Dt} : LsOf Ω (.d (.lst ds)) ds
  | r {ns : List Int} : LsOf Ω (.d (.rl ns)) (ns.map Dt.int)
  | l {n : Nat} {ds : List Dt} (h : Ω[n]? = some (.ls ds)) : LsOf Ω (.l n) ds
/-- a list that stands tracked -/
inductive LtOf (Ω : Om) : W → List Dt → Prop
  | d {ds : List Dt} : LtOf Ω (.d (.lst ds)) ds
  | l {n : Nat} {ds : List Dt} (h : Ω[n]? = some (.ls ds)) : LtOf Ω (.l n) ds
/-- a list or a tuple -/
inductive SqOf (Ω : Om) : W → List Dt → Prop
  | l {w : W} {ds : List Dt} (h : LsOf Ω w ds) : SqOf Ω w ds
  | t {ds : List Dt} : SqOf Ω (.d (.tup ds)) ds
section
variable {K : PySem.W.Frag} {F : List Addr} {ρ : RO} {H : Hp} {Ω : Om} {v : V} {w : W} {ds : List Dt}
theorem Kp.hid : Kp (hid F ρ H) H := Kp.of fun _ _ e => (hid_le e).1
theorem rd_unhid {a : Addr} {o : HO} (h : Rd (DL.hid F ρ H) a o) : Rd H a o := by
  rcases h with h | ⟨u, h⟩
  · exact .inl (hid_le h).1
  · exact .inr ⟨u, (hid_le h).1⟩
theorem LtOf.rd (h : LtOf Ω w ds) (hw : Wd K F ρ Ω H) (r : RpW K F ρ H v w) : ∃ a vs, v = .ref a ∧ Rd H a (.lst vs) ∧ RpL K (DL.hid F ρ H) vs ds := by
  cases h with
  | d =>
    have r : Rp K (DL.hid F ρ H) v (.lst ds) := r
    cases r with
    | lst q r => exact ⟨_, _, rfl, rd_unhid q, r⟩
  | l h =>
    obtain ⟨a, rfl, e⟩ := r
    obtain ⟨b, eb, q⟩ := hw.ob _ _ h (fun z => by cases z)
    rw [e] at eb
    cases eb
    obtain ⟨vs, q, r⟩ := q
    exact ⟨a, vs, rfl, .inl q, r⟩
theorem LtOf.ls (h : LtOf Ω w ds) : LsOf Ω w ds := by
  cases h with
  | d => exact .d
  | l h => exact .l h
theorem LsOf.sq (h : LsOf Ω w ds) (hw : Wd K F ρ Ω H) (r : RpW K F ρ H v w) : ∃ a vs, v = .ref a ∧ SqL K H a vs ∧ RpL K (DL.hid F ρ H) vs ds := by
  cases h with
  | r =>
    rename_i ns
    have r : Rp K (DL.hid F ρ H) v (.rl ns) := r
    cases r with
    | rl q => exact ⟨_, _, rfl, Kp.hid.sqL q, RpL.of_ints ns⟩
  | d =>
    obtain ⟨a, vs, e, q, r⟩ := (LtOf.d (Ω := Ω)).rd hw r
    exact ⟨a, vs, e, .inl q, r⟩
  | l h =>
    obtain ⟨a, vs, e, q, r⟩ := (LtOf.l h).rd hw r
    exact ⟨a, vs, e, .inl q, r⟩
theorem SqOf.sq (h : SqOf Ω w ds) (hw : Wd K F ρ Ω H) (r : RpW K F ρ H v w) : ∃ a vs, v = .ref a ∧ (SqL K H a vs ∨ SqT K H a vs) ∧ RpL K (DL.hid F ρ H) vs ds := by
  cases h with
  | l h =>
    obtain ⟨a, vs, e, q, r⟩ := h.sq hw r
    exact ⟨a, vs, e, .inl q, r⟩
  | t =>
    have r : Rp K (DL.hid F ρ H) v (.tup ds) := r
    cases r with
    | tup q r => exact ⟨_, _, rfl, .inr (Kp.hid.sqT q), r⟩
end

/-! ### calls of built-ins by name -/
section
variable {X : Cx} {e o : Expr} {es : List Expr} {Γ : Gm} {Ω Ω' Ω1 Ω2 Ω3 : Om} {w wo : W} {ws : List W} {p pos apos cpos : Pos} {x name : Str} {id : String} {r : List V → Hp → VK → Prop}
theorem px_callB (hc : CallR X (.builtin id) r) (hr : RNX X.K r Ω1 ws w Ω2) (ha : AX X (e :: es) Γ Ω ws Ω1) (hv : bootBuiltins x = some (.builtin id)) (hm : X.mg x = none) (hg : Gl X x := by rfl) (hn : x ≠ "__name__" := by decide) (hd : (x == ("__debug__" : Str)) = false := by decide)
    (he : starEach (e :: es) X.env = (false, eval e X.env) :: starEach es X.env := by rfl) (hpl : (backTo pos (starEach es X.env)).any (·.1) = false := by rfl) : PX X (.Call (.Name x p) (e :: es) [] pos) Γ Ω w Ω2 :=
  PE.wk (pe_callB hc hg hm hv ha hn hd he hpl) fun σ H Q ⟨F, ρ, hw, hs, k⟩ => ⟨F, ρ, hw, hs, fun vs ρ1 H1 s1 w1 r1 => hr F ρ1 H1 vs Q w1 r1 (k.go s1)⟩
theorem px_callTy {T : String} (hc : CallR X (.type T) r) (hr : RNX X.K r Ω1 ws w Ω2) (ha : AX X (e :: es) Γ Ω ws Ω1) (hv : bootBuiltins x = some (.type T)) (hm : X.mg x = none) (hg : Gl X x := by rfl) (hn : x ≠ "__name__" := by decide) (hd : (x == ("__debug__" : Str)) = false := by decide)
    (he : starEach (e :: es) X.env = (false, eval e X.env) :: starEach es X.env := by rfl) (hpl : (backTo pos (starEach es X.env)).any (·.1) = false := by rfl) : PX X (.Call (.Name x p) (e :: es) [] pos) Γ Ω w Ω2 :=
  PE.wk (pe_callTy hc hg hm hv ha hn hd he hpl) fun σ H Q ⟨F, ρ, hw, hs, k⟩ => ⟨F, ρ, hw, hs, fun vs ρ1 H1 s1 w1 r1 => hr F ρ1 H1 vs Q w1 r1 (k.go s1)⟩
end

/-! ### as the library's data -/
def keyPy : Key → PyData
  | .inl i => .int i
  | .inr s => .str s
mutual
def Dt.py : Dt → PyData
  | .non => .none
  | .bl b => .bool b
  | .int i => .int i
  | .str s => .str s
  | .tup ds => .tuple (Dt.pyL ds)
  | .lst ds => .list (Dt.pyL ds)
  | .rl ns => .list (ns.map .int)
  | .kt ks => .tuple (ks.map keyPy)
  | .dic _ => .none
  | .dct _ => .none
  | .ins _ _ => .none
def Dt.pyL : List Dt → List PyData
  | [] => []
  | d :: ds => Dt.py d :: Dt.pyL ds
end
mutual
/-- no dict, no instance within -/
def Dt.pl : Dt → Bool
  | .tup ds => Dt.plL ds
  | .lst ds => Dt.plL ds
  | .dic _ => false
  | .dct _ => false
  | .ins _ _ => false
  | _ => true
def Dt.plL : List Dt → Bool
  | [] => true
  | d :: ds => Dt.pl d && Dt.plL ds
end
theorem Dt.pyL_map : ∀ ds : List Dt, Dt.pyL ds = ds.map Dt.py
  | [] => rfl
  | d :: ds => by rw [Dt.pyL, Dt.pyL_map ds]; rfl
section
variable {K : PySem.W.Frag} {H : Hp}
theorem dp_ints : ∀ ns : List Int, DpAll K H (ns.map V.int) (ns.map PyData.int)
  | [] => .nil
  | n :: ns => .cons (.int n) (dp_ints ns)
theorem dp_keys : ∀ ks : List Key, DpAll K H (ks.map kV) (ks.map keyPy)
  | [] => .nil
  | .inl n :: ns => .cons (.int n) (dp_keys ns)
  | .inr n :: ns => .cons (.str n) (dp_keys ns)
mutual
theorem Rp.dp : ∀ {v : V} {d : Dt}, Rp K H v d → d.pl = true → Dp K H v d.py
  | _, _, .non, _ => by rw [Dt.py]; exact .non
  | _, _, .bl b, _ => by rw [Dt.py]; exact .bl b
  | _, _, .int i, _ => by rw [Dt.py]; exact .int i
  | _, _, .str x, _ => by rw [Dt.py]; exact .str x
  | _, _, .tup q r, h => by rw [Dt.py]; exact .tup q (RpL.dp r (by simpa [Dt.pl] using h))
  | _, _, .lst q r, h => by rw [Dt.py]; exact .lst (.inl q) (RpL.dp r (by simpa [Dt.pl] using h))
  | _, _, .rl (ns := ns) q, _ => by rw [Dt.py]; exact .lst q (dp_ints ns)
  | _, _, .kt (ks := ks) q, _ => by rw [Dt.py]; exact .tup (.inl (.inl q)) (dp_keys ks)
  | _, _, .dic _ _, h => by simp [Dt.pl] at h
  | _, _, .dct _ _, h => by simp [Dt.pl] at h
  | _, _, .ins _ _, h => by simp [Dt.pl] at h
theorem RpL.dp : ∀ {v : List V} {d : List Dt}, RpL K H v d → Dt.plL d = true → DpAll K H v (Dt.pyL d)
  | _, _, .nil, _ => by rw [Dt.pyL]; exact .nil
  | _, _, .cons q r, h => by
    rw [Dt.pyL]
    simp only [Dt.plL, Bool.and_eq_true] at h
    exact .cons (Rp.dp q h.1) (RpL.dp r h.2)
end
end
/-- == of data -/
def Dt.eqb (x y : Dt) : Bool := PyData.eqv x.py y.py
def Dt.ok (x : Dt) : Prop := x.pl = true ∧ x.py.plain = true ∧ x.py.depth ≤ 40
section
variable {X : Cx}
def rEqP (K : PySem.W.Frag) : R2 := fun x y H Q => ∃ d e, Dp K H x d ∧ Dp K H y e ∧ d.plain = true ∧ e.plain = true ∧ d.depth ≤ 40 ∧ Q (.bl (PyData.eqv d e)) H
def rNeP (K : PySem.W.Frag) : R2 := fun x y H Q => ∃ d e, Dp K H x d ∧ Dp K H y e ∧ d.plain = true ∧ e.plain = true ∧ d.depth ≤ 40 ∧ Q (.bl (!PyData.eqv d e)) H
theorem op_eqP (hu : X.A.units + 64 < cLine) : OpR X (compareOp .Eq) (rEqP X.K) := by
  intro pins s σ H x y v u Q I rx ry h
  obtain ⟨d, e, hd, he, sd, se, hz, q⟩ := h
  obtain ⟨as, r1⟩ := Dp.reads I d x v hd rx
  obtain ⟨bs, r2⟩ := Dp.reads I e y u he ry
  exact SeqAt.eq_plain r1 r2 sd se (by omega) ⟨.bl _, H, I, rfl, q⟩
theorem op_neP (hu : X.A.units + 64 < cLine) : OpR X (compareOp .NotEq) (rNeP X.K) := by
  intro pins s σ H x y v u Q I rx ry h
  obtain ⟨d, e, hd, he, sd, se, hz, q⟩ := h
  obtain ⟨as, r1⟩ := Dp.reads I d x v hd rx
  obtain ⟨bs, r2⟩ := Dp.reads I e y u he ry
  exact SeqAt.ne_plain r1 r2 sd se (by omega) ⟨.bl _, H, I, rfl, q⟩
def rInP (K : PySem.W.Frag) (neg : Bool) : R2 := fun x y H Q => ∃ (d : PyData) (es : List PyData), Dp K H x d ∧ (Dp K H y (.list es) ∨ Dp K H y (.tuple es)) ∧ d.plain = true ∧ PyData.plainAll es = true ∧ d.depth ≤ 40 ∧ Q (.bl (neg ^^ es.any fun z => PyData.eqv z d)) H
theorem op_inP (hu : X.A.units + 64 < cLine) : OpR X (compareOp .In) (rInP X.K false) := by
  intro pins s σ H x y v u Q I rx ry h
  obtain ⟨d, es, hd, he, sd, se, hz, q⟩ := h
  obtain ⟨as, r1⟩ := Dp.reads I d x v hd rx
  rw [Bool.false_xor] at q
  rcases he with he | he
  · obtain ⟨bs, r2⟩ := Dp.reads I _ y u he ry
    exact SeqAt.in_list_data r2 r1 se sd (by omega) ⟨.bl _, H, I, rfl, q⟩
  · obtain ⟨bs, r2⟩ := Dp.reads I _ y u he ry
    exact SeqAt.in_tuple_data r2 r1 se sd (by omega) ⟨.bl _, H, I, rfl, q⟩
theorem op_notInP (hu : X.A.units + 64 < cLine) : OpR X (compareOp .NotIn) (rInP X.K true) := by
  intro pins s σ H x y v u Q I rx ry h
  obtain ⟨d, es, hd, he, sd, se, hz, q⟩ := h
  obtain ⟨as, r1⟩ := Dp.reads I d x v hd rx
  rw [Bool.true_xor] at q
  rcases he with he | he
  · obtain ⟨bs, r2⟩ := Dp.reads I _ y u he ry
    exact SeqAt.notIn_list_data r2 r1 se sd (by omega) ⟨.bl _, H, I, rfl, q⟩
  · obtain ⟨bs, r2⟩ := Dp.reads I _ y u he ry
    exact SeqAt.notIn_tuple_data r2 r1 se sd (by omega) ⟨.bl _, H, I, rfl, q⟩
end
/-- data as a whole: what a value of the symbolic state is -/
inductive DtOf (Ω : Om) : W → Dt → Prop
  | d {x : Dt} : DtOf Ω (.d x) x
  | l {n : Nat} {ds : List Dt} (h : Ω[n]? = some (.ls ds)) : DtOf Ω (.l n) (.lst ds)
theorem DtOf.rp {K : PySem.W.Frag} {F : List Addr} {ρ : RO} {H : Hp} {Ω : Om} {v : V} {w : W} {x : Dt} (h : DtOf Ω w x) (hw : Wd K F ρ Ω H) (r : RpW K F ρ H v w) : Rp K H v x := by
  cases h with
  | d => exact Rp.mono Kp.hid r
  | l h =>
    obtain ⟨a, vs, rfl, q, r⟩ := (LtOf.l h).rd hw r
    exact .lst q (RpL.mono Kp.hid r)
section
variable {X : Cx} {a b c e : Expr} {es : List Expr} {Γ : Gm} {Ω Ω' Ω1 Ω2 Ω3 : Om} {w wa wb : W} {ws : List W} {p pos : Pos} {x y : Dt} {ds : List Dt}
theorem rx_eqP {K : PySem.W.Frag} (hx : DtOf Ω wa x) (hy : DtOf Ω wb y) (ox : x.ok) (oy : y.ok) : R2X K (rEqP K) Ω wa wb (.d (.bl (x.eqb y))) Ω := fun F ρ H v u Q hw rx ry k =>
  ⟨_, _, Rp.dp (hx.rp hw rx) ox.1, Rp.dp (hy.rp hw ry) oy.1, ox.2.1, oy.2.1, ox.2.2, k.val hw (Rp.bl _)⟩
theorem rx_neP {K : PySem.W.Frag} (hx : DtOf Ω wa x) (hy : DtOf Ω wb y) (ox : x.ok) (oy : y.ok) : R2X K (rNeP K) Ω wa wb (.d (.bl (!x.eqb y))) Ω := fun F ρ H v u Q hw rx ry k =>
  ⟨_, _, Rp.dp (hx.rp hw rx) ox.1, Rp.dp (hy.rp hw ry) oy.1, ox.2.1, oy.2.1, ox.2.2, k.val hw (Rp.bl _)⟩
theorem px_eqP (hu : X.A.units + 64 < cLine) (ha : PX X a Γ Ω wa Ω1) (hb : PX X b Γ Ω1 wb Ω2) (ox : x.ok) (oy : y.ok) (hx : DtOf Ω2 wa x := by first | exact .d | exact .l rfl) (hy : DtOf Ω2 wb y := by first | exact .d | exact .l rfl) : PX X (.Compare a [.Eq] [b] pos) Γ Ω (.d (.bl (x.eqb y))) Ω2 := px_cmp (op_eqP hu) (rx_eqP hx hy ox oy) ha hb
theorem px_neP (hu : X.A.units + 64 < cLine) (ha : PX X a Γ Ω wa Ω1) (hb : PX X b Γ Ω1 wb Ω2) (ox : x.ok) (oy : y.ok) (hx : DtOf Ω2 wa x := by first | exact .d | exact .l rfl) (hy : DtOf Ω2 wb y := by first | exact .d | exact .l rfl) : PX X (.Compare a [.NotEq] [b] pos) Γ Ω (.d (.bl (!x.eqb y))) Ω2 := px_cmp (op_neP hu) (rx_neP hx hy ox oy) ha hb
theorem tx_eqP (hu : X.A.units + 64 < cLine) (ha : PX X a Γ Ω wa Ω1) (hb : PX X b Γ Ω1 wb Ω2) (ox : x.ok) (oy : y.ok) (hx : DtOf Ω2 wa x := by first | exact .d | exact .l rfl) (hy : DtOf Ω2 wb y := by first | exact .d | exact .l rfl) : TX X (.Compare a [.Eq] [b] pos) Γ Ω (x.eqb y) Ω2 := tx_cmp (op_eqP hu) (rx_eqP hx hy ox oy) ha hb
theorem tx_neP (hu : X.A.units + 64 < cLine) (ha : PX X a Γ Ω wa Ω1) (hb : PX X b Γ Ω1 wb Ω2) (ox : x.ok) (oy : y.ok) (hx : DtOf Ω2 wa x := by first | exact .d | exact .l rfl) (hy : DtOf Ω2 wb y := by first | exact .d | exact .l rfl) : TX X (.Compare a [.NotEq] [b] pos) Γ Ω (!x.eqb y) Ω2 := tx_cmp (op_neP hu) (rx_neP hx hy ox oy) ha hb
/-- x in a list or tuple of data -/
theorem rx_inP {K : PySem.W.Frag} {neg : Bool} (hy : DtOf Ω wb (.lst ds) ∨ wb = .d (.tup ds)) (ox : x.ok) (oy : Dt.plL ds = true ∧ PyData.plainAll (Dt.pyL ds) = true) : R2X K (rInP K neg) Ω (.d x) wb (.d (.bl (neg ^^ ds.any fun z => z.eqb x))) Ω := fun F ρ H v u Q hw rx ry k => by
  have e : (ds.any fun z => z.eqb x) = (Dt.pyL ds).any fun z => PyData.eqv z x.py := by
    rw [Dt.pyL_map, List.any_map]
    rfl
  refine ⟨x.py, Dt.pyL ds, Rp.dp (Rp.mono Kp.hid rx) ox.1, ?_, ox.2.1, oy.2, ox.2.2, ?_⟩
  · rcases hy with hy | hy
    · have q := Rp.dp (hy.rp hw ry) (by simpa [Dt.pl] using oy.1)
      rw [Dt.py] at q
      exact .inl q
    · subst hy
      have q := Rp.dp (Rp.mono Kp.hid ry) (d := .tup ds) (by simpa [Dt.pl] using oy.1)
      rw [Dt.py] at q
      exact .inr q
  · rw [← e]
    exact k.val hw (Rp.bl _)
theorem px_inP (hu : X.A.units + 64 < cLine) (ha : PX X a Γ Ω (.d x) Ω1) (hb : PX X b Γ Ω1 wb Ω2) (ox : x.ok) (oy : Dt.plL ds = true ∧ PyData.plainAll (Dt.pyL ds) = true) (hy : DtOf Ω2 wb (.lst ds) ∨ wb = .d (.tup ds) := by first | exact .inl .d | exact .inl (.l rfl) | exact .inr rfl) (hm : behindInMarks .In b = false := by rfl) :
    PX X (.Compare a [.In] [b] pos) Γ Ω (.d (.bl (ds.any fun z => z.eqb x))) Ω2 := px_conv (px_cmp (op_inP hu) (rx_inP (neg := false) hy ox oy) ha hb hm) (by rw [Bool.false_xor])
theorem px_notInP (hu : X.A.units + 64 < cLine) (ha : PX X a Γ Ω (.d x) Ω1) (hb : PX X b Γ Ω1 wb Ω2) (ox : x.ok) (oy : Dt.plL ds = true ∧ PyData.plainAll (Dt.pyL ds) = true) (hy : DtOf Ω2 wb (.lst ds) ∨ wb = .d (.tup ds) := by first | exact .inl .d | exact .inl (.l rfl) | exact .inr rfl) (hm : behindInMarks .NotIn b = false := by rfl) :
    PX X (.Compare a [.NotIn] [b] pos) Γ Ω (.d (.bl (!ds.any fun z => z.eqb x))) Ω2 := px_conv (px_cmp (op_notInP hu) (rx_inP (neg := true) hy ox oy) ha hb hm) (by rw [Bool.true_xor])
/-! ### indexing, slices, + -/
theorem RpL.at {K : PySem.W.Frag} {H : Hp} {vs : List V} {ds : List Dt} {i : Int} {d : Dt} (r : RpL K H vs ds) (h : atI ds i = some d) : ∃ v, atI vs i = some v ∧ Rp K H v d := by
  unfold atI at h ⊢
  rw [r.length]
  cases e : ixN ds.length i with
  | none => rw [e] at h; simp at h
  | some j =>
    rw [e] at h
    exact RpL.get (i := 0) r h
theorem rx_ixL {K : PySem.W.Frag} {i : Int} {d : Dt} (hx : LsOf Ω wa ds) (h : atI ds i = some d) : R2X K (rIxL K) Ω wa (.d (.int i)) (.d d) Ω := fun F ρ H v u Q hw rx ry k => by
  have ry : Rp K (hid F ρ H) u (.int i) := ry
  cases ry
  obtain ⟨a, vs, rfl, q, r⟩ := hx.sq hw rx
  obtain ⟨z, ez, rz⟩ := r.at h
  exact ⟨a, vs, i, z, rfl, rfl, q, ez, k.val hw rz⟩
theorem rx_ixT {K : PySem.W.Frag} {i : Int} {d : Dt} (h : atI ds i = some d) : R2X K (rIxT K) Ω (.d (.tup ds)) (.d (.int i)) (.d d) Ω := fun F ρ H v u Q hw rx ry k => by
  have ry : Rp K (hid F ρ H) u (.int i) := ry
  cases ry
  have rx : Rp K (hid F ρ H) v (.tup ds) := rx
  cases rx with
  | tup q r =>
    obtain ⟨z, ez, rz⟩ := r.at h
    exact ⟨_, _, i, z, rfl, rfl, Kp.hid.sqT q, ez, k.val hw rz⟩
theorem px_ixg {r : R2} (hi : IxR X r) (hr : R2X X.K r Ω2 wa wb w Ω3) (ha : PX X a Γ Ω wa Ω1) (hb : PX X b Γ Ω1 wb Ω2) (hs : PlainIx b) : PX X (.Subscript a b pos) Γ Ω w Ω3 :=
  PE.wk (pe_ix hi ha hb hs) fun σ H Q ⟨F, ρ, hw, hs, k⟩ => ⟨F, ρ, hw, hs, fun v1 ρ1 H1 s1 w1 r1 => ⟨F, ρ1, w1, hs.xs s1, fun v2 ρ2 H2 s2 w2 r2 => hr F ρ2 H2 v1 v2 Q w2 (r1.xs s2) r2 ((k.go s1).go s2)⟩⟩
theorem px_ixL {i : Int} {d : Dt} (ha : PX X a Γ Ω wa Ω1) (hb : PX X b Γ Ω1 (.d (.int i)) Ω2) (h : atI ds i = some d) (hx : LsOf Ω2 wa ds := by first | exact .d | exact .l rfl | exact .r) (hs : PlainIx b := by exact fun _ _ => rfl) : PX X (.Subscript a b pos) Γ Ω (.d d) Ω2 := px_ixg ix_list (rx_ixL hx h) ha hb hs
theorem px_ixT {i : Int} {d : Dt} (ha : PX X a Γ Ω (.d (.tup ds)) Ω1) (hb : PX X b Γ Ω1 (.d (.int i)) Ω2) (h : atI ds i = some d := by rfl) (hs : PlainIx b := by exact fun _ _ => rfl) : PX X (.Subscript a b pos) Γ Ω (.d d) Ω2 := px_ixg ix_tup (rx_ixT h) ha hb hs
/-- one sign of a text -/
theorem px_ixS {i : Int} {z : Str} {c : Nat} (ha : PX X a Γ Ω (.d (.str z)) Ω1) (hb : PX X b Γ Ω1 (.d (.int i)) Ω2) (hz : z.length ≤ sizeLine) (h : atI z.cps.toList i = some c) (hs : PlainIx b := by exact fun _ _ => rfl) : PX X (.Subscript a b pos) Γ Ω (.d (.str ⟨#[c]⟩)) Ω2 :=
  px_ixg ix_str (r := rIxS) (fun F ρ H v u Q hw rx ry k => by
    have ry : Rp X.K (hid F ρ H) u (.int i) := ry
    have rx : Rp X.K (hid F ρ H) v (.str z) := rx
    cases ry
    cases rx
    exact ⟨z, i, c, rfl, rfl, hz, h, k.val hw (Rp.str _)⟩) ha hb hs
def cutA {α : Type} (xs : List α) (lo hi : Option Int) : List α := (xs.drop (HT.sIx xs.length 0 lo)).take (HT.sIx xs.length xs.length hi - HT.sIx xs.length 0 lo)
theorem RpL.cut {K : PySem.W.Frag} {H : Hp} {vs : List V} {ds : List Dt} (r : RpL K H vs ds) (lo hi : Option Int) : RpL K H (cutV vs lo hi) (cutA ds lo hi) := by
  unfold cutV cutA
  rw [r.length]
  exact (r.drop _).take _
/-- a part of a slice -/
def tOX (K : PySem.W.Frag) (Γ : Gm) (Ω : Om) (i : Option Int) : TO := fun σ H Q => ∃ F ρ, Wd K F ρ Ω H ∧ Sl K F ρ Γ σ H ∧ ∀ ρ' H', XS ρ H ρ' H' → Wd K F ρ' Ω H' → Q i H'
def OX (X : Cx) (e : Option Expr) (Γ : Gm) (Ω : Om) (i : Option Int) : Prop := PO X e (tOX X.K Γ Ω i)
theorem PO.wk {e : Option Expr} {t t' : TO} (h : PO X e t) (w : ∀ σ H Q, t' σ H Q → t σ H Q) : PO X e t' := ⟨fun pins s σ H Q I q => h.run pins s σ H Q I (w _ _ _ q)⟩
theorem ox_none : OX X none Γ Ω none := PO.wk po_none fun σ H Q ⟨F, ρ, hw, hs, k⟩ => k ρ H (XS.refl hw) hw
theorem ox_some {i : Int} (h : PX X e Γ Ω (.d (.int i)) Ω) : OX X (some e) Γ Ω (some i) := PO.wk (po_some h) fun σ H Q ⟨F, ρ, hw, hs, k⟩ => ⟨F, ρ, hw, hs, fun v1 ρ1 H1 s1 w1 r1 => by
  have r1 : Rp X.K (hid F ρ1 H1) v1 (.int i) := r1
  cases r1
  exact ⟨i, rfl, k ρ1 H1 s1 w1⟩⟩
theorem px_slL {lo hi : Option Expr} {i j : Option Int} {p2 : Pos} (ha : PX X a Γ Ω wa Ω1) (hl : OX X lo Γ Ω1 i) (hh : OX X hi Γ Ω1 j) (hx : LsOf Ω1 wa ds := by first | exact .d | exact .l rfl | exact .r) : PX X (.Subscript a (.Slice lo hi none p2) pos) Γ Ω (.d (.lst (cutA ds i j))) Ω1 :=
  PE.wk (pe_slice sl_list ha hl hh) fun σ H Q ⟨F, ρ, hw, hs, k⟩ => ⟨F, ρ, hw, hs, fun v1 ρ1 H1 s1 w1 r1 => ⟨F, ρ1, w1, hs.xs s1, fun ρ2 H2 s2 w2 => ⟨F, ρ2, w2, (hs.xs s1).xs s2, fun ρ3 H3 s3 w3 => by
    obtain ⟨b, vs, rfl, q, r⟩ := hx.sq w3 ((r1.xs s2).xs s3)
    exact ⟨b, vs, rfl, q, fun p e => (((k.go s1).go s2).go s3).newL w3 (r.cut i j) e⟩⟩⟩⟩
/-- xs + ys -/
def rCatR : R2 := fun x y H Q => ∃ l b xs zs, x = .ref l ∧ y = .ref b ∧ Rd H l (.lst xs) ∧ Rd H b (.lst zs) ∧ xs.length + zs.length ≤ sizeLine ∧ ∀ p, H p = none → Q (.ref p) (upd H p (.lst (xs ++ zs)))
theorem op_catR : OpR X (binaryOp .Add) rCatR := by
  intro pins s σ H x y v u Q I rx ry h
  obtain ⟨l, b, xs, zs, rfl, rfl, hH, hB, hz, q⟩ := h
  cases rx
  cases ry
  obtain ⟨z, its, n, r, e⟩ := hH.ok I.hok
  obtain ⟨z2, its2, n2, r2, e2⟩ := hB.ok I.hok
  have hl := r.length
  have hl2 := r2.length
  refine PySem.P.add_list e e2 ?_ (by rw [List.size_toArray, List.size_toArray]; omega)
  have ea : its.toArray ++ its2.toArray = (its ++ its2).toArray := by simp
  rw [ea]
  exact ⟨.ref _, _, I.lnew (t' := s.toks) (r.append r2) (by rw [List.length_append]; omega), rfl, q _ I.fresh⟩
theorem px_cat {es' : List Dt} (ha : PX X a Γ Ω wa Ω1) (hb : PX X b Γ Ω1 wb Ω2) (hz : ds.length + es'.length ≤ sizeLine) (hx : LtOf Ω2 wa ds := by first | exact .d | exact .l rfl) (hy : LtOf Ω2 wb es' := by first | exact .d | exact .l rfl) : PX X (.BinOp a .Add b pos) Γ Ω (.d (.lst (ds ++ es'))) Ω2 :=
  px_op op_catR (fun F ρ H v u Q hw rx ry k => by
    obtain ⟨l1, vs, rfl, q1, r1⟩ := hx.rd hw rx
    obtain ⟨l2, us, rfl, q2, r2⟩ := hy.rd hw ry
    exact ⟨l1, l2, vs, us, rfl, rfl, q1, q2, by rw [r1.length, r2.length]; exact hz, fun p e => k.newL hw (r1.app r2) e⟩) ha hb
end
end DL
/-! D layer, part 4: built-ins, methods, attributes, dicts, sorted. -/
namespace DL
open PySem PySem.Spec PyProof.Rows L2

section
variable {X : Cx} {a b c e o : Expr} {es : List Expr} {Γ : Gm} {Ω Ω' Ω1 Ω2 Ω3 : Om} {w wa wb wo : W} {ws : List W} {p pos apos cpos : Pos} {x y : Dt} {ds : List Dt} {ns : List Int} {n : Nat}
theorem RpWs.one {K : PySem.W.Frag} {F : List Addr} {ρ : RO} {H : Hp} {vs : List V} {w : W} (r : RpWs K F ρ H vs [w]) : ∃ v, vs = [v] ∧ RpW K F ρ H v w := by
  cases r with
  | cons q r => cases r; exact ⟨_, rfl, q⟩
theorem RpWs.two {K : PySem.W.Frag} {F : List Addr} {ρ : RO} {H : Hp} {vs : List V} {w w2 : W} (r : RpWs K F ρ H vs [w, w2]) : ∃ v v2, vs = [v, v2] ∧ RpW K F ρ H v w ∧ RpW K F ρ H v2 w2 := by
  cases r with
  | cons q r =>
    obtain ⟨v, rfl, q2⟩ := RpWs.one r
    exact ⟨_, _, rfl, q, q2⟩
theorem Rp.int_inv {K : PySem.W.Frag} {H : Hp} {v : V} {i : Int} (h : Rp K H v (.int i)) : v = .int i := by cases h; rfl
theorem Rp.bl_inv {K : PySem.W.Frag} {H : Hp} {v : V} {i : Bool} (h : Rp K H v (.bl i)) : v = .bl i := by cases h; rfl
theorem Rp.str_inv {K : PySem.W.Frag} {H : Hp} {v : V} {i : Str} (h : Rp K H v (.str i)) : v = .str i := by cases h; rfl
theorem RpW.int_inv {K : PySem.W.Frag} {F : List Addr} {ρ : RO} {H : Hp} {v : V} {i : Int} (h : RpW K F ρ H v (.d (.int i))) : v = .int i := Rp.int_inv (H := hid F ρ H) h
theorem RpW.bl_inv {K : PySem.W.Frag} {F : List Addr} {ρ : RO} {H : Hp} {v : V} {i : Bool} (h : RpW K F ρ H v (.d (.bl i))) : v = .bl i := Rp.bl_inv (H := hid F ρ H) h
theorem RpW.str_inv {K : PySem.W.Frag} {F : List Addr} {ρ : RO} {H : Hp} {v : V} {i : Str} (h : RpW K F ρ H v (.d (.str i))) : v = .str i := Rp.str_inv (H := hid F ρ H) h
theorem RpL.bls {K : PySem.W.Frag} {H : Hp} : ∀ {vs : List V} {ns : List Bool}, RpL K H vs (ns.map Dt.bl) → vs = ns.map V.bl
  | _, [], .nil => rfl
  | _, n :: ns, .cons q r => by
    cases q
    rw [RpL.bls r]
    rfl

/-! ### len, list, tuple, sum, any, all, min, max, abs, int -/
theorem px_len (ha : AX X [e] Γ Ω [wa] Ω1) (hm : X.mg "len" = none) (hg : Gl X "len" := by rfl) (hx : SqOf Ω1 wa ds := by first | exact .l .d | exact .l (.l rfl) | exact .t | exact .l .r)
    (he : starEach [e] X.env = (false, eval e X.env) :: starEach [] X.env := by rfl) (hpl : (backTo pos (starEach [] X.env)).any (·.1) = false := by rfl) : PX X (.Call (.Name "len" p) [e] [] pos) Γ Ω (.d (.int ds.length)) Ω1 :=
  px_callB call_len_seq (fun F ρ H vs Q hw rr k => by
    obtain ⟨v, rfl, r⟩ := rr.one
    obtain ⟨b, us, rfl, q, r⟩ := hx.sq hw r
    exact ⟨b, us, rfl, q, by rw [r.length]; exact k.val hw (Rp.int _)⟩) ha (by decide +kernel) hm hg (by decide) (by decide) he hpl
theorem px_lenS {z : Str} (ha : AX X [e] Γ Ω [.d (.str z)] Ω1) (hz : z.length ≤ sizeLine) (hm : X.mg "len" = none) (hg : Gl X "len" := by rfl)
    (he : starEach [e] X.env = (false, eval e X.env) :: starEach [] X.env := by rfl) (hpl : (backTo pos (starEach [] X.env)).any (·.1) = false := by rfl) : PX X (.Call (.Name "len" p) [e] [] pos) Γ Ω (.d (.int z.length)) Ω1 :=
  px_callB call_len_str (fun F ρ H vs Q hw rr k => by
    obtain ⟨v, rfl, r⟩ := rr.one
    obtain rfl := r.str_inv
    exact ⟨z, rfl, hz, k.val hw (Rp.int _)⟩) ha (by decide +kernel) hm hg (by decide) (by decide) he hpl
/-- list(..) of a list or tuple, as data -/
theorem px_list (ha : AX X [e] Γ Ω [wa] Ω1) (hm : X.mg "list" = none) (hg : Gl X "list" := by rfl) (hx : SqOf Ω1 wa ds := by first | exact .l .d | exact .l (.l rfl) | exact .t | exact .l .r)
    (he : starEach [e] X.env = (false, eval e X.env) :: starEach [] X.env := by rfl) (hpl : (backTo pos (starEach [] X.env)).any (·.1) = false := by rfl) : PX X (.Call (.Name "list" p) [e] [] pos) Γ Ω (.d (.lst ds)) Ω1 :=
  px_callTy call_list_of (fun F ρ H vs Q hw rr k => by
    obtain ⟨v, rfl, r⟩ := rr.one
    obtain ⟨b, us, rfl, q, r⟩ := hx.sq hw r
    exact ⟨b, us, rfl, q, fun l e => k.newL hw r e⟩) ha (by decide +kernel) hm hg (by decide) (by decide) he hpl
/-- .. owned -/
theorem px_listO (ha : AX X [e] Γ Ω [wa] Ω1) (hm : X.mg "list" = none) (hg : Gl X "list" := by rfl) (hx : SqOf Ω1 wa ds := by first | exact .l .d | exact .l (.l rfl) | exact .t | exact .l .r)
    (he : starEach [e] X.env = (false, eval e X.env) :: starEach [] X.env := by rfl) (hpl : (backTo pos (starEach [] X.env)).any (·.1) = false := by rfl) : PX X (.Call (.Name "list" p) [e] [] pos) Γ Ω (.l Ω1.length) (Ω1 ++ [.ls ds]) :=
  px_callTy call_list_of (fun F ρ H vs Q hw rr k => by
    obtain ⟨v, rfl, r⟩ := rr.one
    obtain ⟨b, us, rfl, q, r⟩ := hx.sq hw r
    exact ⟨b, us, rfl, q, fun l e => k.ownL hw r e⟩) ha (by decide +kernel) hm hg (by decide) (by decide) he hpl
/-- tuple(a list) -/
theorem px_tuple (ha : AX X [e] Γ Ω [wa] Ω1) (hm : X.mg "tuple" = none) (hg : Gl X "tuple" := by rfl) (hx : LsOf Ω1 wa ds := by first | exact .d | exact .l rfl | exact .r)
    (he : starEach [e] X.env = (false, eval e X.env) :: starEach [] X.env := by rfl) (hpl : (backTo pos (starEach [] X.env)).any (·.1) = false := by rfl) : PX X (.Call (.Name "tuple" p) [e] [] pos) Γ Ω (.d (.tup ds)) Ω1 :=
  px_callTy call_tuple_of (fun F ρ H vs Q hw rr k => by
    obtain ⟨v, rfl, r⟩ := rr.one
    obtain ⟨b, us, rfl, q, r⟩ := hx.sq hw r
    exact ⟨b, us, rfl, .inl ⟨q, fun l e => k.newT hw r e⟩⟩) ha (by decide +kernel) hm hg (by decide) (by decide) he hpl
theorem px_sum (hc : X.calm = true) (ha : AX X [e] Γ Ω [wa] Ω1) (hm : X.mg "sum" = none) (hds : ds = ns.map Dt.int) (hg : Gl X "sum" := by rfl) (hx : LsOf Ω1 wa ds := by first | exact .d | exact .l rfl | exact .r)
    (he : starEach [e] X.env = (false, eval e X.env) :: starEach [] X.env := by rfl) (hpl : (backTo pos (starEach [] X.env)).any (·.1) = false := by rfl) : PX X (.Call (.Name "sum" p) [e] [] pos) Γ Ω (.d (.int ns.sum)) Ω1 :=
  px_callB (cr_sum hc) (fun F ρ H vs Q hw rr k => by
    obtain ⟨v, rfl, r⟩ := rr.one
    obtain ⟨b, us, rfl, q, r⟩ := hx.sq hw r
    rw [hds] at r
    have e := r.ints
    subst e
    exact ⟨b, ns, rfl, q, k.val hw (Rp.int _)⟩) ha (by decide +kernel) hm hg (by decide) (by decide) he hpl
theorem px_any (hc : X.calm = true) {bs : List Bool} (ha : AX X [e] Γ Ω [wa] Ω1) (hm : X.mg "any" = none) (hds : ds = bs.map Dt.bl) (hg : Gl X "any" := by rfl) (hx : LsOf Ω1 wa ds := by first | exact .d | exact .l rfl)
    (he : starEach [e] X.env = (false, eval e X.env) :: starEach [] X.env := by rfl) (hpl : (backTo pos (starEach [] X.env)).any (·.1) = false := by rfl) : PX X (.Call (.Name "any" p) [e] [] pos) Γ Ω (.d (.bl (bs.any id))) Ω1 :=
  px_callB (cr_any hc) (fun F ρ H vs Q hw rr k => by
    obtain ⟨v, rfl, r⟩ := rr.one
    obtain ⟨b, us, rfl, q, r⟩ := hx.sq hw r
    rw [hds] at r
    have e := r.bls
    subst e
    exact ⟨b, bs, rfl, q, k.val hw (Rp.bl _)⟩) ha (by decide +kernel) hm hg (by decide) (by decide) he hpl
theorem px_all (hc : X.calm = true) {bs : List Bool} (ha : AX X [e] Γ Ω [wa] Ω1) (hm : X.mg "all" = none) (hds : ds = bs.map Dt.bl) (hg : Gl X "all" := by rfl) (hx : LsOf Ω1 wa ds := by first | exact .d | exact .l rfl)
    (he : starEach [e] X.env = (false, eval e X.env) :: starEach [] X.env := by rfl) (hpl : (backTo pos (starEach [] X.env)).any (·.1) = false := by rfl) : PX X (.Call (.Name "all" p) [e] [] pos) Γ Ω (.d (.bl (bs.all id))) Ω1 :=
  px_callB (cr_all hc) (fun F ρ H vs Q hw rr k => by
    obtain ⟨v, rfl, r⟩ := rr.one
    obtain ⟨b, us, rfl, q, r⟩ := hx.sq hw r
    rw [hds] at r
    have e := r.bls
    subst e
    exact ⟨b, bs, rfl, q, k.val hw (Rp.bl _)⟩) ha (by decide +kernel) hm hg (by decide) (by decide) he hpl
theorem px_min2 (hc : X.calm = true) {i j : Int} (ha : AX X [a, b] Γ Ω [.d (.int i), .d (.int j)] Ω1) (hm : X.mg "min" = none) (hg : Gl X "min" := by rfl)
    (he : starEach [a, b] X.env = (false, eval a X.env) :: starEach [b] X.env := by rfl) (hpl : (backTo pos (starEach [b] X.env)).any (·.1) = false := by rfl) : PX X (.Call (.Name "min" p) [a, b] [] pos) Γ Ω (.d (.int (if j < i then j else i))) Ω1 :=
  px_callB (call_min2 hc) (fun F ρ H vs Q hw rr k => by
    obtain ⟨v, v2, rfl, r, r2⟩ := rr.two
    obtain rfl := r.int_inv
    obtain rfl := r2.int_inv
    exact ⟨i, j, rfl, k.val hw (Rp.int _)⟩) ha (by decide +kernel) hm hg (by decide) (by decide) he hpl
theorem px_max2 (hc : X.calm = true) {i j : Int} (ha : AX X [a, b] Γ Ω [.d (.int i), .d (.int j)] Ω1) (hm : X.mg "max" = none) (hg : Gl X "max" := by rfl)
    (he : starEach [a, b] X.env = (false, eval a X.env) :: starEach [b] X.env := by rfl) (hpl : (backTo pos (starEach [b] X.env)).any (·.1) = false := by rfl) : PX X (.Call (.Name "max" p) [a, b] [] pos) Γ Ω (.d (.int (if j > i then j else i))) Ω1 :=
  px_callB (call_max2 hc) (fun F ρ H vs Q hw rr k => by
    obtain ⟨v, v2, rfl, r, r2⟩ := rr.two
    obtain rfl := r.int_inv
    obtain rfl := r2.int_inv
    exact ⟨i, j, rfl, k.val hw (Rp.int _)⟩) ha (by decide +kernel) hm hg (by decide) (by decide) he hpl
theorem px_abs {i : Int} (ha : AX X [a] Γ Ω [.d (.int i)] Ω1) (hm : X.mg "abs" = none) (hg : Gl X "abs" := by rfl)
    (he : starEach [a] X.env = (false, eval a X.env) :: starEach [] X.env := by rfl) (hpl : (backTo pos (starEach [] X.env)).any (·.1) = false := by rfl) : PX X (.Call (.Name "abs" p) [a] [] pos) Γ Ω (.d (.int i.natAbs)) Ω1 :=
  px_callB call_abs (fun F ρ H vs Q hw rr k => by
    obtain ⟨v, rfl, r⟩ := rr.one
    obtain rfl := r.int_inv
    refine ⟨i, rfl, ?_⟩
    have e : (if i < 0 then -i else i) = (i.natAbs : Int) := by split <;> omega
    rw [e]
    exact k.val hw (Rp.int _)) ha (by decide +kernel) hm hg (by decide) (by decide) he hpl
theorem px_intI {i : Int} (ha : AX X [a] Γ Ω [.d (.int i)] Ω1) (hm : X.mg "int" = none) (hg : Gl X "int" := by rfl)
    (he : starEach [a] X.env = (false, eval a X.env) :: starEach [] X.env := by rfl) (hpl : (backTo pos (starEach [] X.env)).any (·.1) = false := by rfl) : PX X (.Call (.Name "int" p) [a] [] pos) Γ Ω (.d (.int i)) Ω1 :=
  px_callTy call_int1 (fun F ρ H vs Q hw rr k => by
    obtain ⟨v, rfl, r⟩ := rr.one
    obtain rfl := r.int_inv
    exact .inl ⟨i, rfl, k.val hw (Rp.int _)⟩) ha (by decide +kernel) hm hg (by decide) (by decide) he hpl
theorem px_intB {q : Bool} (ha : AX X [a] Γ Ω [.d (.bl q)] Ω1) (hm : X.mg "int" = none) (hg : Gl X "int" := by rfl)
    (he : starEach [a] X.env = (false, eval a X.env) :: starEach [] X.env := by rfl) (hpl : (backTo pos (starEach [] X.env)).any (·.1) = false := by rfl) : PX X (.Call (.Name "int" p) [a] [] pos) Γ Ω (.d (.int (if q then 1 else 0))) Ω1 :=
  px_callTy call_int1 (fun F ρ H vs Q hw rr k => by
    obtain ⟨v, rfl, r⟩ := rr.one
    obtain rfl := r.bl_inv
    exact .inr ⟨q, rfl, k.val hw (Rp.int _)⟩) ha (by decide +kernel) hm hg (by decide) (by decide) he hpl

/-! ### methods of lists -/
theorem px_bm {T id : String} {name : Str} {r : V → List V → Hp → VK → Prop} (pa : PlainAttrs T) (sl : Slot T name id) (ty : typeOf (.builtin id) = pure (.type "method_descriptor")) (mt : MtR X id r) (hT : ∀ F ρ H v, Wd X.K F ρ Ω1 H → RpW X.K F ρ H v wo → tyV X.K T v H) (hr : RMX X.K r Ω2 wo ws w Ω3)
    (ho : PX X o Γ Ω wo Ω1) (ha : AX X (e :: es) Γ Ω1 ws Ω2)
    (hbase : attributeBase o name X.env (eval o X.env) = eval o X.env := by rfl)
    (hfew : ((((backTo cpos (starEach (e :: es) X.env)).all fun x => !x.1) && (backToKw cpos (keywordEach [] X.env)).all fun x => x.1.isSome) && decide (((e :: es).length + ([] : List Keyword).length + if ([] : List Keyword).isEmpty = true then 0 else 1) < 30)) = true := by rfl)
    (hline : (apos.endLine == cpos.line) = true := by rfl) (he : starEach (e :: es) X.env = (false, eval e X.env) :: starEach es X.env := by rfl) (hpl : (backTo cpos (starEach es X.env)).any (·.1) = false := by rfl) : PX X (.Call (.Attribute o name apos) (e :: es) [] cpos) Γ Ω w Ω3 :=
  PE.wk (pe_bm pa sl ty mt ho ha hbase hfew hline he hpl) fun σ H Q ⟨F, ρ, hw, hs, k⟩ => ⟨F, ρ, hw, hs, fun v1 ρ1 H1 s1 w1 r1 => ⟨hT F ρ1 H1 v1 w1 r1, F, ρ1, w1, hs.xs s1, fun vs ρ2 H2 s2 w2 r2 => hr F ρ2 H2 v1 vs Q w2 (r1.xs s2) r2 ((k.go s1).go s2)⟩⟩
theorem px_bm0 {T id : String} {name : Str} {r : V → List V → Hp → VK → Prop} (pa : PlainAttrs T) (sl : Slot T name id) (ty : typeOf (.builtin id) = pure (.type "method_descriptor")) (mt : MtR X id r) (hT : ∀ F ρ H v, Wd X.K F ρ Ω1 H → RpW X.K F ρ H v wo → tyV X.K T v H) (hr : RMX X.K r Ω1 wo [] w Ω2)
    (ho : PX X o Γ Ω wo Ω1)
    (hbase : attributeBase o name X.env (eval o X.env) = eval o X.env := by rfl) (hline : (apos.endLine == cpos.line) = true := by rfl) : PX X (.Call (.Attribute o name apos) [] [] cpos) Γ Ω w Ω2 :=
  PE.wk (pe_bm0 pa sl ty mt ho hbase hline) fun σ H Q ⟨F, ρ, hw, hs, k⟩ => ⟨F, ρ, hw, hs, fun v1 ρ1 H1 s1 w1 r1 => ⟨hT F ρ1 H1 v1 w1 r1, hr F ρ1 H1 v1 [] Q w1 r1 .nil (k.go s1)⟩⟩
theorem tyL {K : PySem.W.Frag} {Ω : Om} {w : W} {ds : List Dt} (h : LsOf Ω w ds) : ∀ F ρ H v, Wd K F ρ Ω H → RpW K F ρ H v w → tyV K "list" v H := fun F ρ H v hw r => by
  obtain ⟨b, us, rfl, q, r⟩ := h.sq hw r
  exact .inl ⟨rfl, us, q⟩
theorem own_at {K : PySem.W.Frag} {F : List Addr} {ρ : RO} {H : Hp} {Ω : Om} {v : V} {n : Nat} {ds : List Dt} (hw : Wd K F ρ Ω H) (h : Ω[n]? = some (.ls ds)) (r : RpW K F ρ H v (.l n)) : ∃ a vs, v = .ref a ∧ ρ[n]? = some (some a) ∧ H a = some (.lst vs) ∧ RpL K (hid F ρ H) vs ds := by
  obtain ⟨a, rfl, e⟩ := r
  obtain ⟨b, eb, q⟩ := hw.ob _ _ h (fun z => by cases z)
  rw [e] at eb
  cases eb
  obtain ⟨vs, q, r⟩ := q
  exact ⟨a, vs, rfl, e, q, r⟩
theorem rl_put {K : PySem.W.Frag} {F : List Addr} {ρ : RO} {H : Hp} {n : Nat} {a : Addr} {o : HO} {vs : List V} {ds : List Dt} (ea : ρ[n]? = some (some a)) (r : RpL K (hid F ρ H) vs ds) : RpL K (hid F ρ (upd H a o)) vs ds := by
  rw [hid_put ea]
  exact r
theorem px_append {ds : List Dt} (h1 : Ω1[n]? = some (.ls ds)) (h2 : Ω2[n]? = some (.ls ds)) (hz : ds.length < sizeLine) (ho : PX X o Γ Ω (.l n) Ω1) (ha : AX X [e] Γ Ω1 [.d x] Ω2)
    (hbase : attributeBase o "append" X.env (eval o X.env) = eval o X.env := by rfl)
    (hfew : ((((backTo cpos (starEach [e] X.env)).all fun x => !x.1) && (backToKw cpos (keywordEach [] X.env)).all fun x => x.1.isSome) && decide (([e].length + ([] : List Keyword).length + if ([] : List Keyword).isEmpty = true then 0 else 1) < 30)) = true := by rfl)
    (hline : (apos.endLine == cpos.line) = true := by rfl) (he : starEach [e] X.env = (false, eval e X.env) :: starEach [] X.env := by rfl) (hpl : (backTo cpos (starEach [] X.env)).any (·.1) = false := by rfl) :
    PX X (.Call (.Attribute o "append" apos) [e] [] cpos) Γ Ω (.d .non) (Ω2.set n (.ls (ds ++ [x]))) :=
  px_bm PySem.F.plainAttrs_list PySem.F.slot_list_append PySem.F.type_list_append mt_append (tyL (.l h1)) (fun F ρ H v vs Q hw r rs k => by
    obtain ⟨a, us, rfl, ea, q, r⟩ := own_at hw h2 r
    obtain ⟨u, rfl, ru⟩ := rs.one
    refine ⟨a, us, u, rfl, rfl, q, by rw [r.length]; exact hz, ?_⟩
    refine k.put hw h2 (fun z => by cases z) ea (fun z => by cases z) ⟨_, upd_same, ?_⟩ Rp.non
    exact (rl_put ea r).app (.cons (RpW.put (w := .d x) ea ru) .nil)) ho ha hbase hfew hline he hpl
theorem px_pop {ds : List Dt} (h1 : Ω1[n]? = some (.ls (ds ++ [x]))) (ho : PX X o Γ Ω (.l n) Ω1)
    (hbase : attributeBase o "pop" X.env (eval o X.env) = eval o X.env := by rfl) (hline : (apos.endLine == cpos.line) = true := by rfl) :
    PX X (.Call (.Attribute o "pop" apos) [] [] cpos) Γ Ω (.d x) (Ω1.set n (.ls ds)) :=
  px_bm0 PySem.F.plainAttrs_list PySem.F.slot_list_pop PySem.F.type_list_pop mt_pop (tyL (.l h1)) (fun F ρ H v vs Q hw r rs k => by
    obtain ⟨a, us, rfl, ea, q, r⟩ := own_at hw h1 r
    have hl := r.length
    rw [List.length_append, List.length_singleton] at hl
    have hd : (ds ++ [x])[us.length - 1]? = some x := by
      rw [show us.length - 1 = ds.length by omega]
      simp
    obtain ⟨z, ez, rz⟩ := RpL.get (i := 0) r hd
    refine ⟨a, us, z, rfl, by cases rs; rfl, q, ez, ?_⟩
    refine k.put hw h1 (fun z => by cases z) ea (fun z => by cases z) ⟨_, upd_same, ?_⟩ rz
    have r2 := (rl_put (o := .lst us.dropLast) ea r).take ds.length
    rw [List.take_left, show us.take ds.length = us.dropLast by rw [List.dropLast_eq_take, show us.length - 1 = ds.length by omega]] at r2
    exact r2) ho hbase hline
theorem px_popAt {ds : List Dt} {i : Int} {j : Nat} (h1 : Ω1[n]? = some (.ls ds)) (h2 : Ω2[n]? = some (.ls ds)) (hi : -(2 ^ 63) ≤ i ∧ i < 2 ^ 63) (hj : seqIndex? i ds.length = some j) (hx : ds[j]? = some x) (ho : PX X o Γ Ω (.l n) Ω1) (ha : AX X [e] Γ Ω1 [.d (.int i)] Ω2)
    (hbase : attributeBase o "pop" X.env (eval o X.env) = eval o X.env := by rfl)
    (hfew : ((((backTo cpos (starEach [e] X.env)).all fun x => !x.1) && (backToKw cpos (keywordEach [] X.env)).all fun x => x.1.isSome) && decide (([e].length + ([] : List Keyword).length + if ([] : List Keyword).isEmpty = true then 0 else 1) < 30)) = true := by rfl)
    (hline : (apos.endLine == cpos.line) = true := by rfl) (he : starEach [e] X.env = (false, eval e X.env) :: starEach [] X.env := by rfl) (hpl : (backTo cpos (starEach [] X.env)).any (·.1) = false := by rfl) :
    PX X (.Call (.Attribute o "pop" apos) [e] [] cpos) Γ Ω (.d x) (Ω2.set n (.ls (ds.eraseIdx j))) :=
  px_bm PySem.F.plainAttrs_list PySem.F.slot_list_pop PySem.F.type_list_pop mt_popAt (tyL (.l h1)) (fun F ρ H v vs Q hw r rs k => by
    obtain ⟨a, us, rfl, ea, q, r⟩ := own_at hw h2 r
    obtain ⟨u, rfl, ru⟩ := rs.one
    obtain rfl := ru.int_inv
    obtain ⟨z, ez, rz⟩ := RpL.get (i := 0) r hx
    refine ⟨a, us, i, j, z, rfl, rfl, q, hi.1, hi.2, by rw [r.length]; exact hj, ez, ?_⟩
    refine k.put hw h2 (fun z => by cases z) ea (fun z => by cases z) ⟨_, upd_same, ?_⟩ rz
    have r2 := rl_put (o := .lst (us.eraseIdx j)) ea r
    rw [List.eraseIdx_eq_take_drop_succ, List.eraseIdx_eq_take_drop_succ] at *
    exact (r2.take j).app (r2.drop (j + 1))) ho ha hbase hfew hline he hpl

/-! ### attributes -/
theorem px_fld {C : Addr} {f : Str} {fs : List (Str × W)} (ha : PX X a Γ Ω (.l n) Ω1) (hc : Cls X.K C) (hn : NoAttr X.K C f) (h : Ω1[n]? = some (.ins C fs) := by rfl) (hl : fs.lookup f = some w := by rfl) (hb : attributeBase a f X.env (eval a X.env) = eval a X.env := by rfl) : PX X (.Attribute a f pos) Γ Ω w Ω1 :=
  PE.wk (pe_fld ha hb) fun σ H Q ⟨F, ρ, hw, hs, k⟩ => ⟨F, ρ, hw, hs, fun v1 ρ1 H1 s1 w1 r1 => by
    obtain ⟨b, rfl, e⟩ := r1
    obtain ⟨b2, eb, q⟩ := w1.ob _ _ h (fun z => by cases z)
    rw [e] at eb
    cases eb
    obtain ⟨dx, us, q, r⟩ := q
    have look : ∀ {us : List (Str × V)} {fs : List (Str × W)}, Paired (fun (p : Str × V) (q : Str × W) => p.1 = q.1 ∧ RpW X.K F ρ1 H1 p.2 q.2) us fs → fs.lookup f = some w → ∃ v, us.lookup f = some v ∧ RpW X.K F ρ1 H1 v w := by
      intro us fs r
      induction r with
      | nil => intro h; simp at h
      | cons q r ih =>
        rename_i x y xs ys
        obtain ⟨x1, x2⟩ := x
        obtain ⟨y1, y2⟩ := y
        obtain ⟨q1, q2⟩ := q
        dsimp only at q1 q2
        subst q1
        intro h
        rw [List.lookup_cons] at h ⊢
        split at h
        · cases h
          exact ⟨x2, rfl, q2⟩
        · exact ih h
    obtain ⟨v, ev, rv⟩ := look r hl
    exact ⟨b, C, dx, us, v, rfl, q, hc, hn, ev, (k.go s1).val w1 rv⟩⟩
theorem RpF.look {K : PySem.W.Frag} {H : Hp} {f : Str} {x : Dt} : ∀ {us : List (Str × V)} {fs : List (Str × Dt)}, RpF K H us fs → fs.lookup f = some x → ∃ v, us.lookup f = some v ∧ Rp K H v x
  | _, _, .nil, h => by simp at h
  | _, _, .cons q r, h => by
    rw [List.lookup_cons] at h ⊢
    split at h
    · cases h
      exact ⟨_, rfl, q⟩
    · exact RpF.look r h
theorem px_fldD {C : Addr} {f : Str} {fs : List (Str × Dt)} (ha : PX X a Γ Ω (.d (.ins C fs)) Ω1) (hc : Cls X.K C) (hn : NoAttr X.K C f) (hl : fs.lookup f = some x := by rfl) (hb : attributeBase a f X.env (eval a X.env) = eval a X.env := by rfl) : PX X (.Attribute a f pos) Γ Ω (.d x) Ω1 :=
  PE.wk (pe_fld ha hb) fun σ H Q ⟨F, ρ, hw, hs, k⟩ => ⟨F, ρ, hw, hs, fun v1 ρ1 H1 s1 w1 r1 => by
    have r1 : Rp X.K (hid F ρ1 H1) v1 (.ins C fs) := r1
    cases r1 with
    | ins q r =>
      obtain ⟨v, ev, rv⟩ := r.look hl
      exact ⟨_, C, _, _, v, rfl, (hid_le q).1, hc, hn, ev, (k.go s1).val w1 rv⟩⟩
end

/-! ### dicts -/
def kD : Key → Dt
  | .inl i => .int i
  | .inr s => .str s
section
variable {κ : Type} [DecidableEq κ]
def lookD (kvs : List (κ × Dt)) (k : κ) : Option Dt := (kvs.find? fun kv => decide (kv.1 = k)).map (·.2)
def putD (kvs : List (κ × Dt)) (k : κ) (v : Dt) : List (κ × Dt) :=
  if (kvs.any fun kv => decide (kv.1 = k)) = true then kvs.map (fun kv => if kv.1 = k then (kv.1, v) else kv) else kvs ++ [(k, v)]
theorem lookD_nil {k : κ} : lookD ([] : List (κ × Dt)) k = none := rfl
theorem lookD_cons {p : κ × Dt} {r : List (κ × Dt)} {k : κ} : lookD (p :: r) k = if p.1 = k then some p.2 else lookD r k := by
  unfold lookD
  rw [List.find?_cons]
  by_cases h : p.1 = k <;> simp [h]
end
theorem kV_inv {K : PySem.W.Frag} {H : Hp} {v : V} {k : Key} (h : Rp K H v (kD k)) : v = kV k := by
  cases k with
  | inl i => exact Rp.int_inv h
  | inr s => exact Rp.str_inv h
theorem rp_kV {K : PySem.W.Frag} {H : Hp} (k : Key) : Rp K H (kV k) (kD k) := by
  cases k with
  | inl i => exact .int i
  | inr s => exact .str s
section
variable {K : PySem.W.Frag} {H : Hp}
theorem RpK.look {k : Key} : ∀ {ws : List (Key × V)} {kvs : List (Key × Dt)}, RpK K H ws kvs → (lookD kvs k = none ∧ valV ws k = none) ∨ ∃ d v, lookD kvs k = some d ∧ valV ws k = some v ∧ Rp K H v d
  | _, _, .nil => .inl ⟨rfl, rfl⟩
  | _, _, .cons (k := k') q r => by
    by_cases h : k' = k
    · refine .inr ⟨_, _, ?_, valV_pos h, q⟩
      rw [lookD_cons, if_pos h]
    · rw [lookD_cons, if_neg h, valV_neg h]
      exact RpK.look r
theorem RpT.look {k : List Key} : ∀ {ws : List (List Key × V)} {kvs : List (List Key × Dt)}, RpT K H ws kvs → (lookD kvs k = none ∧ valV ws k = none) ∨ ∃ d v, lookD kvs k = some d ∧ valV ws k = some v ∧ Rp K H v d
  | _, _, .nil => .inl ⟨rfl, rfl⟩
  | _, _, .cons (k := k') q r => by
    by_cases h : k' = k
    · refine .inr ⟨_, _, ?_, valV_pos h, q⟩
      rw [lookD_cons, if_pos h]
    · rw [lookD_cons, if_neg h, valV_neg h]
      exact RpT.look r
theorem RpK.anyk {k : Key} : ∀ {ws : List (Key × V)} {kvs : List (Key × Dt)}, RpK K H ws kvs → (ws.any fun kv => decide (kv.1 = k)) = (kvs.any fun kv => decide (kv.1 = k))
  | _, _, .nil => rfl
  | _, _, .cons q r => by rw [List.any_cons, List.any_cons, RpK.anyk r]
theorem RpT.anyk {k : List Key} : ∀ {ws : List (List Key × V)} {kvs : List (List Key × Dt)}, RpT K H ws kvs → (ws.any fun kv => decide (kv.1 = k)) = (kvs.any fun kv => decide (kv.1 = k))
  | _, _, .nil => rfl
  | _, _, .cons q r => by rw [List.any_cons, List.any_cons, RpT.anyk r]
theorem RpK.app : ∀ {vs ws : List (Key × V)} {ds es : List (Key × Dt)}, RpK K H vs ds → RpK K H ws es → RpK K H (vs ++ ws) (ds ++ es)
  | _, _, _, _, .nil, s => s
  | _, _, _, _, .cons q r, s => .cons q (RpK.app r s)
theorem RpT.app : ∀ {vs ws : List (List Key × V)} {ds es : List (List Key × Dt)}, RpT K H vs ds → RpT K H ws es → RpT K H (vs ++ ws) (ds ++ es)
  | _, _, _, _, .nil, s => s
  | _, _, _, _, .cons q r, s => .cons q (RpT.app r s)
theorem RpK.length : ∀ {v : List (Key × V)} {d : List (Key × Dt)}, RpK K H v d → v.length = d.length
  | _, _, .nil => rfl
  | _, _, .cons _ r => congrArg (· + 1) (RpK.length r)
theorem RpT.length : ∀ {v : List (List Key × V)} {d : List (List Key × Dt)}, RpT K H v d → v.length = d.length
  | _, _, .nil => rfl
  | _, _, .cons _ r => congrArg (· + 1) (RpT.length r)
theorem RpK.mapk {k : Key} {v : V} {d : Dt} (h : Rp K H v d) : ∀ {ws : List (Key × V)} {kvs : List (Key × Dt)}, RpK K H ws kvs → RpK K H (ws.map fun kv => if kv.1 = k then (kv.1, v) else kv) (kvs.map fun kv => if kv.1 = k then (kv.1, d) else kv)
  | _, _, .nil => .nil
  | _, _, .cons (k := k') q r => by
    rw [List.map_cons, List.map_cons]
    by_cases e : k' = k
    · rw [if_pos e, if_pos e]; exact .cons h (RpK.mapk h r)
    · rw [if_neg e, if_neg e]; exact .cons q (RpK.mapk h r)
theorem RpT.mapk {k : List Key} {v : V} {d : Dt} (h : Rp K H v d) : ∀ {ws : List (List Key × V)} {kvs : List (List Key × Dt)}, RpT K H ws kvs → RpT K H (ws.map fun kv => if kv.1 = k then (kv.1, v) else kv) (kvs.map fun kv => if kv.1 = k then (kv.1, d) else kv)
  | _, _, .nil => .nil
  | _, _, .cons (k := k') q r => by
    rw [List.map_cons, List.map_cons]
    by_cases e : k' = k
    · rw [if_pos e, if_pos e]; exact .cons h (RpT.mapk h r)
    · rw [if_neg e, if_neg e]; exact .cons q (RpT.mapk h r)
theorem RpK.put {k : Key} {v : V} {d : Dt} {ws : List (Key × V)} {kvs : List (Key × Dt)} (h : Rp K H v d) (r : RpK K H ws kvs) : RpK K H (putK ws k v) (putD kvs k d) := by
  unfold putK putD
  rw [r.anyk]
  split
  · exact r.mapk h
  · exact r.app (.cons h .nil)
theorem RpT.put {k : List Key} {v : V} {d : Dt} {ws : List (List Key × V)} {kvs : List (List Key × Dt)} (h : Rp K H v d) (r : RpT K H ws kvs) : RpT K H (putK ws k v) (putD kvs k d) := by
  unfold putK putD
  rw [r.anyk]
  split
  · exact r.mapk h
  · exact r.app (.cons h .nil)
end
/-- a dict with its keys: what a look-up of the datum x gives -/
inductive DkOf (Ω : Om) : W → Dt → Option Dt → Prop
  | d {kvs : List (Key × Dt)} {k : Key} : DkOf Ω (.d (.dic kvs)) (kD k) (lookD kvs k)
  | l {n : Nat} {kvs : List (Key × Dt)} {k : Key} (h : Ω[n]? = some (.dk kvs)) : DkOf Ω (.l n) (kD k) (lookD kvs k)
  | td {kvs : List (List Key × Dt)} {k : List Key} : DkOf Ω (.d (.dct kvs)) (.kt k) (lookD kvs k)
  | tl {n : Nat} {kvs : List (List Key × Dt)} {k : List Key} (h : Ω[n]? = some (.dt kvs)) : DkOf Ω (.l n) (.kt k) (lookD kvs k)
section
variable {K : PySem.W.Frag} {F : List Addr} {ρ : RO} {H : Hp} {Ω : Om}
theorem own_dk {v : V} {n : Nat} {kvs : List (Key × Dt)} (hw : Wd K F ρ Ω H) (h : Ω[n]? = some (.dk kvs)) (r : RpW K F ρ H v (.l n)) : ∃ a vs, v = .ref a ∧ ρ[n]? = some (some a) ∧ H a = some (.dK vs) ∧ RpK K (hid F ρ H) vs kvs := by
  obtain ⟨a, rfl, e⟩ := r
  obtain ⟨b, eb, q⟩ := hw.ob _ _ h (fun z => by cases z)
  rw [e] at eb
  cases eb
  obtain ⟨vs, q, r⟩ := q
  exact ⟨a, vs, rfl, e, q, r⟩
theorem own_dt {v : V} {n : Nat} {kvs : List (List Key × Dt)} (hw : Wd K F ρ Ω H) (h : Ω[n]? = some (.dt kvs)) (r : RpW K F ρ H v (.l n)) : ∃ a vs, v = .ref a ∧ ρ[n]? = some (some a) ∧ H a = some (.dT vs) ∧ RpT K (hid F ρ H) vs kvs := by
  obtain ⟨a, rfl, e⟩ := r
  obtain ⟨b, eb, q⟩ := hw.ob _ _ h (fun z => by cases z)
  rw [e] at eb
  cases eb
  obtain ⟨vs, q, r⟩ := q
  exact ⟨a, vs, rfl, e, q, r⟩
theorem RpW.kt_inv {v : V} {ks : List Key} (r : RpW K F ρ H v (.d (.kt ks))) : ∃ b, v = .ref b ∧ H b = some (.tup (ks.map kV)) := by
  have r : Rp K (hid F ρ H) v (.kt ks) := r
  cases r with
  | kt q => exact ⟨_, rfl, (hid_le q).1⟩
theorem DkOf.get {w : W} {x : Dt} {o : Option Dt} {v y : V} (h : DkOf Ω w x o) (hw : Wd K F ρ Ω H) (r : RpW K F ρ H v w) (ry : RpW K F ρ H y (.d x)) :
    ∃ a r', v = .ref a ∧ IsD H a ∧ DGet H a y r' ∧ ((o = none ∧ r' = none) ∨ ∃ d z, o = some d ∧ r' = some z ∧ Rp K (hid F ρ H) z d) := by
  cases h with
  | d =>
    rename_i kvs k
    have r : Rp K (hid F ρ H) v (.dic kvs) := r
    obtain rfl := kV_inv ry
    cases r with
    | dic q r =>
      refine ⟨_, _, rfl, .inl ⟨_, rd_unhid q⟩, .inl ⟨_, k, rd_unhid q, rfl, rfl⟩, ?_⟩
      rcases RpK.look (k := k) r with ⟨e1, e2⟩ | ⟨d, z, e1, e2, rz⟩
      · exact .inl ⟨e1, e2⟩
      · exact .inr ⟨d, z, e1, e2, rz⟩
  | l h =>
    rename_i n kvs k
    obtain ⟨a, vs, rfl, _, q, r⟩ := own_dk hw h r
    obtain rfl := kV_inv ry
    refine ⟨_, _, rfl, .inl ⟨_, .inl q⟩, .inl ⟨_, k, .inl q, rfl, rfl⟩, ?_⟩
    rcases RpK.look (k := k) r with ⟨e1, e2⟩ | ⟨d, z, e1, e2, rz⟩
    · exact .inl ⟨e1, e2⟩
    · exact .inr ⟨d, z, e1, e2, rz⟩
  | td =>
    rename_i kvs k
    have r : Rp K (hid F ρ H) v (.dct kvs) := r
    obtain ⟨b, rfl, eb⟩ := ry.kt_inv
    cases r with
    | dct q r =>
      refine ⟨_, _, rfl, .inr ⟨_, rd_unhid q⟩, .inr ⟨_, k, b, rd_unhid q, rfl, eb, rfl⟩, ?_⟩
      rcases RpT.look (k := k) r with ⟨e1, e2⟩ | ⟨d, z, e1, e2, rz⟩
      · exact .inl ⟨e1, e2⟩
      · exact .inr ⟨d, z, e1, e2, rz⟩
  | tl h =>
    rename_i n kvs k
    obtain ⟨a, vs, rfl, _, q, r⟩ := own_dt hw h r
    obtain ⟨b, rfl, eb⟩ := ry.kt_inv
    refine ⟨_, _, rfl, .inr ⟨_, .inl q⟩, .inr ⟨_, k, b, .inl q, rfl, eb, rfl⟩, ?_⟩
    rcases RpT.look (k := k) r with ⟨e1, e2⟩ | ⟨d, z, e1, e2, rz⟩
    · exact .inl ⟨e1, e2⟩
    · exact .inr ⟨d, z, e1, e2, rz⟩
end
section
variable {X : Cx} {a b c e f o : Expr} {Γ : Gm} {Ω Ω' Ω1 Ω2 Ω3 : Om} {w wa wb wo : W} {p pos apos cpos : Pos} {x y z : Dt} {od : Option Dt}
theorem px_dget (hu : X.A.units + 1 < cLine) (ha : PX X a Γ Ω wa Ω1) (hb : PX X b Γ Ω1 (.d x) Ω2) (hd : DkOf Ω2 wa x od) (hz : od = some z) (hs : NoSl b := by exact fun _ _ => rfl) : PX X (.Subscript a b pos) Γ Ω (.d z) Ω2 :=
  PE.wk (pe_dget hu ha hb hs) fun σ H Q ⟨F, ρ, hw, hs, k⟩ => ⟨F, ρ, hw, hs, fun v1 ρ1 H1 s1 w1 r1 => ⟨F, ρ1, w1, hs.xs s1, fun v2 ρ2 H2 s2 w2 r2 => by
    obtain ⟨q, r', rfl, _, g, hh⟩ := hd.get w2 (r1.xs s2) r2
    rcases hh with ⟨e, _⟩ | ⟨d, u, e, rfl, ru⟩
    · rw [hz] at e; cases e
    · rw [hz] at e; cases e
      exact ⟨q, u, rfl, g, ((k.go s1).go s2).val w2 ru⟩⟩⟩
theorem px_dget2 (hu : X.A.units + 1 < cLine) (ho : PX X o Γ Ω wo Ω1) (ha : PX X e Γ Ω1 (.d x) Ω2) (hf : PX X f Γ Ω2 (.d y) Ω3) (hd : DkOf Ω3 wo x od) (h0 : ∀ K F ρ H v, Wd K F ρ Ω1 H → RpW K F ρ H v wo → ∃ a, v = .ref a ∧ IsD H a) (m : M2 X o "get" apos e f cpos := by exact ⟨rfl, rfl, rfl, rfl⟩) :
    PX X (.Call (.Attribute o "get" apos) [e, f] [] cpos) Γ Ω (.d (od.getD y)) Ω3 :=
  PE.wk (pe_dget2 hu ho ha hf m) fun σ H Q ⟨F, ρ, hw, hs, k⟩ => ⟨F, ρ, hw, hs, fun v1 ρ1 H1 s1 w1 r1 => by
    obtain ⟨q, rfl, isd⟩ := h0 _ _ _ _ _ w1 r1
    refine ⟨q, rfl, isd, F, ρ1, w1, hs.xs s1, fun v2 ρ2 H2 s2 w2 r2 => ⟨F, ρ2, w2, (hs.xs s1).xs s2, fun v3 ρ3 H3 s3 w3 r3 => ?_⟩⟩
    obtain ⟨q', r', e', _, g, hh⟩ := hd.get w3 ((r1.xs s2).xs s3) (r2.xs s3)
    cases e'
    refine ⟨r', g, ?_⟩
    rcases hh with ⟨e1, e2⟩ | ⟨d, u, e1, e2, ru⟩
    · subst e1 e2
      exact (((k.go s1).go s2).go s3).val w3 r3
    · subst e1 e2
      exact (((k.go s1).go s2).go s3).val w3 ru⟩
theorem px_din (hu : X.A.units + 1 < cLine) (ha : PX X a Γ Ω (.d x) Ω1) (hb : PX X b Γ Ω1 wb Ω2) (hd : DkOf Ω2 wb x od) (h1 : behindInMarks .In b = false := by rfl) : PX X (.Compare a [.In] [b] pos) Γ Ω (.d (.bl od.isSome)) Ω2 :=
  PE.wk (pe_cmp (pc_din hu ha hb) h1) fun σ H Q ⟨F, ρ, hw, hs, k⟩ => ⟨F, ρ, hw, hs, fun v1 ρ1 H1 s1 w1 r1 => ⟨F, ρ1, w1, hs.xs s1, fun v2 ρ2 H2 s2 w2 r2 => by
    obtain ⟨q, r', rfl, _, g, hh⟩ := hd.get w2 r2 (r1.xs s2)
    refine ⟨q, r', rfl, g, ?_⟩
    rcases hh with ⟨e1, e2⟩ | ⟨d, u, e1, e2, ru⟩
    · subst e1 e2
      exact ((k.go s1).go s2).val w2 (Rp.bl _)
    · subst e1 e2
      exact ((k.go s1).go s2).val w2 (Rp.bl _)⟩⟩
theorem px_dnotin (hu : X.A.units + 1 < cLine) (ha : PX X a Γ Ω (.d x) Ω1) (hb : PX X b Γ Ω1 wb Ω2) (hd : DkOf Ω2 wb x od) (h1 : behindInMarks .NotIn b = false := by rfl) : PX X (.Compare a [.NotIn] [b] pos) Γ Ω (.d (.bl (!od.isSome))) Ω2 :=
  PE.wk (pe_cmp (pc_dnotin hu ha hb) h1) fun σ H Q ⟨F, ρ, hw, hs, k⟩ => ⟨F, ρ, hw, hs, fun v1 ρ1 H1 s1 w1 r1 => ⟨F, ρ1, w1, hs.xs s1, fun v2 ρ2 H2 s2 w2 r2 => by
    obtain ⟨q, r', rfl, _, g, hh⟩ := hd.get w2 r2 (r1.xs s2)
    refine ⟨q, r', rfl, g, ?_⟩
    rcases hh with ⟨e1, e2⟩ | ⟨d, u, e1, e2, ru⟩
    · subst e1 e2
      exact ((k.go s1).go s2).val w2 (Rp.bl _)
    · subst e1 e2
      exact ((k.go s1).go s2).val w2 (Rp.bl _)⟩⟩
end
end DL
/-! D layer, part 5: targets, what is walked, comprehensions. -/
namespace DL
open PySem PySem.Spec PyProof.Rows L2

/-! ### targets -/
def GX (K : PySem.W.Frag) (g : TG) (Γ : Gm) (w : W) (Γ' : Gm) (is : List Nat) : Prop := ∀ F ρ Ω H v σ (Q : L2.St → Hp → Prop), Wd K F ρ Ω H → Sl K F ρ Γ σ H → RpW K F ρ H v w →
  (∀ σ', Sl K F ρ Γ' σ' H → (∀ vs : List Nat, (∀ i ∈ is, i ∈ vs) → wipe σ' vs = wipe σ vs) → Q σ' H) → g v σ H Q
def GXs (K : PySem.W.Frag) (g : TGs) (Γ : Gm) (ws : List W) (Γ' : Gm) (is : List Nat) : Prop := ∀ F ρ Ω H vs σ (Q : L2.St → Hp → Prop), Wd K F ρ Ω H → Sl K F ρ Γ σ H → RpWs K F ρ H vs ws →
  (∀ σ', Sl K F ρ Γ' σ' H → (∀ vs : List Nat, (∀ i ∈ is, i ∈ vs) → wipe σ' vs = wipe σ vs) → Q σ' H) → g vs σ H Q
section
variable {K : PySem.W.Frag} {F : List Addr} {ρ : RO} {H : Hp} {Γ Γ1 Γ2 Γ' : Gm} {σ : L2.St} {w : W} {v : V} {i : Nat} {ws : List W} {is js : List Nat} {g : TG} {gs : TGs}
theorem Sl.set (h : Sl K F ρ Γ σ H) (r : RpW K F ρ H v w) (i : Nat) : Sl K F ρ (Γ.set i (some w)) (σ.set i (some v)) H := by
  refine ⟨by rw [List.length_set, List.length_set]; exact h.1, fun j u e => ?_⟩
  by_cases z : i = j
  · subst z
    have hl := (List.getElem?_eq_some_iff.mp e).1
    rw [List.length_set] at hl
    rw [List.getElem?_set_self hl] at e
    cases e
    exact ⟨v, List.getElem?_set_self (by rw [h.1]; exact hl), r⟩
  · rw [List.getElem?_set_ne z] at e
    obtain ⟨u', e', r'⟩ := h.2 j u e
    exact ⟨u', by rw [List.getElem?_set_ne z]; exact e', r'⟩
theorem wipe_get {σ : L2.St} {j : Nat} : ∀ {vs : List Nat}, (wipe σ vs)[j]? = if j ∈ vs ∧ j < σ.length then some none else σ[j]?
  | [] => by simp [wipe]
  | u :: vs => by
    unfold wipe
    by_cases z : u = j
    · subst z
      by_cases hl : u < σ.length
      · rw [List.getElem?_set_self (by rw [wipe_length]; exact hl), if_pos ⟨List.mem_cons_self .., hl⟩]
      · rw [if_neg (fun q => hl q.2), List.getElem?_eq_none (by rw [List.length_set, wipe_length]; omega), List.getElem?_eq_none (by omega)]
    · rw [List.getElem?_set_ne z, wipe_get (vs := vs)]
      by_cases q : j ∈ vs ∧ j < σ.length
      · rw [if_pos q, if_pos ⟨List.mem_cons_of_mem _ q.1, q.2⟩]
      · rw [if_neg q, if_neg (fun y => q ⟨(List.mem_cons.mp y.1).resolve_left (fun e => z e.symm), y.2⟩)]
theorem wipe_set {σ : L2.St} {x : Option V} {vs : List Nat} (h : i ∈ vs) : wipe (σ.set i x) vs = wipe σ vs := by
  apply List.ext_getElem?
  intro j
  rw [wipe_get, wipe_get, List.length_set]
  by_cases q : j ∈ vs ∧ j < σ.length
  · rw [if_pos q, if_pos q]
  · rw [if_neg q, if_neg q]
    by_cases z : i = j
    · subst z
      have hl : ¬ i < σ.length := fun y => q ⟨h, y⟩
      rw [List.getElem?_eq_none (by rw [List.length_set]; omega), List.getElem?_eq_none (by omega)]
    · rw [List.getElem?_set_ne z]
/-- the symbolic slots forgotten -/
def wipeG (Γ : Gm) : List Nat → Gm
  | [] => Γ
  | v :: vs => (wipeG Γ vs).set v none
theorem wipeG_length (Γ : Gm) : ∀ vs : List Nat, (wipeG Γ vs).length = Γ.length
  | [] => rfl
  | v :: vs => by unfold wipeG; rw [List.length_set, wipeG_length Γ vs]
theorem Sl.unset (h : Sl K F ρ Γ σ H) (i : Nat) : Sl K F ρ (Γ.set i none) (σ.set i none) H := by
  refine ⟨by rw [List.length_set, List.length_set]; exact h.1, fun j u e => ?_⟩
  by_cases z : i = j
  · subst z
    have hl := (List.getElem?_eq_some_iff.mp e).1
    rw [List.length_set] at hl
    rw [List.getElem?_set_self hl] at e
    cases e
  · rw [List.getElem?_set_ne z] at e ⊢
    exact h.2 j u e
theorem Sl.wipe (h : Sl K F ρ Γ σ H) : ∀ vs : List Nat, Sl K F ρ (wipeG Γ vs) (L2.wipe σ vs) H
  | [] => h
  | v :: vs => by
    unfold wipeG L2.wipe
    exact (Sl.wipe h vs).unset v
theorem gx_name (i : Nat) : GX K (gName i) Γ w (Γ.set i (some w)) [i] := fun F ρ Ω H v σ Q hw hs r k => k _ (hs.set r i) fun vs h => wipe_set (h i (List.mem_singleton.mpr rfl))
theorem gxs_nil : GXs K gNil Γ [] Γ [] := fun F ρ Ω H vs σ Q hw hs r k => by
  cases r
  exact ⟨rfl, k σ hs fun _ _ => rfl⟩
theorem gxs_cons (h : GX K g Γ w Γ1 is) (hr : GXs K gs Γ1 ws Γ2 js) : GXs K (gCons g gs) Γ (w :: ws) Γ2 (is ++ js) := fun F ρ Ω H vs σ Q hw hs r k => by
  cases r with
  | cons q r =>
    refine ⟨_, _, rfl, h F ρ Ω H _ σ _ hw hs q fun σ1 hs1 e1 => hr F ρ Ω H _ σ1 _ hw hs1 r fun σ2 hs2 e2 => k σ2 hs2 fun vs hv => ?_⟩
    rw [e2 vs fun i hi => hv i (List.mem_append_right _ hi), e1 vs fun i hi => hv i (List.mem_append_left _ hi)]
theorem gx_tup {ds : List Dt} {n : Nat} (h : GXs K gs Γ (ds.map W.d) Γ' is) (hn : ds.length = n := by rfl) : GX K (gTup K n gs) Γ (.d (.tup ds)) Γ' is := fun F ρ Ω H v σ Q hw hs r k => by
  have r : Rp K (hid F ρ H) v (.tup ds) := r
  cases r with
  | tup q r => exact ⟨_, _, rfl, Kp.hid.sqT q, by rw [r.length]; exact hn, h F ρ Ω H _ σ Q hw hs (RpWs.of_data r) k⟩
theorem rpl_keys {H : Hp} : ∀ ks : List Key, RpL K H (ks.map kV) (ks.map kD)
  | [] => .nil
  | k :: ks => .cons (rp_kV k) (rpl_keys ks)
theorem Rp.kt_tup {H : Hp} {v : V} {ks : List Key} (h : Rp K H v (.kt ks)) : Rp K H v (.tup (ks.map kD)) := by
  cases h with
  | kt q => exact .tup (.inl (.inl q)) (rpl_keys ks)
theorem gx_tupK {ks : List Key} {n : Nat} (h : GXs K gs Γ ((ks.map kD).map W.d) Γ' is) (hn : (ks.map kD).length = n := by rfl) : GX K (gTup K n gs) Γ (.d (.kt ks)) Γ' is := fun F ρ Ω H v σ Q hw hs r k =>
  gx_tup h hn F ρ Ω H v σ Q hw hs (Rp.kt_tup r) k
end

/-! ### what is walked -/
/-- what stands in the one stands in the other -/
def Le (h h' : Hp) : Prop := ∀ a o, h a = some o → h' a = some o
theorem Le.kp {h h' : Hp} (q : Le h h') : Kp h h' := Kp.of q
theorem Le.trans {h h' h2 : Hp} (q : Le h h') (r : Le h' h2) : Le h h2 := fun a o e => r a o (q a o e)
/-- what is not owned stays -/
def Xt (ρ : RO) (H H' : Hp) : Prop := ∀ a o, H a = some o → some a ∉ ρ → H' a = some o
structure WalkX (K : PySem.W.Frag) (F : List Addr) (J : It) (ρ1 : RO) (H1 : Hp) (ws : List W) (Cs : List (Nat × OD)) : Prop where
  ex : ∃ (G : Hp → Prop) (Y : Nat → Hp → V → Hp → Prop), Walk J ws.length G Y ∧
    (∀ F2 ρ Ω H, (∀ c ∈ Cs, ρ[c.1]? = ρ1[c.1]? ∧ Ω[c.1]? = some c.2) → Le (hid F ρ1 H1) (hid F2 ρ H) → Xt ρ1 H1 H → Wd K F2 ρ Ω H → G H) ∧
    (∀ i H x H' F2 ρ Ω, (∀ c ∈ Cs, ρ[c.1]? = ρ1[c.1]? ∧ Ω[c.1]? = some c.2) → Le (hid F ρ1 H1) (hid F2 ρ H) → Xt ρ1 H1 H → Wd K F2 ρ Ω H → i < ws.length → Y i H x H' →
      ∃ w, ws[i]? = some w ∧ Step ρ.length ρ H ρ H' ∧ Wd K F2 ρ Ω H' ∧ RpW K F2 ρ H' x w)
def iX (K : PySem.W.Frag) (Γ : Gm) (Ω : Om) (ws : List W) (Cs : List (Nat × OD)) (Ω1 : Om) : TI := fun σ H R => ∃ F ρ, Wd K F ρ Ω H ∧ Sl K F ρ Γ σ H ∧ ∀ J ρ' H', XS ρ H ρ' H' → Wd K F ρ' Ω1 H' → WalkX K F J ρ' H' ws Cs → R J H'
def IX (X : Cx) (tg e : Expr) (Γ : Gm) (Ω : Om) (ws : List W) (Cs : List (Nat × OD)) (Ω1 : Om) : Prop := PI X tg e (iX X.K Γ Ω ws Cs Ω1)
theorem PI.wk {X : Cx} {tg e : Expr} {t t' : TI} (h : PI X tg e t) (w : ∀ σ H Q, t' σ H Q → t σ H Q) : PI X tg e t' := ⟨fun pins s σ H Q I q => h.run pins s σ H Q I (w _ _ _ q)⟩
/-- the cell that a walked list stands in -/
inductive CsOf (Ω : Om) : W → List Dt → List (Nat × OD) → Prop
  | d {ds : List Dt} : CsOf Ω (.d (.lst ds)) ds []
  | r {ns : List Int} : CsOf Ω (.d (.rl ns)) (ns.map Dt.int) []
  | l {n : Nat} {ds : List Dt} (h : Ω[n]? = some (.ls ds)) : CsOf Ω (.l n) ds [(n, .ls ds)]
theorem CsOf.ls {Ω : Om} {w : W} {ds : List Dt} {Cs : List (Nat × OD)} (h : CsOf Ω w ds Cs) : LsOf Ω w ds := by
  cases h with
  | d => exact .d
  | r => exact .r
  | l h => exact .l h
section
variable {K : PySem.W.Frag} {F : List Addr} {ρ ρ1 : RO} {H H1 H' : Hp} {Ω Ω1 : Om} {w : W} {v : V} {ds : List Dt} {Cs : List (Nat × OD)}
/-- the list is there at each later state -/
theorem CsOf.at {F2 : List Addr} (h : CsOf Ω1 w ds Cs) (r : RpW K F ρ1 H1 v w) (hc : ∀ c ∈ Cs, ρ[c.1]? = ρ1[c.1]? ∧ Ω[c.1]? = some c.2) (s : Le (hid F ρ1 H1) (hid F2 ρ H)) (hw : Wd K F2 ρ Ω H) : ∃ a vs, v = .ref a ∧ SqL K H a vs ∧ RpL K (hid F2 ρ H) vs ds := by
  cases h with
  | d =>
    have r : Rp K (hid F ρ1 H1) v (.lst ds) := r
    exact (LsOf.d (Ω := Ω)).sq hw (show RpW K F2 ρ H v (.d (.lst ds)) from Rp.mono s.kp r)
  | r =>
    rename_i ns
    have r : Rp K (hid F ρ1 H1) v (.rl ns) := r
    exact (LsOf.r (Ω := Ω)).sq hw (show RpW K F2 ρ H v (.d (.rl ns)) from Rp.mono s.kp r)
  | l h =>
    rename_i n
    obtain ⟨a, rfl, e⟩ := r
    obtain ⟨e1, e2⟩ := hc _ (List.mem_singleton.mpr rfl)
    exact (LsOf.l e2).sq hw (show RpW K F2 ρ H (.ref a) (.l n) from ⟨a, rfl, e1.trans e⟩)
theorem walkX_list {a : Addr} (h : CsOf Ω1 w ds Cs) (r : RpW K F ρ1 H1 (.ref a) w) : WalkX K F (Itl K a) ρ1 H1 (ds.map W.d) Cs := by
  refine ⟨fun H => ∃ xs, SqL K H a xs ∧ xs.length = ds.length, fun i H x H' => H' = H ∧ ∀ xs, SqL K H a xs → xs[i]? = some x, ⟨?_, ?_, ?_⟩, ?_, ?_⟩
  · rintro i H hi ⟨xs, q, e⟩
    rw [List.length_map] at hi
    exact ⟨xs, xs[i], q, by simp [show i < xs.length by omega]⟩
  · rintro H ⟨xs, q, e⟩
    exact ⟨xs, q, by rw [List.length_map]; omega⟩
  · rintro i H x H' hi ⟨xs, q, e⟩ y
    exact y
  · intro F2 ρ Ω H hc s xt hw
    obtain ⟨b, vs, eb, q, r⟩ := h.at r hc s hw
    cases eb
    exact ⟨vs, q, r.length⟩
  · rintro i H x H' F2 ρ Ω hc s xt hw hi ⟨rfl, y⟩
    obtain ⟨b, vs, eb, q, r⟩ := h.at r hc s hw
    cases eb
    obtain ⟨d, ed, rd⟩ := r.getV (y vs q)
    exact ⟨.d d, by rw [List.getElem?_map, ed]; rfl, Step.refl hw, hw, rd⟩
theorem walkX_range {lo : Int} {n : Nat} : WalkX K F (Itr lo n) ρ1 H1 ((List.range n).map fun i => .d (.int (lo + (i : Nat)))) [] := by
  refine ⟨fun _ => True, YFn fun i => .int (lo + i), ?_, fun _ _ _ _ _ _ _ _ => trivial, ?_⟩
  · rw [List.length_map, List.length_range]
    exact walk_range
  · rintro i H x H' F2 ρ Ω hc s xt hw hi ⟨rfl, rfl⟩
    rw [List.length_map, List.length_range] at hi
    exact ⟨.d (.int (lo + i)), by rw [List.getElem?_map, List.getElem?_range hi]; rfl, Step.refl hw, hw, Rp.int _⟩
theorem newT2 {T : Addr} {x y : V} {c d : Dt} (hw : Wd K F ρ Ω H) (e : H T = none) (rx : Rp K (hid F ρ H) x c) (ry : Rp K (hid F ρ H) y d) :
    Step ρ.length ρ H ρ (upd H T (.tup [x, y])) ∧ Wd K F ρ Ω (upd H T (.tup [x, y])) ∧ RpW K F ρ (upd H T (.tup [x, y])) (.ref T) (.d (.tup [c, d])) :=
  ⟨step_new hw e, hw.new e, Rp.newT hw e (.cons rx (.cons ry .nil))⟩
theorem walkX_enum {a : Addr} (h : CsOf Ω1 w ds Cs) (r : RpW K F ρ1 H1 (.ref a) w) : WalkX K F (Ite K a) ρ1 H1 (ds.zipIdx.map fun p => .d (.tup [.int (p.2 : Nat), p.1])) Cs := by
  refine ⟨fun H => ∃ xs, SqL K H a xs ∧ xs.length = ds.length, fun i H v H' => ∃ T x, v = .ref T ∧ H T = none ∧ H' = upd H T (.tup [.int (i : Nat), x]) ∧ ∀ xs, SqL K H a xs → xs[i]? = some x, ⟨?_, ?_, ?_⟩, ?_, ?_⟩
  · rintro i H hi ⟨xs, q, e⟩
    rw [List.length_map, List.length_zipIdx] at hi
    exact ⟨xs, xs[i], q, by simp [show i < xs.length by omega]⟩
  · rintro H ⟨xs, q, e⟩
    exact ⟨xs, q, by rw [List.length_map, List.length_zipIdx]; omega⟩
  · rintro i H x H' hi _ y
    exact y
  · intro F2 ρ Ω H hc s xt hw
    obtain ⟨b, vs, eb, q, r⟩ := h.at r hc s hw
    cases eb
    exact ⟨vs, q, r.length⟩
  · rintro i H v H' F2 ρ Ω hc s xt hw hi ⟨T, x, rfl, eT, rfl, y⟩
    obtain ⟨b, vs, eb, q, r⟩ := h.at r hc s hw
    cases eb
    obtain ⟨d, ed, rd⟩ := r.getV (y vs q)
    obtain ⟨z1, z2, z3⟩ := newT2 hw eT (Rp.int (i : Nat)) rd
    exact ⟨_, by rw [List.getElem?_map, List.getElem?_zipIdx, ed, Nat.zero_add]; rfl, z1, z2, z3⟩
theorem walkX_zip {a b : Addr} {w2 : W} {es : List Dt} {Cs2 : List (Nat × OD)} (h : CsOf Ω1 w ds Cs) (r : RpW K F ρ1 H1 (.ref a) w) (h2 : CsOf Ω1 w2 es Cs2) (r2 : RpW K F ρ1 H1 (.ref b) w2) :
    WalkX K F (Itz K a b) ρ1 H1 ((ds.zip es).map fun p => .d (.tup [p.1, p.2])) (Cs ++ Cs2) := by
  refine ⟨fun H => ∃ xs ys, SqL K H a xs ∧ SqL K H b ys ∧ xs.length = ds.length ∧ ys.length = es.length,
    fun i H v H' => ∃ T x y, v = .ref T ∧ H T = none ∧ H' = upd H T (.tup [x, y]) ∧ (∀ xs, SqL K H a xs → xs[i]? = some x) ∧ ∀ ys, SqL K H b ys → ys[i]? = some y, ⟨?_, ?_, ?_⟩, ?_, ?_⟩
  · rintro i H hi ⟨xs, ys, q, q2, e, e2⟩
    rw [List.length_map, List.length_zip] at hi
    exact ⟨xs, ys, xs[i], ys[i], q, q2, by simp, by simp⟩
  · rintro H ⟨xs, ys, q, q2, e, e2⟩
    refine ⟨xs, ys, q, q2, ?_⟩
    rw [List.length_map, List.length_zip]
    omega
  · rintro i H x H' hi _ y
    exact y
  · intro F2 ρ Ω H hc s xt hw
    obtain ⟨c, vs, eb, q, r⟩ := h.at r (fun c m => hc c (List.mem_append_left _ m)) s hw
    obtain ⟨c2, vs2, eb2, q2, r2⟩ := h2.at r2 (fun c m => hc c (List.mem_append_right _ m)) s hw
    cases eb
    cases eb2
    exact ⟨vs, vs2, q, q2, r.length, r2.length⟩
  · rintro i H v H' F2 ρ Ω hc s xt hw hi ⟨T, x, y, rfl, eT, rfl, y1, y2⟩
    obtain ⟨c, vs, eb, q, r⟩ := h.at r (fun c m => hc c (List.mem_append_left _ m)) s hw
    obtain ⟨c2, vs2, eb2, q2, r2⟩ := h2.at r2 (fun c m => hc c (List.mem_append_right _ m)) s hw
    cases eb
    cases eb2
    obtain ⟨d, ed, rd⟩ := r.getV (y1 vs q)
    obtain ⟨d2, ed2, rd2⟩ := r2.getV (y2 vs2 q2)
    obtain ⟨z1, z2, z3⟩ := newT2 hw eT rd rd2
    exact ⟨_, by rw [List.getElem?_map, (List.getElem?_zip_eq_some (z := (d, d2))).mpr ⟨ed, ed2⟩]; rfl, z1, z2, z3⟩
end
section
variable {X : Cx} {tg e e2 : Expr} {Γ : Gm} {Ω Ω1 Ω2 : Om} {w w2 : W} {ds es : List Dt} {Cs Cs2 : List (Nat × OD)} {p pos tpos : Pos}
theorem RpW.ref_of {K : PySem.W.Frag} {F : List Addr} {ρ : RO} {H : Hp} {v : V} (h : CsOf Ω w ds Cs) (hw : Wd K F ρ Ω H) (r : RpW K F ρ H v w) : ∃ a vs, v = .ref a ∧ SqL K H a vs := by
  obtain ⟨a, vs, e, q, _⟩ := h.ls.sq hw r
  exact ⟨a, vs, e, q⟩
theorem ix_ls (he : PX X e Γ Ω w Ω1) (h : CsOf Ω1 w ds Cs) : IX X tg e Γ Ω (ds.map W.d) Cs Ω1 :=
  PI.wk (pi_list he) fun σ H R ⟨F, ρ, hw, hs, k⟩ => ⟨F, ρ, hw, hs, fun v1 ρ1 H1 s1 w1 r1 => by
    obtain ⟨a, vs, rfl, q⟩ := RpW.ref_of h w1 r1
    exact ⟨a, rfl, ⟨vs, q⟩, k _ ρ1 H1 s1 w1 (walkX_list h r1)⟩⟩
theorem ix_range {n : Int} (ha : AX X [e] Γ Ω [.d (.int n)] Ω1) (hm : X.mg "range" = none) (hn : -(2 ^ 62) ≤ n ∧ n < 2 ^ 62) (hg : Gl X "range" := by rfl) (hs : starEach [e] X.env = [(false, eval e X.env)] := by rfl) :
    IX X tg (.Call (.Name "range" p) [e] [] pos) Γ Ω ((List.range n.toNat).map fun i => .d (.int (i : Nat))) [] Ω1 :=
  PI.wk (pi_range1 hg hm ha hs) fun σ H R ⟨F, ρ, hw, hs, k⟩ => ⟨F, ρ, hw, hs, fun vs ρ1 H1 s1 w1 r1 => by
    obtain ⟨v, rfl, r⟩ := r1.one
    obtain rfl := r.int_inv
    refine ⟨n, rfl, hn.1, hn.2, k _ ρ1 H1 s1 w1 ?_⟩
    have z := walkX_range (K := X.K) (F := F) (ρ1 := ρ1) (H1 := H1) (lo := 0) (n := n.toNat)
    simp only [Int.zero_add] at z
    exact z⟩
theorem ix_range2 {lo n : Int} (ha : AX X [e, e2] Γ Ω [.d (.int lo), .d (.int n)] Ω1) (hm : X.mg "range" = none) (hn : -(2 ^ 62) ≤ lo ∧ lo < 2 ^ 62 ∧ -(2 ^ 62) ≤ n ∧ n < 2 ^ 62) (hg : Gl X "range" := by rfl)
    (hs : starEach [e, e2] X.env = [(false, eval e X.env), (false, eval e2 X.env)] := by rfl) (hs2 : starEach [e2] X.env = [(false, eval e2 X.env)] := by rfl) :
    IX X tg (.Call (.Name "range" p) [e, e2] [] pos) Γ Ω ((List.range (n - lo).toNat).map fun i => .d (.int (lo + (i : Nat)))) [] Ω1 :=
  PI.wk (pi_range2 hg hm ha hs hs2) fun σ H R ⟨F, ρ, hw, hs, k⟩ => ⟨F, ρ, hw, hs, fun vs ρ1 H1 s1 w1 r1 => by
    obtain ⟨v, v2, rfl, r, r2⟩ := r1.two
    obtain rfl := r.int_inv
    obtain rfl := r2.int_inv
    exact ⟨lo, n, rfl, hn, k _ ρ1 H1 s1 w1 walkX_range⟩⟩
theorem ix_enum {elts : List Expr} {kk : Nat} (ha : AX X [e] Γ Ω [w] Ω1) (hm : X.mg "enumerate" = none) (h : CsOf Ω1 w ds Cs) (hg : Gl X "enumerate" := by rfl) (hs : starEach [e] X.env = [(false, eval e X.env)] := by rfl) :
    IX X (.Tuple elts kk tpos) (.Call (.Name "enumerate" p) [e] [] pos) Γ Ω (ds.zipIdx.map fun p => .d (.tup [.int (p.2 : Nat), p.1])) Cs Ω1 :=
  PI.wk (pi_enum hg hm ha hs) fun σ H R ⟨F, ρ, hw, hs, k⟩ => ⟨F, ρ, hw, hs, fun vs ρ1 H1 s1 w1 r1 => by
    obtain ⟨v, rfl, r⟩ := r1.one
    obtain ⟨a, us, rfl, q⟩ := RpW.ref_of h w1 r
    exact ⟨a, us, rfl, q, k _ ρ1 H1 s1 w1 (walkX_enum h r)⟩⟩
theorem ix_zip {elts : List Expr} {kk : Nat} (ha : AX X [e, e2] Γ Ω [w, w2] Ω1) (hm : X.mg "zip" = none) (h : CsOf Ω1 w ds Cs) (h2 : CsOf Ω1 w2 es Cs2) (hg : Gl X "zip" := by rfl)
    (hs : starEach [e, e2] X.env = (false, eval e X.env) :: starEach [e2] X.env := by rfl) (hpl : (backTo pos (starEach [e2] X.env)).any (·.1) = false := by rfl) :
    IX X (.Tuple elts kk tpos) (.Call (.Name "zip" p) [e, e2] [] pos) Γ Ω ((ds.zip es).map fun p => .d (.tup [p.1, p.2])) (Cs ++ Cs2) Ω1 :=
  PI.wk (pi_zip hg hm ha hs hpl) fun σ H R ⟨F, ρ, hw, hs, k⟩ => ⟨F, ρ, hw, hs, fun vs ρ1 H1 s1 w1 r1 => by
    obtain ⟨v, v2, rfl, r, r2⟩ := r1.two
    obtain ⟨a, us, rfl, q⟩ := RpW.ref_of h w1 r
    obtain ⟨b, us2, rfl, q2⟩ := RpW.ref_of h2 w1 r2
    exact ⟨a, b, us, us2, rfl, q, q2, k _ ρ1 H1 s1 w1 (walkX_zip h r h2 r2)⟩⟩
end

/-! ### comprehensions -/
section
variable {K : PySem.W.Frag} {F : List Addr} {ρ : RO} {H : Hp} {Ω : Om}
/-- a new list that grows: nothing else sees it -/
theorem Wd.hide (hw : Wd K F ρ Ω H) {D : Addr} {o : HO} (e : H D = none) : Wd K (D :: F) ρ Ω (upd H D o) := by
  have hn : some D ∉ ρ := hw.fresh e
  have kp : Kp (hid F ρ H) (hid (D :: F) ρ (upd H D o)) := Kp.of fun a u q => by
    have f := hid_leF q
    obtain ⟨q, n⟩ := hid_le q
    have ne : a ≠ D := ne_of_none q e
    exact hid_of (by rw [upd_ne ne]; exact q) n (fun m => (List.mem_cons.mp m).elim ne f)
  refine ⟨hw.len, hw.nd, fun n od en hg => ?_, hw.dead, fun a ha => ?_⟩
  · obtain ⟨a, ea, r⟩ := hw.ob n od en hg
    have up : ∀ o', H a = some o' → upd H D o a = some o' := fun o' q => by rw [upd_ne (ne_of_none q e)]; exact q
    have wm : ∀ v w, RpW K F ρ H v w → RpW K (D :: F) ρ (upd H D o) v w := fun v w r => by
      cases w with
      | d x => exact Rp.mono kp r
      | l n => exact r
    refine ⟨a, ea, ?_⟩
    cases od with
    | gone => trivial
    | ls ds => obtain ⟨vs, q, r⟩ := r; exact ⟨vs, up _ q, RpL.mono kp r⟩
    | lw ds => obtain ⟨vs, q, r⟩ := r; exact ⟨vs, up _ q, Paired.imp wm r⟩
    | dk ds => obtain ⟨vs, q, r⟩ := r; exact ⟨vs, up _ q, RpK.mono kp r⟩
    | dt ds => obtain ⟨vs, q, r⟩ := r; exact ⟨vs, up _ q, RpT.mono kp r⟩
    | ins C ds => obtain ⟨dx, vs, q, r⟩ := r; exact ⟨dx, vs, up _ q, Paired.imp (fun _ _ z => ⟨z.1, wm _ _ z.2⟩) r⟩
  · rcases List.mem_cons.mp ha with rfl | ha
    · exact ⟨by rw [upd_same]; exact fun z => (by cases z), hn⟩
    · have q := hw.fr a ha
      exact ⟨by rw [upd_ne (fun z => q.1 (by rw [z]; exact e))]; exact q.1, q.2⟩
end
theorem kp_hide {F : List Addr} {ρ : RO} {H : Hp} {D : Addr} : Kp (hid (D :: F) ρ H) (hid F ρ H) := Kp.of fun a u q => by
  have f := hid_leF q
  obtain ⟨q, n⟩ := hid_le q
  exact hid_of q n (fun m => f (List.mem_cons_of_mem _ m))
theorem kp_unhide {F : List Addr} {ρ : RO} {H : Hp} {D : Addr} {o : HO} (e : H D = none) : Le (hid F ρ H) (hid (D :: F) ρ (upd H D o)) := fun a u q => by
  have f := hid_leF q
  obtain ⟨q, n⟩ := hid_le q
  have ne : a ≠ D := ne_of_none q e
  exact hid_of (by rw [upd_ne ne]; exact q) n (fun m => (List.mem_cons.mp m).elim ne f)

section
variable {K : PySem.W.Frag} {F : List Addr} {ρ ρ1 : RO} {H H1 : Hp} {Ω Ω1 : Om}
theorem Wd.unhide {D : Addr} (hw : Wd K (D :: F) ρ Ω H) : Wd K F ρ Ω H := by
  refine ⟨hw.len, hw.nd, fun n od en hg => ?_, hw.dead, fun a ha => hw.fr a (List.mem_cons_of_mem _ ha)⟩
  obtain ⟨a, ea, r⟩ := hw.ob n od en hg
  have wm : ∀ v w, RpW K (D :: F) ρ H v w → RpW K F ρ H v w := fun v w r => by
    cases w with
    | d x => exact Rp.mono kp_hide r
    | l n => exact r
  refine ⟨a, ea, ?_⟩
  cases od with
  | gone => trivial
  | ls ds => obtain ⟨vs, q, r⟩ := r; exact ⟨vs, q, RpL.mono kp_hide r⟩
  | lw ds => obtain ⟨vs, q, r⟩ := r; exact ⟨vs, q, Paired.imp wm r⟩
  | dk ds => obtain ⟨vs, q, r⟩ := r; exact ⟨vs, q, RpK.mono kp_hide r⟩
  | dt ds => obtain ⟨vs, q, r⟩ := r; exact ⟨vs, q, RpT.mono kp_hide r⟩
  | ins C ds => obtain ⟨dx, vs, q, r⟩ := r; exact ⟨dx, vs, q, Paired.imp (fun _ _ z => ⟨z.1, wm _ _ z.2⟩) r⟩
theorem Sl.hide {Γ : Gm} {σ : L2.St} {D : Addr} {o : HO} (h : Sl K F ρ Γ σ H) (e : H D = none) : Sl K (D :: F) ρ Γ σ (upd H D o) :=
  ⟨h.1, fun i w q => by
    obtain ⟨v, ev, r⟩ := h.2 i w q
    refine ⟨v, ev, ?_⟩
    cases w with
    | d x => exact Rp.mono (kp_unhide e).kp r
    | l n => exact r⟩
/-- the hidden object changes -/
theorem Wd.turn {D : Addr} {o : HO} (hw : Wd K (D :: F) ρ Ω H) : Step ρ.length ρ (upd H D o) ρ (upd H D o) ∧ Wd K (D :: F) ρ Ω (upd H D o) ∧ Le (hid (D :: F) ρ H) (hid (D :: F) ρ (upd H D o)) := by
  have hD := hw.fr D (List.mem_cons_self ..)
  have lp : Le (hid (D :: F) ρ H) (hid (D :: F) ρ (upd H D o)) := fun a u q => by
    have f := hid_leF q
    obtain ⟨q, n⟩ := hid_le q
    exact hid_of (by rw [upd_ne (fun z => f (by rw [z]; exact List.mem_cons_self ..))]; exact q) n f
  have kp := lp.kp
  have w2 : Wd K (D :: F) ρ Ω (upd H D o) := by
    refine ⟨hw.len, hw.nd, fun n od en hg => ?_, hw.dead, fun a ha => ?_⟩
    · obtain ⟨a, ea, r⟩ := hw.ob n od en hg
      have up : ∀ o', H a = some o' → upd H D o a = some o' := fun o' q => by rw [upd_ne (fun z => hD.2 (by rw [← z]; exact mem_of_get ea))]; exact q
      have wm : ∀ v w, RpW K (D :: F) ρ H v w → RpW K (D :: F) ρ (upd H D o) v w := fun v w r => by
        cases w with
        | d x => exact Rp.mono kp r
        | l n => exact r
      refine ⟨a, ea, ?_⟩
      cases od with
      | gone => trivial
      | ls ds => obtain ⟨vs, q, r⟩ := r; exact ⟨vs, up _ q, RpL.mono kp r⟩
      | lw ds => obtain ⟨vs, q, r⟩ := r; exact ⟨vs, up _ q, Paired.imp wm r⟩
      | dk ds => obtain ⟨vs, q, r⟩ := r; exact ⟨vs, up _ q, RpK.mono kp r⟩
      | dt ds => obtain ⟨vs, q, r⟩ := r; exact ⟨vs, up _ q, RpT.mono kp r⟩
      | ins C ds => obtain ⟨dx, vs, q, r⟩ := r; exact ⟨dx, vs, up _ q, Paired.imp (fun _ _ z => ⟨z.1, wm _ _ z.2⟩) r⟩
    · have q := hw.fr a ha
      refine ⟨?_, q.2⟩
      by_cases z : a = D
      · subst z; rw [upd_same]; exact fun y => by cases y
      · rw [upd_ne z]; exact q.1
  exact ⟨Step.refl w2, w2, lp⟩
theorem XS.same {ρ' : RO} {H' : Hp} (s : XS ρ H ρ' H') (hw : Wd K F ρ Ω H) (hw' : Wd K F ρ' Ω H') : ρ' = ρ := by
  obtain ⟨ν, e⟩ := s.2
  have h := hw'.len
  rw [e, List.length_append, hw.len] at h
  have z : ν = [] := List.eq_nil_of_length_eq_zero (by omega)
  rw [e, z, List.append_nil]
/-- what a comprehension keeps between two turns -/
structure Cw (K : PySem.W.Frag) (F : List Addr) (ρ : RO) (Ω : Om) (H1 : Hp) (D : Addr) (ds : List Dt) (H : Hp) : Prop where
  st : Step ρ.length ρ H1 ρ H
  wd : Wd K (D :: F) ρ Ω H
  kp : Le (hid F ρ H1) (hid (D :: F) ρ H)
  at_ : ∃ acc, H D = some (.lst acc) ∧ RpL K (hid (D :: F) ρ H) acc ds
end
def tEx {α : Type} (p : α → Prop) (t : α → TE) : TE := fun σ H Q => ∃ x, p x ∧ t x σ H Q
def tExT {α : Type} (p : α → Prop) (t : α → TT) : TT := fun σ H Q => ∃ x, p x ∧ t x σ H Q
theorem PTs.ex {X : Cx} {ifs : List Expr} {α : Type} {p : α → Prop} {t : α → TT} (h : ∀ x, p x → PTs X ifs (t x)) : PTs X ifs (tExT p t) := ⟨fun pins s σ H Q I ⟨x, hp, q⟩ => (h x hp).run pins s σ H Q I q⟩
theorem PE.ex {X : Cx} {e : Expr} {α : Type} {p : α → Prop} {t : α → TE} (h : ∀ x, p x → PE X e (t x)) : PE X e (tEx p t) := ⟨fun pins s σ H Q I ⟨x, hp, q⟩ => (h x hp).run pins s σ H Q I q⟩
theorem PTs.wk {X : Cx} {e : List Expr} {t t' : TT} (h : PTs X e t) (w : ∀ σ H Q, t' σ H Q → t σ H Q) : PTs X e t' := ⟨fun pins s σ H Q I q => h.run pins s σ H Q I (w _ _ _ q)⟩
def TsX (X : Cx) (ifs : List Expr) (Γ : Gm) (Ω : Om) (b : Bool) : Prop := PTs X ifs (tTX X.K Γ Ω b Ω)
theorem tsx_nil {X : Cx} {Γ : Gm} {Ω : Om} : TsX X [] Γ Ω true := PTs.wk pts_nil fun σ H Q ⟨F, ρ, hw, hs, k⟩ => k ρ H (XS.refl hw) hw
theorem tsx_one {X : Cx} {Γ : Gm} {Ω : Om} {c : Expr} {b : Bool} (h : TX X c Γ Ω b Ω) : TsX X [c] Γ Ω b := pts_one h
section
variable {X : Cx} {elt tg iter : Expr} {ifs : List Expr} {scope : Scope} {own : List (Str × Nat)} {pos : Pos} {Γ : Gm} {Ω Ω1 : Om} {ws : List W} {Cs : List (Nat × OD)} {g : TG} {is : List Nat}
theorem filter_take_yes {α : Type} {xs : List α} {c : α → Bool} {f : α → Dt} {i : Nat} {x : α} (e : xs[i]? = some x) (h : c x = true) : ((xs.take (i + 1)).filter c).map f = ((xs.take i).filter c).map f ++ [f x] := by
  rw [List.take_add_one, e, List.filter_append, List.map_append]
  simp [h]
theorem filter_take_no {α : Type} {xs : List α} {c : α → Bool} {f : α → Dt} {i : Nat} {x : α} (e : xs[i]? = some x) (h : c x = false) : ((xs.take (i + 1)).filter c).map f = ((xs.take i).filter c).map f := by
  rw [List.take_add_one, e, List.filter_append, List.map_append]
  simp [h]
/-- the reading of a comprehension: the new list at D, hidden meanwhile -/
theorem lc_read {α : Type} (xs : List α) (enc : α → W) (Γx : α → Gm) (c : α → Bool) (f : α → Dt) {K : PySem.W.Frag} {vs : List Nat} {F : List Addr} {ρ : RO} {σ : L2.St} {H1 : Hp} {J : It} {D : Addr} {Qd : Hp → Prop}
    (hw : Wd K F ρ Ω1 H1) (hs : Sl K F ρ Γ σ H1) (hJ : WalkX K F J ρ H1 ws Cs) (hws : ws = xs.map enc) (hcs : ∀ c ∈ Cs, Ω1[c.1]? = some c.2) (hz : xs.length < sizeLine) (hD : H1 D = none)
    (hg : ∀ x ∈ xs, GX K g (wipeG Γ vs) (enc x) (Γx x) is) (his : ∀ i ∈ is, i ∈ vs)
    (hd : ∀ H, Cw K F ρ Ω1 H1 D ((xs.filter c).map f) H → Qd H) :
    ∃ W : Nat → Nat → Hp → Prop, (∃ m, W 0 m (upd H1 D (.lst []))) ∧ ∀ i m H, W i m H →
      (J.stop i H ∧ Qd H) ∨ (J.go i H ∧ ∃ Nx : Hp → Prop, (∀ H', Nx H' → ∃ m', m' < m ∧ W (i + 1) m' H') ∧ ∀ x H', J.yld i H x H' → g x (wipe σ vs) H' fun σ2 H2 => wipe σ2 vs = wipe σ vs ∧
        tExT (· ∈ xs) (fun x => tTX K (Γx x) Ω1 (c x) Ω1) σ2 H2 fun b H3 => if b = true then tEx (fun x => x ∈ xs ∧ c x = true) (fun x => tX K (Γx x) Ω1 (.d (f x)) Ω1) σ2 H3 fun y H4 => ∃ acc, H4 D = some (.lst acc) ∧ acc.length < sizeLine ∧ Nx (upd H4 D (.lst (acc ++ [y]))) else Nx H3) := by
  subst hws
  obtain ⟨G, Y, wk, hG, hY⟩ := hJ.ex
  rw [List.length_map] at wk hY
  have w0 : Wd K (D :: F) ρ Ω1 (upd H1 D (.lst [])) := hw.hide hD
  have cs : ∀ c ∈ Cs, ρ[c.1]? = ρ[c.1]? ∧ Ω1[c.1]? = some c.2 := fun c m => ⟨rfl, hcs c m⟩
  refine lc_it wk (fun i H => i ≤ xs.length ∧ Cw K F ρ Ω1 H1 D (((xs.take i).filter c).map f) H) ⟨Nat.zero_le _, ⟨step_new hw hD, w0, kp_unhide hD, [], upd_same, .nil⟩⟩ (fun i H hi p => ?_) (fun i x H H' hi p y => ?_) (fun H p => hd H (by
    have p2 := p.2
    rw [List.take_length] at p2
    exact p2))
  · exact hG _ _ _ _ cs p.2.kp p.2.st.ext p.2.wd
  · obtain ⟨w, ew, st, w', r'⟩ := hY i H x H' _ _ _ cs p.2.kp p.2.st.ext p.2.wd hi y
    rw [List.getElem?_map, List.getElem?_eq_getElem hi] at ew
    obtain rfl : enc xs[i] = w := Option.some.inj ew
    have em : xs[i] ∈ xs := List.getElem_mem hi
    have hs1 : Sl K (D :: F) ρ (wipeG Γ vs) (wipe σ vs) H := ⟨(hs.wipe vs).1, fun j u ej => by
      obtain ⟨v, ev, r⟩ := (hs.wipe vs).2 j u ej
      refine ⟨v, ev, ?_⟩
      cases u with
      | d z => exact Rp.mono p.2.kp.kp r
      | l n => exact r⟩
    have hs2 : Sl K (D :: F) ρ (wipeG Γ vs) (wipe σ vs) H' := hs1.xs ⟨st, Pre.refl ρ⟩
    have at' : ∀ {H2 : Hp}, Step ρ.length ρ H ρ H2 → ∀ {acc : List V}, H D = some (.lst acc) → H2 D = some (.lst acc) := fun s _ q => s.ext _ _ q (p.2.wd.fr D (List.mem_cons_self ..)).2
    obtain ⟨acc, ea, ra⟩ := p.2.at_
    refine hg xs[i] em (D :: F) ρ Ω1 H' x _ _ w' hs2 r' fun σ2 hs3 hv => ⟨(hv vs his).trans (by
      apply List.ext_getElem?
      intro j
      rw [wipe_get, wipe_get, wipe_length]
      by_cases z : j ∈ vs ∧ j < σ.length
      · rw [if_pos z, if_pos z]
      · rw [if_neg z, if_neg z, ]), xs[i], em, D :: F, ρ, w', hs3, fun ρ3 H3 s3 w3 => ?_⟩
    obtain rfl := s3.same w' w3
    have st3 : Step ρ3.length ρ3 H ρ3 H3 := st.trans s3.1
    cases hc : c xs[i] with
    | false =>
      refine (if_neg Bool.false_ne_true).mpr ⟨hi, p.2.st.trans st3, w3, p.2.kp.trans st3.hid, acc, at' st3 ea, ?_⟩
      rw [filter_take_no (List.getElem?_eq_getElem hi) hc]
      exact RpL.mono st3.kp ra
    | true =>
      refine (if_pos rfl).mpr ⟨xs[i], ⟨em, hc⟩, D :: F, ρ3, w3, hs3.xs s3, fun y4 ρ4 H4 s4 w4 r4 => ?_⟩
      obtain rfl := s4.same w3 w4
      have st4 : Step ρ4.length ρ4 H ρ4 H4 := st3.trans s4.1
      obtain ⟨t1, t2, t3⟩ := w4.turn (D := D) (o := .lst (acc ++ [y4]))
      refine ⟨acc, at' st4 ea, ?_, hi, ?_, t2, ?_, acc ++ [y4], upd_same, ?_⟩
      · have e1 := ra.length
        rw [List.length_map] at e1
        have e2 : ((xs.take i).filter c).length ≤ (xs.take i).length := List.length_filter_le _ _
        rw [List.length_take] at e2
        omega
      · have s5 : Step ρ4.length ρ4 H1 ρ4 H4 := p.2.st.trans st4
        refine ⟨fun a u q n => ?_, fun _ _ => rfl, fun a m => .inl m, fun a m => ?_⟩
        · rw [upd_ne (ne_of_none q hD)]
          exact s5.ext a u q n
        · rw [upd_ne (fun z => hw.trk m (by rw [z]; exact hD))]
          exact s5.trk a m
      · exact (p.2.kp.trans st4.hid).trans t3
      · rw [filter_take_yes (List.getElem?_eq_getElem hi) hc]
        exact (RpL.mono t3.kp (RpL.mono st4.kp ra)).app (.cons (Rp.mono t3.kp r4) .nil)
end
end DL
/-! D layer, part 6: comprehensions as rules; blocks and statements. -/
namespace DL
open PySem PySem.Spec PyProof.Rows L2

section
variable {K : PySem.W.Frag} {F : List Addr} {ρ ρ1 : RO} {H H1 : Hp} {Ω Ω1 : Om} {D : Addr} {ds : List Dt}
theorem hid_adopt : hid F (ρ ++ [some D]) H = hid (D :: F) ρ H := by
  funext a
  unfold hid
  have e : (some a ∈ ρ ++ [some D] ∨ a ∈ F) ↔ (some a ∈ ρ ∨ a ∈ D :: F) := by
    constructor
    · rintro (h | h)
      · rcases List.mem_append.mp h with h | h
        · exact .inl h
        · exact .inr (List.mem_cons.mpr (.inl (Option.some.inj (List.mem_singleton.mp h))))
      · exact .inr (List.mem_cons.mpr (.inr h))
    · rintro (h | h)
      · exact .inl (List.mem_append_left _ h)
      · rcases List.mem_cons.mp h with h | h
        · exact .inl (List.mem_append_right _ (List.mem_singleton.mpr (congrArg some h)))
        · exact .inr h
  by_cases h : some a ∈ ρ ∨ a ∈ D :: F
  · rw [if_pos h, if_pos (e.mpr h)]
  · rw [if_neg h, if_neg (fun q => h (e.mp q))]
theorem RpW.adopt {v : V} {w : W} (r : RpW K (D :: F) ρ H v w) : RpW K F (ρ ++ [some D]) H v w := by
  cases w with
  | d x =>
    show Rp K (hid F (ρ ++ [some D]) H) v x
    rw [hid_adopt]
    exact r
  | l n =>
    obtain ⟨a, e, q⟩ := r
    exact ⟨a, e, Pre.get (ρ' := ρ ++ [some D]) ⟨_, rfl⟩ q⟩
/-- the hidden object becomes an owned cell -/
theorem Wd.adopt {od : OD} (hw : Wd K (D :: F) ρ Ω H) (nF : D ∉ F) (hg : od ≠ .gone) (r : RpO K F (ρ ++ [some D]) H D od) : Wd K F (ρ ++ [some D]) (Ω ++ [od]) H := by
  have p : Pre ρ (ρ ++ [some D]) := ⟨_, rfl⟩
  have hD := hw.fr D (List.mem_cons_self ..)
  have last : ∀ (i : Nat) (a : Addr), (ρ ++ [some D])[i]? = some (some a) → (ρ[i]? = some (some a) ∧ i < ρ.length) ∨ (i = ρ.length ∧ a = D) := fun i a q => by
    by_cases hi : i < ρ.length
    · rw [List.getElem?_append_left hi] at q; exact .inl ⟨q, hi⟩
    · have hl := (List.getElem?_eq_some_iff.mp q).1
      rw [List.length_append] at hl
      simp only [List.length_cons, List.length_nil] at hl
      have hi2 : i = ρ.length := by omega
      subst hi2
      rw [List.getElem?_append_right (Nat.le_refl _), Nat.sub_self] at q
      simp at q
      exact .inr ⟨rfl, q.symm⟩
  refine ⟨by rw [List.length_append, List.length_append, hw.len]; rfl, fun i j a e1 e2 => ?_, fun n q en hq => ?_, fun n en => ?_, fun a ha => ⟨(hw.fr a (List.mem_cons_of_mem _ ha)).1, fun m => ?_⟩⟩
  · rcases last i a e1 with ⟨q1, l1⟩ | ⟨q1, z1⟩ <;> rcases last j a e2 with ⟨q2, l2⟩ | ⟨q2, z2⟩
    · exact hw.nd i j a q1 q2
    · subst z2; exact (hD.2 (mem_of_get q1)).elim
    · subst z1; exact (hD.2 (mem_of_get q2)).elim
    · rw [q1, q2]
  · by_cases hn : n < Ω.length
    · rw [List.getElem?_append_left hn] at en
      obtain ⟨a, ea, ra⟩ := hw.ob n q en hq
      refine ⟨a, p.get ea, ?_⟩
      cases q with
      | gone => trivial
      | ls ds => obtain ⟨vs, y, z⟩ := ra; exact ⟨vs, y, by rw [hid_adopt]; exact z⟩
      | lw ds => obtain ⟨vs, y, z⟩ := ra; exact ⟨vs, y, Paired.imp (fun _ _ u => RpW.adopt u) z⟩
      | dk ds => obtain ⟨vs, y, z⟩ := ra; exact ⟨vs, y, by rw [hid_adopt]; exact z⟩
      | dt ds => obtain ⟨vs, y, z⟩ := ra; exact ⟨vs, y, by rw [hid_adopt]; exact z⟩
      | ins C ds => obtain ⟨dx, vs, y, z⟩ := ra; exact ⟨dx, vs, y, Paired.imp (fun _ _ u => ⟨u.1, RpW.adopt u.2⟩) z⟩
    · have hl := (List.getElem?_eq_some_iff.mp en).1
      rw [List.length_append] at hl
      simp only [List.length_cons, List.length_nil] at hl
      have hi2 : n = Ω.length := by omega
      subst hi2
      rw [List.getElem?_append_right (Nat.le_refl _), Nat.sub_self] at en
      simp at en
      subst en
      refine ⟨D, ?_, r⟩
      rw [List.getElem?_append_right (by rw [hw.len]; exact Nat.le_refl _), hw.len, Nat.sub_self]
      rfl
  · by_cases hn : n < Ω.length
    · rw [List.getElem?_append_left hn] at en
      exact p.get (hw.dead n en)
    · have hl := (List.getElem?_eq_some_iff.mp en).1
      rw [List.length_append] at hl
      simp only [List.length_cons, List.length_nil] at hl
      have hi2 : n = Ω.length := by omega
      subst hi2
      rw [List.getElem?_append_right (Nat.le_refl _), Nat.sub_self] at en
      simp at en
      exact (hg en).elim
  · rcases List.mem_append.mp m with q | q
    · exact (hw.fr a (List.mem_cons_of_mem _ ha)).2 q
    · simp at q; subst q; exact nF ha
end
section
variable {X : Cx} {elt tg iter : Expr} {ifs : List Expr} {scope : Scope} {own : List (Str × Nat)} {pos : Pos} {Γ : Gm} {Ω Ω1 : Om} {ws : List W} {Cs : List (Nat × OD)} {g : TG} {is : List Nat}
theorem lc_pe {α : Type} (xs : List α) (enc : α → W) (Γx : α → Gm) (c : α → Bool) (f : α → Dt) {w : W} {Ω2 : Om}
    (hend : ∀ (F : List Addr) (ρ : RO) (H1 H : Hp) (D : Addr) (Q : VK), Wd X.K F ρ Ω1 H1 → H1 D = none → Cw X.K F ρ Ω1 H1 D ((xs.filter c).map f) H → Kont X.K F ρ H1 Ω2 w Q → Q (.ref D) H)
    (hc : X.calm = true) (hN : X.N.Nodup) (hi : IX X tg iter Γ Ω ws Cs Ω1) (ok : BlkOk X.N X.env.scope scope own) (hws : ws = xs.map enc) (hcs : ∀ c ∈ Cs, Ω1[c.1]? = some c.2) (hz : xs.length < sizeLine)
    (hpg : ∀ (s : Shared) (H : Hp) (C : Addr) (cl : List (Str × Addr)) (fp : List Addr), PG (X.blk s H scope (compEnvC scope cl C X.env) fp) tg g)
    (hg : ∀ x ∈ xs, GX X.K g (wipeG Γ (own.map (·.2))) (enc x) (Γx x) is) (his : ∀ i ∈ is, i ∈ own.map (·.2))
    (ht : ∀ x ∈ xs, ∀ (s : Shared) (H : Hp) (C : Addr) (cl : List (Str × Addr)) (fp : List Addr), TsX (X.blk s H scope (compEnvC scope cl C X.env) fp) ifs (Γx x) Ω1 (c x))
    (he : ∀ x ∈ xs, c x = true → ∀ (s : Shared) (H : Hp) (C : Addr) (cl : List (Str × Addr)) (fp : List Addr), PX (X.blk s H scope (compEnvC scope cl C X.env) fp) elt (Γx x) Ω1 (.d (f x)) Ω1)
    (hs : ∀ x, foldedSetIterable iter X.env x = pure x := by intro _; rfl) : PX X (.ListComp elt [⟨tg, iter, ifs, 0⟩] scope pos) Γ Ω w Ω2 :=
  PE.wk (pe_lc hc hN hi ok hpg (fun s H C cl fp => PTs.ex (p := (· ∈ xs)) (t := fun x => tTX X.K (Γx x) Ω1 (c x) Ω1) fun x hx => ht x hx s H C cl fp) (fun s H C cl fp => PE.ex (p := fun x => x ∈ xs ∧ c x = true) (t := fun x => tX X.K (Γx x) Ω1 (.d (f x)) Ω1) fun x hx => he x hx.1 hx.2 s H C cl fp) hs)
    fun σ H Q ⟨F, ρ, hw, hs, k⟩ => ⟨F, ρ, hw, hs, fun J ρ1 H1 s1 w1 wx => fun D hD => lc_read xs enc Γx c f w1 (hs.xs s1) wx hws hcs hz hD hg his fun H2 cw => hend F ρ1 H1 H2 D Q w1 hD cw (k.go s1)⟩
theorem lc_endD {K : PySem.W.Frag} {ds : List Dt} (F : List Addr) (ρ : RO) (H1 H : Hp) (D : Addr) (Q : VK) (w1 : Wd K F ρ Ω1 H1) (hD : H1 D = none) (cw : Cw K F ρ Ω1 H1 D ds H) (k : Kont K F ρ H1 Ω1 (.d (.lst ds)) Q) : Q (.ref D) H := by
  obtain ⟨acc, ea, ra⟩ := cw.at_
  exact k _ ρ H ⟨cw.st, Pre.refl ρ⟩ cw.wd.unhide (Rp.lst (.inl (hid_of ea (cw.wd.fr D (List.mem_cons_self ..)).2 (fun m => (w1.fr D m).1 hD))) (RpL.mono kp_hide ra))
theorem lc_endO {K : PySem.W.Frag} {ds : List Dt} (F : List Addr) (ρ : RO) (H1 H : Hp) (D : Addr) (Q : VK) (w1 : Wd K F ρ Ω1 H1) (hD : H1 D = none) (cw : Cw K F ρ Ω1 H1 D ds H) (k : Kont K F ρ H1 (Ω1 ++ [.ls ds]) (.l Ω1.length) Q) : Q (.ref D) H := by
  obtain ⟨acc, ea, ra⟩ := cw.at_
  have nF : D ∉ F := fun m => (w1.fr D m).1 hD
  have p : Pre ρ (ρ ++ [some D]) := ⟨_, rfl⟩
  have w2 : Wd K F (ρ ++ [some D]) (Ω1 ++ [.ls ds]) H := cw.wd.adopt nF (fun z => by cases z) ⟨acc, ea, by rw [hid_adopt]; exact ra⟩
  have st : Step ρ.length ρ H1 (ρ ++ [some D]) H := ⟨cw.st.ext, fun n hn => p.old hn, fun a m => by
    rcases List.mem_append.mp m with q | q
    · exact .inl q
    · simp at q; subst q; exact .inr hD, cw.st.trk⟩
  refine k _ _ H ⟨st, p⟩ w2 ⟨D, rfl, ?_⟩
  rw [← w1.len, List.getElem?_append_right (Nat.le_refl _), Nat.sub_self]
  rfl
/-- a comprehension as data -/
theorem px_lc {α : Type} (xs : List α) (enc : α → W) (Γx : α → Gm) (c : α → Bool) (f : α → Dt) (hc : X.calm = true) (hN : X.N.Nodup) (hi : IX X tg iter Γ Ω ws Cs Ω1) (ok : BlkOk X.N X.env.scope scope own) (hws : ws = xs.map enc) (hcs : ∀ c ∈ Cs, Ω1[c.1]? = some c.2) (hz : xs.length < sizeLine)
    (hpg : ∀ (s : Shared) (H : Hp) (C : Addr) (cl : List (Str × Addr)) (fp : List Addr), PG (X.blk s H scope (compEnvC scope cl C X.env) fp) tg g)
    (hg : ∀ x ∈ xs, GX X.K g (wipeG Γ (own.map (·.2))) (enc x) (Γx x) is) (his : ∀ i ∈ is, i ∈ own.map (·.2))
    (ht : ∀ x ∈ xs, ∀ (s : Shared) (H : Hp) (C : Addr) (cl : List (Str × Addr)) (fp : List Addr), TsX (X.blk s H scope (compEnvC scope cl C X.env) fp) ifs (Γx x) Ω1 (c x))
    (he : ∀ x ∈ xs, c x = true → ∀ (s : Shared) (H : Hp) (C : Addr) (cl : List (Str × Addr)) (fp : List Addr), PX (X.blk s H scope (compEnvC scope cl C X.env) fp) elt (Γx x) Ω1 (.d (f x)) Ω1)
    (hs : ∀ x, foldedSetIterable iter X.env x = pure x := by intro _; rfl) : PX X (.ListComp elt [⟨tg, iter, ifs, 0⟩] scope pos) Γ Ω (.d (.lst ((xs.filter c).map f))) Ω1 :=
  lc_pe xs enc Γx c f lc_endD hc hN hi ok hws hcs hz hpg hg his ht he hs
/-- .. owned -/
theorem px_lcO {α : Type} (xs : List α) (enc : α → W) (Γx : α → Gm) (c : α → Bool) (f : α → Dt) (hc : X.calm = true) (hN : X.N.Nodup) (hi : IX X tg iter Γ Ω ws Cs Ω1) (ok : BlkOk X.N X.env.scope scope own) (hws : ws = xs.map enc) (hcs : ∀ c ∈ Cs, Ω1[c.1]? = some c.2) (hz : xs.length < sizeLine)
    (hpg : ∀ (s : Shared) (H : Hp) (C : Addr) (cl : List (Str × Addr)) (fp : List Addr), PG (X.blk s H scope (compEnvC scope cl C X.env) fp) tg g)
    (hg : ∀ x ∈ xs, GX X.K g (wipeG Γ (own.map (·.2))) (enc x) (Γx x) is) (his : ∀ i ∈ is, i ∈ own.map (·.2))
    (ht : ∀ x ∈ xs, ∀ (s : Shared) (H : Hp) (C : Addr) (cl : List (Str × Addr)) (fp : List Addr), TsX (X.blk s H scope (compEnvC scope cl C X.env) fp) ifs (Γx x) Ω1 (c x))
    (he : ∀ x ∈ xs, c x = true → ∀ (s : Shared) (H : Hp) (C : Addr) (cl : List (Str × Addr)) (fp : List Addr), PX (X.blk s H scope (compEnvC scope cl C X.env) fp) elt (Γx x) Ω1 (.d (f x)) Ω1)
    (hs : ∀ x, foldedSetIterable iter X.env x = pure x := by intro _; rfl) : PX X (.ListComp elt [⟨tg, iter, ifs, 0⟩] scope pos) Γ Ω (.l Ω1.length) (Ω1 ++ [.ls ((xs.filter c).map f)]) :=
  lc_pe xs enc Γx c f lc_endO hc hN hi ok hws hcs hz hpg hg his ht he hs
end

/-! ### blocks -/
structure Post where
  nx : Gm → Om → Prop
  rt : W → Om → Prop
  bk : Gm → Om → Prop := fun _ _ => False
  ct : Gm → Om → Prop := fun _ _ => False
def tB (K : PySem.W.Frag) (k : Nat) (Γ : Gm) (Ω : Om) (P : Post) : TS := fun D σ H => ∃ F ρ, Wd K F ρ Ω H ∧ Sl K F ρ Γ σ H ∧
  (∀ ρ' σ' H' Γ' Ω', Step k ρ H ρ' H' → Wd K F ρ' Ω' H' → Sl K F ρ' Γ' σ' H' → P.nx Γ' Ω' → D.nx σ' H') ∧
  (∀ v w ρ' H' Ω', Step k ρ H ρ' H' → Wd K F ρ' Ω' H' → RpW K F ρ' H' v w → P.rt w Ω' → D.rt v H') ∧
  (∀ ρ' σ' H' Γ' Ω', Step k ρ H ρ' H' → Wd K F ρ' Ω' H' → Sl K F ρ' Γ' σ' H' → P.bk Γ' Ω' → D.bk σ' H') ∧
  (∀ ρ' σ' H' Γ' Ω', Step k ρ H ρ' H' → Wd K F ρ' Ω' H' → Sl K F ρ' Γ' σ' H' → P.ct Γ' Ω' → D.ct σ' H')
/-- the statement, the block, run from Γ, Ω: P behind it; the first k cells stay -/
def SX (X : Cx) (k : Nat) (st : Stmt) (Γ : Gm) (Ω : Om) (P : Post) : Prop := PS X st (tB X.K k Γ Ω P)
def BX (X : Cx) (k : Nat) (sts : List Stmt) (Γ : Gm) (Ω : Om) (P : Post) : Prop := PSs X sts (tB X.K k Γ Ω P)
def tExS {α : Type} (p : α → Prop) (t : α → TS) : TS := fun D σ H => ∃ x, p x ∧ t x D σ H
theorem PSs.ex {X : Cx} {sts : List Stmt} {α : Type} {p : α → Prop} {t : α → TS} (h : ∀ x, p x → PSs X sts (t x)) : PSs X sts (tExS p t) := ⟨fun pins s σ H D I ⟨x, hp, q⟩ => (h x hp).run pins s σ H D I q⟩
section
variable {X : Cx} {k : Nat} {st : Stmt} {sts rest : List Stmt} {Γ Γ1 Γ2 : Gm} {Ω Ω1 Ω2 : Om} {P : Post} {e c : Expr} {w : W} {pos : Pos} {p : Bool}
theorem bx_cons (h : SX X k st Γ Ω { P with nx := fun Γ' Ω' => BX X k rest Γ' Ω' P }) : BX X k (st :: rest) Γ Ω P := by
  have h2 : PSs X rest (tExS (fun z : Gm × Om => BX X k rest z.1 z.2 P) fun z => tB X.K k z.1 z.2 P) := PSs.ex fun z hz => hz
  refine PSs.wk (pss_cons h h2) fun D σ H ⟨F, ρ, hw, hs, kn, kr, kb, kc⟩ => ⟨F, ρ, hw, hs, fun ρ' σ' H' Γ' Ω' s w' l' q => ?_, kr, kb, kc⟩
  exact ⟨(Γ', Ω'), q, F, ρ', w', l', fun ρ2 σ2 H2 Γ2 Ω2 s2 => kn ρ2 σ2 H2 Γ2 Ω2 (s.trans s2), fun v w ρ2 H2 Ω2 s2 => kr v w ρ2 H2 Ω2 (s.trans s2), fun ρ2 σ2 H2 Γ2 Ω2 s2 => kb ρ2 σ2 H2 Γ2 Ω2 (s.trans s2), fun ρ2 σ2 H2 Γ2 Ω2 s2 => kc ρ2 σ2 H2 Γ2 Ω2 (s.trans s2)⟩
theorem bx_nil (h : P.nx Γ Ω) : BX X k [] Γ Ω P := PSs.wk pss_nil fun D σ H ⟨F, ρ, hw, hs, kn, kr, kb, kc⟩ => kn ρ σ H Γ Ω (Step.refl hw) hw hs h
theorem sx_imp {P' : Post} (h : SX X k st Γ Ω P) (n : ∀ Γ' Ω', P.nx Γ' Ω' → P'.nx Γ' Ω') (r : ∀ w Ω', P.rt w Ω' → P'.rt w Ω') (b : ∀ Γ' Ω', P.bk Γ' Ω' → P'.bk Γ' Ω') (c : ∀ Γ' Ω', P.ct Γ' Ω' → P'.ct Γ' Ω') : SX X k st Γ Ω P' :=
  PS.wk h fun D σ H ⟨F, ρ, hw, hs, kn, kr, kb, kc⟩ => ⟨F, ρ, hw, hs, fun ρ' σ' H' Γ' Ω' s w l q => kn ρ' σ' H' Γ' Ω' s w l (n _ _ q), fun v w ρ' H' Ω' s wd rp q => kr v w ρ' H' Ω' s wd rp (r _ _ q), fun ρ' σ' H' Γ' Ω' s w l q => kb ρ' σ' H' Γ' Ω' s w l (b _ _ q), fun ρ' σ' H' Γ' Ω' s w l q => kc ρ' σ' H' Γ' Ω' s w l (c _ _ q)⟩
/-- expressions in blocks: the first k cells are among those that stand -/
theorem XS.step {ρ ρ' : RO} {H H' : Hp} (s : XS ρ H ρ' H') (h : k ≤ ρ.length) : Step k ρ H ρ' H' := s.1.le h
theorem sx_asg {tg : Expr} {g : TG} {is : List Nat} (hk : k ≤ Ω.length) (he : PX X e Γ Ω w Ω1) (hpg : PG X tg g) (hg : GX X.K g Γ w Γ1 is) (hP : P.nx Γ1 Ω1) (hs : swapsWithSole [tg] e pos.line X.env = pure false := by rfl) (hw : swappedStores [tg] e X.env = pure none := by rfl)
    (h1 : (assignEach [tg] X.env).map (·.2) = [assign tg X.env] := by rfl) : SX X k (.Assign [tg] e pos) Γ Ω P :=
  PS.wk (ps_asg he hpg hs hw h1) fun D σ H ⟨F, ρ, hw, hs, kn, kr, kb, kc⟩ => ⟨F, ρ, hw, hs, fun v1 ρ1 H1 s1 w1 r1 => hg F ρ1 Ω1 H1 v1 σ _ w1 (hs.xs s1) r1 fun σ' l' _ => kn ρ1 σ' H1 Γ1 Ω1 (s1.step (by rw [hw.len]; exact hk)) w1 l' hP⟩
theorem sx_expr (hk : k ≤ Ω.length) (he : PX X e Γ Ω w Ω1) (hP : P.nx Γ Ω1) (hs : swapsWith e none pos.line X.env = pure false := by rfl) : SX X k (.Expr e pos) Γ Ω P :=
  PS.wk (ps_expr he hs) fun D σ H ⟨F, ρ, hw, hs, kn, kr, kb, kc⟩ => ⟨F, ρ, hw, hs, fun v1 ρ1 H1 s1 w1 r1 => kn ρ1 σ H1 Γ Ω1 (s1.step (by rw [hw.len]; exact hk)) w1 (hs.xs s1) hP⟩
theorem sx_ret (hk : k ≤ Ω.length) (he : PX X e Γ Ω w Ω1) (hP : P.rt w Ω1) : SX X k (.Return (some e) pos) Γ Ω P :=
  PS.wk (ps_ret he) fun D σ H ⟨F, ρ, hw, hs, kn, kr, kb, kc⟩ => ⟨F, ρ, hw, hs, fun v1 ρ1 H1 s1 w1 r1 => kr v1 w ρ1 H1 Ω1 (s1.step (by rw [hw.len]; exact hk)) w1 r1 hP⟩
theorem sx_retN (hP : P.rt (.d .non) Ω) : SX X k (.Return none pos) Γ Ω P :=
  PS.wk ps_retN fun D σ H ⟨F, ρ, hw, hs, kn, kr, kb, kc⟩ => kr .non (.d .non) ρ H Ω (Step.refl hw) hw Rp.non hP
theorem sx_pass (hP : P.nx Γ Ω) : SX X k (.Pass pos) Γ Ω P := PS.wk ps_pass fun D σ H ⟨F, ρ, hw, hs, kn, kr, kb, kc⟩ => kn ρ σ H Γ Ω (Step.refl hw) hw hs hP
theorem sx_break (hP : P.bk Γ Ω) : SX X k (.Break pos) Γ Ω P := PS.wk ps_break fun D σ H ⟨F, ρ, hw, hs, kn, kr, kb, kc⟩ => kb ρ σ H Γ Ω (Step.refl hw) hw hs hP
theorem sx_continue (hP : P.ct Γ Ω) : SX X k (.Continue pos) Γ Ω P := PS.wk ps_continue fun D σ H ⟨F, ρ, hw, hs, kn, kr, kb, kc⟩ => kc ρ σ H Γ Ω (Step.refl hw) hw hs hP
theorem sx_never (h : False) : SX X k st Γ Ω P := h.elim
theorem bx_never (h : False) : BX X k sts Γ Ω P := h.elim
theorem sx_if {a b : List Stmt} (hk : k ≤ Ω.length) (hc : TX X c Γ Ω p Ω1) (ha : p = true → BX X k a Γ Ω1 P) (hb : p = false → BX X k b Γ Ω1 P) : SX X k (.If c a b pos) Γ Ω P := by
  have ha' : PSs X a (tExS (fun _ : Unit => p = true) fun _ => tB X.K k Γ Ω1 P) := PSs.ex fun _ h => ha h
  have hb' : PSs X b (tExS (fun _ : Unit => p = false) fun _ => tB X.K k Γ Ω1 P) := PSs.ex fun _ h => hb h
  refine PS.wk (ps_if hc ha' hb') fun D σ H ⟨F, ρ, hw, hs, kn, kr, kb, kc⟩ => ⟨F, ρ, hw, hs, fun ρ1 H1 s1 w1 => ?_⟩
  have s := s1.step (k := k) (by rw [hw.len]; exact hk)
  cases p with
  | true => exact ⟨(), rfl, F, ρ1, w1, hs.xs s1, fun ρ2 σ2 H2 Γ2 Ω2 s2 => kn ρ2 σ2 H2 Γ2 Ω2 (s.trans s2), fun v w ρ2 H2 Ω2 s2 => kr v w ρ2 H2 Ω2 (s.trans s2), fun ρ2 σ2 H2 Γ2 Ω2 s2 => kb ρ2 σ2 H2 Γ2 Ω2 (s.trans s2), fun ρ2 σ2 H2 Γ2 Ω2 s2 => kc ρ2 σ2 H2 Γ2 Ω2 (s.trans s2)⟩
  | false => exact ⟨(), rfl, F, ρ1, w1, hs.xs s1, fun ρ2 σ2 H2 Γ2 Ω2 s2 => kn ρ2 σ2 H2 Γ2 Ω2 (s.trans s2), fun v w ρ2 H2 Ω2 s2 => kr v w ρ2 H2 Ω2 (s.trans s2), fun ρ2 σ2 H2 Γ2 Ω2 s2 => kb ρ2 σ2 H2 Γ2 Ω2 (s.trans s2), fun ρ2 σ2 H2 Γ2 Ω2 s2 => kc ρ2 σ2 H2 Γ2 Ω2 (s.trans s2)⟩
/-- x op= e, ints at a name -/
theorem sx_aug {op : Operator} {f : Int → Int → Int} {i : Nat} {x : Str} {px : Pos} {a b : Int} (hk : k ≤ Ω.length) (hp : PIp X op (ipI f)) (hG : Γ[i]? = some (some (.d (.int a)))) (he : PX X e Γ Ω (.d (.int b)) Ω1) (hP : P.nx (Γ.set i (some (.d (.int (f a b))))) Ω1) (hN : X.N.Nodup) (hi : X.N[i]? = some x := by rfl) (hx : L2.Loc X.env.scope x := by first | exact Or.inl rfl | exact Or.inr rfl)
    (hf : X.fn x = true ∨ X.env.scope.names.lookup x = some .local := by first | exact .inl rfl | exact .inr rfl) : SX X k (.AugAssign (.Name x px) op e pos) Γ Ω P :=
  PS.wk (ps_aug hN hi hx he hp hf) fun D σ H ⟨F, ρ, hw, hs, kn, kr, kb, kc⟩ => by
    obtain ⟨v, ev, rv⟩ := hs.2 i _ hG
    obtain rfl := rv.int_inv
    refine ⟨_, ev, F, ρ, hw, hs, fun v1 ρ1 H1 s1 w1 r1 => ?_⟩
    obtain rfl := r1.int_inv
    exact ⟨a, b, rfl, rfl, kn ρ1 _ H1 _ Ω1 (s1.step (by rw [hw.len]; exact hk)) w1 ((hs.xs s1).set (w := .d (.int (f a b))) (Rp.int _) i) hP⟩
/-- a for: I by what is gone through, St by the slots and cells -/
theorem sx_for {α : Type} (xs : List α) (enc : α → W) {tg iter : Expr} {body : List Stmt} {ws : List W} {Cs : List (Nat × OD)} {g : TG} {is : List Nat} (I : Nat → Gm → Om → Prop) (Γx : Nat → α → Gm → Gm) (hk : k ≤ Ω.length) (hi : IX X tg iter Γ Ω ws Cs Ω1) (hws : ws = xs.map enc) (h0 : I 0 Γ Ω1)
    (hcs : ∀ i Γ' Ω', I i Γ' Ω' → ∀ c ∈ Cs, Ω'[c.1]? = some c.2) (hpg : PG X tg g)
    (hg : ∀ i x Γ' Ω', xs[i]? = some x → I i Γ' Ω' → GX X.K g Γ' (enc x) (Γx i x Γ') is)
    (hs : ∀ i x Γ' Ω', xs[i]? = some x → I i Γ' Ω' → BX X Ω1.length body (Γx i x Γ') Ω' { nx := I (i + 1), ct := I (i + 1), bk := P.nx, rt := P.rt })
    (hd : ∀ Γ' Ω', I xs.length Γ' Ω' → P.nx Γ' Ω') (hp : PassesOwn (model X.prog X.w) X.A X.env X.xe) (hc : X.calm = true := by rfl) (hf : ∀ x, foldedSetIterable iter X.env x = pure x := by intro _; rfl) (hk1 : Ω.length ≤ Ω1.length := by first | exact Nat.le_refl _ | (simp; done)) : SX X k (.For tg iter body [] pos) Γ Ω P := by
  have hb : PSs X body (tExS (fun z : Nat × α × Gm × Om => xs[z.1]? = some z.2.1 ∧ I z.1 z.2.2.1 z.2.2.2) fun z => tB X.K Ω1.length (Γx z.1 z.2.1 z.2.2.1) z.2.2.2 { nx := I (z.1 + 1), ct := I (z.1 + 1), bk := P.nx, rt := P.rt }) := PSs.ex fun z hz => hs _ _ _ _ hz.1 hz.2
  refine PS.wk (ps_for hp hc hi hpg hb hf) fun D σ H ⟨F, ρ, hw, hl, kn, kr, kb, kc⟩ => ⟨F, ρ, hw, hl, fun J ρ1 H1 s1 w1 wx => ?_⟩
  subst hws
  obtain ⟨G, Y, wk, hG, hY⟩ := wx.ex
  rw [List.length_map] at wk hY
  have hkρ : k ≤ ρ.length := by rw [hw.len]; exact hk
  have s1' : Step k ρ H ρ1 H1 := s1.step hkρ
  have hk2 : k ≤ Ω1.length := Nat.le_trans hk hk1
  refine for_it (D := D) wk (fun i σ' H' => ∃ ρ' Γ' Ω', Step Ω1.length ρ1 H1 ρ' H' ∧ Wd X.K F ρ' Ω' H' ∧ Sl X.K F ρ' Γ' σ' H' ∧ I i Γ' Ω') ⟨ρ1, Γ, Ω1, Step.refl w1, w1, hl.xs s1, h0⟩ (fun i σ' H' hi' ⟨ρ', Γ', Ω', s', w', l', i'⟩ => ?_) (fun i x σ' H' H'' hi' ⟨ρ', Γ', Ω', s', w', l', i'⟩ y => ?_) (fun σ' H' ⟨ρ', Γ', Ω', s', w', l', i'⟩ => kn ρ' σ' H' Γ' Ω' (s1'.trans (s'.le hk2)) w' l' (hd _ _ i'))
  · exact hG F ρ' Ω' H' (fun c m => ⟨s'.old _ (by
      have := (List.getElem?_eq_some_iff.mp (hcs 0 Γ Ω1 h0 c m)).1
      exact this), hcs i Γ' Ω' i' c m⟩) s'.hid s'.ext w'
  · obtain ⟨w, ew, st, w2, r2⟩ := hY i H' x H'' F ρ' Ω' (fun c m => ⟨s'.old _ (by
      have := (List.getElem?_eq_some_iff.mp (hcs 0 Γ Ω1 h0 c m)).1
      exact this), hcs i Γ' Ω' i' c m⟩) s'.hid s'.ext w' hi' y
    rw [List.getElem?_map, List.getElem?_eq_getElem hi'] at ew
    obtain rfl : enc xs[i] = w := Option.some.inj ew
    have ex : xs[i]? = some xs[i] := List.getElem?_eq_getElem hi'
    refine hg i xs[i] Γ' Ω' ex i' F ρ' Ω' H'' x σ' _ w2 (l'.xs ⟨st, Pre.refl ρ'⟩) r2 fun σ2 l2 _ => ?_
    have hn : Ω1.length ≤ ρ'.length ∨ ρ'.length < Ω1.length := by omega
    have st' : Step Ω1.length ρ' H' ρ' H'' := ⟨st.ext, fun _ _ => rfl, fun a m => .inl m, st.trk⟩
    have s2 := s'.trans st'
    refine ⟨(i, xs[i], Γ', Ω'), ⟨ex, i'⟩, F, ρ', w2, l2, ?_, ?_, ?_, ?_⟩
    · exact fun ρ3 σ3 H3 Γ3 Ω3 s3 w3 l3 i3 => ⟨ρ3, Γ3, Ω3, s2.trans s3, w3, l3, i3⟩
    · exact fun v w ρ3 H3 Ω3 s3 w3 r3 q => kr v w ρ3 H3 Ω3 (s1'.trans ((s2.trans s3).le hk2)) w3 r3 q
    · exact fun ρ3 σ3 H3 Γ3 Ω3 s3 w3 l3 q => kn ρ3 σ3 H3 Γ3 Ω3 (s1'.trans ((s2.trans s3).le hk2)) w3 l3 q
    · exact fun ρ3 σ3 H3 Γ3 Ω3 s3 w3 l3 i3 => ⟨ρ3, Γ3, Ω3, s2.trans s3, w3, l3, i3⟩
/-- a while: I by its measure -/
theorem sx_while {body : List Stmt} (I : Nat → Gm → Om → Prop) (b : Nat → Gm → Om → Bool) (Om1 : Nat → Gm → Om → Om) (n : Nat) (h0 : I n Γ Ω)
    (ht : ∀ m Γ' Ω', I m Γ' Ω' → TX X c Γ' Ω' (b m Γ' Ω') (Om1 m Γ' Ω')) (hk : ∀ m Γ' Ω', I m Γ' Ω' → Ω.length ≤ Ω'.length)
    (hs : ∀ m Γ' Ω', I m Γ' Ω' → b m Γ' Ω' = true → BX X Ω.length body Γ' (Om1 m Γ' Ω') { nx := fun Γ2 Ω2 => ∃ m', m' < m ∧ I m' Γ2 Ω2, ct := fun Γ2 Ω2 => ∃ m', m' < m ∧ I m' Γ2 Ω2, bk := P.nx, rt := P.rt })
    (hd : ∀ m Γ' Ω', I m Γ' Ω' → b m Γ' Ω' = false → P.nx Γ' (Om1 m Γ' Ω')) (hp : PassesOwn (model X.prog X.w) X.A X.env X.xe) (hk0 : k ≤ Ω.length) : SX X k (.While c body [] pos) Γ Ω P := by
  have hc' : PT X c (fun σ H Q => ∃ z : Nat × Gm × Om, I z.1 z.2.1 z.2.2 ∧ tTX X.K z.2.1 z.2.2 (b z.1 z.2.1 z.2.2) (Om1 z.1 z.2.1 z.2.2) σ H Q) := ⟨fun pins s σ H Q I' ⟨z, hz, q⟩ => (ht _ _ _ hz).run pins s σ H Q I' q⟩
  have hb : PSs X body (tExS (fun z : Nat × Gm × Om => I z.1 z.2.1 z.2.2 ∧ b z.1 z.2.1 z.2.2 = true) fun z => tB X.K Ω.length z.2.1 (Om1 z.1 z.2.1 z.2.2) { nx := fun Γ2 Ω2 => ∃ m', m' < z.1 ∧ I m' Γ2 Ω2, ct := fun Γ2 Ω2 => ∃ m', m' < z.1 ∧ I m' Γ2 Ω2, bk := P.nx, rt := P.rt }) := PSs.ex fun z hz => hs _ _ _ hz.1 hz.2
  refine PS.wk (ps_while hp hc' hb) fun D σ H ⟨F, ρ, hw, hl, kn, kr, kb, kc⟩ => ?_
  refine ⟨fun m σ' H' => ∃ ρ' Γ' Ω', Step Ω.length ρ H ρ' H' ∧ Wd X.K F ρ' Ω' H' ∧ Sl X.K F ρ' Γ' σ' H' ∧ I m Γ' Ω', ⟨n, ρ, Γ, Ω, Step.refl hw, hw, hl, h0⟩, fun m σ' H' ⟨ρ', Γ', Ω', s', w', l', i'⟩ => ?_⟩
  refine ⟨(m, Γ', Ω'), i', F, ρ', w', l', fun ρ2 H2 s2 w2 => ?_⟩
  have s3 : Step Ω.length ρ H ρ2 H2 := s'.trans (s2.step (by rw [w'.len]; exact hk m Γ' Ω' i'))
  cases hb2 : b m Γ' Ω' with
  | false => exact (if_neg Bool.false_ne_true).mpr (kn ρ2 σ' H2 Γ' _ (s3.le hk0) w2 (l'.xs s2) (hd m Γ' Ω' i' hb2))
  | true =>
    refine (if_pos rfl).mpr ⟨fun σ4 H4 => ∃ m', m' < m ∧ ∃ ρ4 Γ4 Ω4, Step Ω.length ρ H ρ4 H4 ∧ Wd X.K F ρ4 Ω4 H4 ∧ Sl X.K F ρ4 Γ4 σ4 H4 ∧ I m' Γ4 Ω4, fun σ4 H4 q => q, (m, Γ', Ω'), ⟨i', hb2⟩, F, ρ2, w2, l'.xs s2, ?_, ?_, ?_, ?_⟩
    · exact fun ρ4 σ4 H4 Γ4 Ω4 s4 w4 l4 ⟨m', hm, i4⟩ => ⟨m', hm, ρ4, Γ4, Ω4, s3.trans s4, w4, l4, i4⟩
    · exact fun v w ρ4 H4 Ω4 s4 w4 r4 q => kr v w ρ4 H4 Ω4 ((s3.trans s4).le hk0) w4 r4 q
    · exact fun ρ4 σ4 H4 Γ4 Ω4 s4 w4 l4 q => kn ρ4 σ4 H4 Γ4 Ω4 ((s3.trans s4).le hk0) w4 l4 q
    · exact fun ρ4 σ4 H4 Γ4 Ω4 s4 w4 l4 ⟨m', hm, i4⟩ => ⟨m', hm, ρ4, Γ4, Ω4, s3.trans s4, w4, l4, i4⟩
end
end DL
/-! D layer, part 7: contracts of defs, calls. -/
namespace DL
open PySem PySem.Spec PyProof.Rows L2

/-- a callee's cell in the caller's count -/
def ren (sub : List Nat) (base n : Nat) : Nat := if n < sub.length then sub.getD n 0 else base + (n - sub.length)
def rnW (φ : Nat → Nat) : W → W
  | .d x => .d x
  | .l n => .l (φ n)
def rnO (φ : Nat → Nat) : OD → OD
  | .gone => .gone
  | .ls ds => .ls ds
  | .lw ws => .lw (ws.map (rnW φ))
  | .dk kvs => .dk kvs
  | .dt kvs => .dt kvs
  | .ins C fs => .ins C (fs.map fun p => (p.1, rnW φ p.2))
/-- the cells behind a call -/
def putC (Ω : Om) : List Nat → List OD → Om
  | [], rest => Ω ++ rest
  | n :: ns, od :: ods => putC (Ω.set n od) ns ods
  | _ :: _, [] => Ω
/-- references within the first n cells -/
def W.wf (n : Nat) : W → Bool
  | .d _ => true
  | .l m => decide (m < n)
def OD.wf (n : Nat) : OD → Bool
  | .gone => false
  | .lw ws => ws.all (W.wf n)
  | .ins _ fs => fs.all fun p => W.wf n p.2
  | _ => true
structure Ctr where
  ws : List W
  cs : Om
  R : W → Om → Prop
/-- a def's promise -/
def spC (K : PySem.W.Frag) (c : Ctr) : Sp := fun vs H Q _ => ∃ F ρ, Wd K F ρ c.cs H ∧ RpWs K F ρ H vs c.ws ∧ ∀ v w ρ' H' Ω', Step c.cs.length ρ H ρ' H' → Wd K F ρ' Ω' H' → RpW K F ρ' H' v w → c.R w Ω' → Q v H'
def spF (K : PySem.W.Frag) {α : Type} (C : α → Ctr) : Sp := fun vs H Q E => ∃ a, spC K (C a) vs H Q E
section
variable {K : PySem.W.Frag} {F : List Addr} {ρ : RO} {H : Hp} {Ω : Om}
theorem putC_spec (f : Nat → OD) : ∀ (ods : List OD) (sub : List Nat) (Ω : Om), sub.Nodup → sub.length ≤ ods.length → (∀ n ∈ sub, n < Ω.length) →
    (putC Ω sub ods).length = Ω.length + (ods.length - sub.length) ∧
    (∀ (j n : Nat), sub[j]? = some n → (putC Ω sub ods)[n]? = ods[j]?) ∧
    (∀ n : Nat, n < Ω.length → n ∉ sub → (putC Ω sub ods)[n]? = Ω[n]?) ∧
    (∀ m : Nat, (putC Ω sub ods)[Ω.length + m]? = ods[sub.length + m]?)
  | ods, [], Ω, _, _, _ => by
    have e : putC Ω [] ods = Ω ++ ods := by cases ods <;> rfl
    rw [e]
    refine ⟨by simp, fun j n h => by simp at h, fun n hn _ => ?_, fun m => ?_⟩
    · rw [List.getElem?_append_left hn]
    · rw [List.getElem?_append_right (Nat.le_add_right _ _), List.length_nil, Nat.zero_add, Nat.add_sub_cancel_left]
  | [], n :: ns, Ω, _, hl, _ => by simp at hl
  | od :: ods, n :: ns, Ω, hnd, hl, hlt => by
    obtain ⟨hn, hnd'⟩ := List.nodup_cons.mp hnd
    have hl' : ns.length ≤ ods.length := by simpa using hl
    have hlt' : ∀ m ∈ ns, m < (Ω.set n od).length := fun m hm => by rw [List.length_set]; exact hlt m (List.mem_cons_of_mem _ hm)
    obtain ⟨a1, a2, a3, a4⟩ := putC_spec f ods ns (Ω.set n od) hnd' hl' hlt'
    rw [List.length_set] at a1 a3 a4
    have hnl := hlt n (List.mem_cons_self ..)
    refine ⟨?_, fun j m h => ?_, fun m hm hm2 => ?_, fun m => ?_⟩
    · show (putC (Ω.set n od) ns ods).length = _
      rw [a1, List.length_cons, List.length_cons]
      omega
    · show (putC (Ω.set n od) ns ods)[m]? = _
      cases j with
      | zero =>
        have e : n = m := by simpa using h
        subst e
        rw [a3 n hnl hn, List.getElem?_set_self hnl]
        rfl
      | succ j => rw [a2 j m (by simpa using h)]; simp
    · show (putC (Ω.set n od) ns ods)[m]? = _
      rw [a3 m hm (fun q => hm2 (List.mem_cons_of_mem _ q)), List.getElem?_set_ne (fun z => hm2 (by rw [z]; exact List.mem_cons_self ..))]
    · show (putC (Ω.set n od) ns ods)[_]? = _
      rw [a4, List.length_cons, show ns.length + 1 + m = ns.length + m + 1 by omega, List.getElem?_cons_succ]
/-- the live cells that a call does not get -/
def rest (ρ : RO) (sub : List Nat) : List Addr := (ρ.zipIdx.filter fun p => decide (p.2 ∉ sub)).filterMap fun p => p.1
theorem mem_rest {ρ : RO} {sub : List Nat} {a : Addr} : a ∈ rest ρ sub ↔ ∃ n, n ∉ sub ∧ ρ[n]? = some (some a) := by
  unfold rest
  rw [List.mem_filterMap]
  constructor
  · rintro ⟨⟨o, n⟩, h, e⟩
    obtain ⟨h1, h2⟩ := List.mem_filter.mp h
    refine ⟨n, of_decide_eq_true h2, ?_⟩
    have z := List.mem_zipIdx_iff_getElem?.mp h1
    dsimp only at e z
    rw [z, e]
  · rintro ⟨n, hn, e⟩
    exact ⟨(some a, n), List.mem_filter.mpr ⟨List.mem_zipIdx_iff_getElem?.mpr e, decide_eq_true hn⟩, rfl⟩
theorem RpW.unhid (e : ∀ {F' : List Addr} {ρ' : RO} {H' : Hp} {v : V} {x : Dt}, hid F' ρ' H' = hid F ρ H' → Rp K (hid F ρ H') v x → Rp K (hid F' ρ' H') v x) : True := trivial
end
theorem Rp.eqv {K : PySem.W.Frag} {H1 H2 : Hp} (e : H1 = H2) {v : V} {x : Dt} (h : Rp K H1 v x) : Rp K H2 v x := e ▸ h
theorem RpL.eqv {K : PySem.W.Frag} {H1 H2 : Hp} (e : H1 = H2) {v : List V} {x : List Dt} (h : RpL K H1 v x) : RpL K H2 v x := e ▸ h
theorem RpK.eqv {K : PySem.W.Frag} {H1 H2 : Hp} (e : H1 = H2) {v : List (Key × V)} {x : List (Key × Dt)} (h : RpK K H1 v x) : RpK K H2 v x := e ▸ h
theorem RpT.eqv {K : PySem.W.Frag} {H1 H2 : Hp} (e : H1 = H2) {v : List (List Key × V)} {x : List (List Key × Dt)} (h : RpT K H1 v x) : RpT K H2 v x := e ▸ h
section
variable {K : PySem.W.Frag} {F F' : List Addr} {ρ ρ' : RO} {H : Hp} {φ : Nat → Nat}
/-- renaming: from the caller's count to the callee's, and back -/
theorem RpW.ren_in {n : Nat} (e : hid F ρ H = hid F' ρ' H) (hφ : ∀ m a, m < n → ρ[φ m]? = some (some a) → ρ'[m]? = some (some a)) {v : V} {w : W} (hwf : w.wf n = true) (h : RpW K F ρ H v (rnW φ w)) : RpW K F' ρ' H v w := by
  cases w with
  | d x => exact Rp.eqv e h
  | l m =>
    obtain ⟨a, ev, q⟩ := h
    exact ⟨a, ev, hφ m a (of_decide_eq_true hwf) q⟩
theorem RpW.ren_out (e : hid F' ρ' H = hid F ρ H) (hφ : ∀ (m : Nat) a, ρ'[m]? = some (some a) → ρ[φ m]? = some (some a)) {v : V} {w : W} (h : RpW K F' ρ' H v w) : RpW K F ρ H v (rnW φ w) := by
  cases w with
  | d x => exact Rp.eqv e h
  | l m =>
    obtain ⟨a, ev, q⟩ := h
    exact ⟨a, ev, hφ m a q⟩
theorem RpO.ren_in {n : Nat} (e : hid F ρ H = hid F' ρ' H) (hφ : ∀ m a, m < n → ρ[φ m]? = some (some a) → ρ'[m]? = some (some a)) {a : Addr} {od : OD} (hwf : od.wf n = true) (h : RpO K F ρ H a (rnO φ od)) : RpO K F' ρ' H a od := by
  cases od with
  | gone => trivial
  | ls ds => obtain ⟨vs, q, r⟩ := h; exact ⟨vs, q, RpL.eqv e r⟩
  | dk ds => obtain ⟨vs, q, r⟩ := h; exact ⟨vs, q, RpK.eqv e r⟩
  | dt ds => obtain ⟨vs, q, r⟩ := h; exact ⟨vs, q, RpT.eqv e r⟩
  | lw ws =>
    obtain ⟨vs, q, r⟩ := h
    refine ⟨vs, q, ?_⟩
    have go : ∀ (ws : List W) (vs : List V), (ws.all (W.wf n)) = true → Paired (RpW K F ρ H) vs (ws.map (rnW φ)) → Paired (RpW K F' ρ' H) vs ws := by
      intro ws
      induction ws with
      | nil => intro vs _ r; cases r; exact .nil
      | cons w ws ih =>
        intro vs hw r
        cases r with
        | cons q r =>
          rw [List.all_cons, Bool.and_eq_true] at hw
          exact .cons (RpW.ren_in e hφ hw.1 q) (ih _ hw.2 r)
    exact go ws vs hwf r
  | ins C fs =>
    obtain ⟨dx, vs, q, r⟩ := h
    refine ⟨dx, vs, q, ?_⟩
    have go : ∀ (fs : List (Str × W)) (vs : List (Str × V)), (fs.all fun p => W.wf n p.2) = true → Paired (fun (p : Str × V) (q : Str × W) => p.1 = q.1 ∧ RpW K F ρ H p.2 q.2) vs (fs.map fun p => (p.1, rnW φ p.2)) → Paired (fun (p : Str × V) (q : Str × W) => p.1 = q.1 ∧ RpW K F' ρ' H p.2 q.2) vs fs := by
      intro fs
      induction fs with
      | nil => intro vs _ r; cases r; exact .nil
      | cons w fs ih =>
        intro vs hw r
        cases r with
        | cons q r =>
          rw [List.all_cons, Bool.and_eq_true] at hw
          exact .cons ⟨q.1, RpW.ren_in e hφ hw.1 q.2⟩ (ih _ hw.2 r)
    exact go fs vs hwf r
theorem RpO.ren_out (e : hid F' ρ' H = hid F ρ H) (hφ : ∀ (m : Nat) a, ρ'[m]? = some (some a) → ρ[φ m]? = some (some a)) {a : Addr} {od : OD} (h : RpO K F' ρ' H a od) : RpO K F ρ H a (rnO φ od) := by
  cases od with
  | gone => trivial
  | ls ds => obtain ⟨vs, q, r⟩ := h; exact ⟨vs, q, RpL.eqv e r⟩
  | dk ds => obtain ⟨vs, q, r⟩ := h; exact ⟨vs, q, RpK.eqv e r⟩
  | dt ds => obtain ⟨vs, q, r⟩ := h; exact ⟨vs, q, RpT.eqv e r⟩
  | lw ws =>
    obtain ⟨vs, q, r⟩ := h
    refine ⟨vs, q, ?_⟩
    clear q
    induction r with
    | nil => exact .nil
    | cons q r ih => exact .cons (RpW.ren_out e hφ q) ih
  | ins C fs =>
    obtain ⟨dx, vs, q, r⟩ := h
    refine ⟨dx, vs, q, ?_⟩
    clear q
    induction r with
    | nil => exact .nil
    | cons q r ih => exact .cons ⟨q.1, RpW.ren_out e hφ q.2⟩ ih
end
theorem nodup_at {l : List Nat} (h : l.Nodup) {i j n : Nat} (e1 : l[i]? = some n) (e2 : l[j]? = some n) : i = j := by
  have hi := (List.getElem?_eq_some_iff.mp e1).1
  have hj := (List.getElem?_eq_some_iff.mp e2).1
  have a1 : l[i] = n := by rw [List.getElem?_eq_getElem hi] at e1; exact Option.some.inj e1
  have a2 : l[j] = n := by rw [List.getElem?_eq_getElem hj] at e2; exact Option.some.inj e2
  exact (List.getElem_inj h).mp (a1.trans a2.symm)
/-- the core of a call: what the caller has to show, and what it has behind -/
theorem sp_core {K : PySem.W.Frag} {F : List Addr} {ρ : RO} {H : Hp} {Ω : Om} {c : Ctr} {vs : List V} {Q : VK} {E : XK} (sub : List Nat) (hw : Wd K F ρ Ω H) (hv : RpWs K F ρ H vs (c.ws.map (rnW (ren sub Ω.length)))) (hnd : sub.Nodup) (hlen : sub.length = c.cs.length)
    (hwf : (c.ws.all (W.wf c.cs.length)) = true) (hwfc : (c.cs.all (OD.wf c.cs.length)) = true) (hcell : ∀ (j n : Nat), sub[j]? = some n → Ω[n]? = (c.cs[j]?).map (rnO (ren sub Ω.length)))
    (k : ∀ v w Ω' ρ' H', c.R w Ω' → XS ρ H ρ' H' → Wd K F ρ' (putC Ω sub (Ω'.map (rnO (ren sub Ω.length)))) H' → RpW K F ρ' H' v (rnW (ren sub Ω.length) w) → Q v H') : spC K c vs H Q E := by
  -- sub is within
  have hin : ∀ n ∈ sub, n < Ω.length := fun n hn => by
    obtain ⟨j, e⟩ := List.getElem?_of_mem hn
    have hj : j < c.cs.length := by rw [← hlen]; exact (List.getElem?_eq_some_iff.mp e).1
    have q := hcell j n e
    rw [List.getElem?_eq_getElem hj] at q
    exact (List.getElem?_eq_some_iff.mp q).1
  have hwfo : ∀ (j : Nat) (od : OD), c.cs[j]? = some od → od.wf c.cs.length = true := fun j od e => List.all_eq_true.mp hwfc od (List.mem_of_getElem? e)
  have ng : ∀ od : OD, od.wf c.cs.length = true → od ≠ .gone := fun od h z => by subst z; cases h
  have ngr : ∀ (od : OD) (φ : Nat → Nat), od ≠ .gone → rnO φ od ≠ .gone := fun od φ h z => by cases od <;> first | exact h rfl | cases z
  -- the callee's cells
  let ρ0 : RO := sub.map fun n => ρ.getD n none
  let F0 : List Addr := rest ρ sub ++ F
  have h0 : ∀ (j n : Nat), sub[j]? = some n → ∃ a, ρ[n]? = some (some a) ∧ ρ0[j]? = some (some a) := fun j n e => by
    have hj : j < c.cs.length := by rw [← hlen]; exact (List.getElem?_eq_some_iff.mp e).1
    have q := hcell j n e
    rw [List.getElem?_eq_getElem hj] at q
    have z : Ω[n]? = some (rnO (ren sub Ω.length) c.cs[j]) := q
    obtain ⟨a, ea, _⟩ := hw.ob n _ z (ngr _ _ (ng _ (hwfo j _ (List.getElem?_eq_getElem hj))))
    refine ⟨a, ea, ?_⟩
    show (sub.map _)[j]? = _
    rw [List.getElem?_map, e]
    show some (ρ.getD n none) = _
    rw [List.getD_eq_getElem?_getD, ea]
    rfl
  have h0' : ∀ (j : Nat) (a : Addr), ρ0[j]? = some (some a) → ∃ n, sub[j]? = some n ∧ ρ[n]? = some (some a) := fun j a e => by
    have e' : (sub.map fun n => ρ.getD n none)[j]? = some (some a) := e
    rw [List.getElem?_map] at e'
    cases q : sub[j]? with
    | none => rw [q] at e'; cases e'
    | some n =>
      obtain ⟨b, eb, eb2⟩ := h0 j n q
      rw [e] at eb2
      cases eb2
      exact ⟨n, rfl, eb⟩
  have mem0 : ∀ a : Addr, some a ∈ ρ0 → some a ∈ ρ := fun a m => by
    obtain ⟨j, e⟩ := List.getElem?_of_mem m
    obtain ⟨n, _, q⟩ := h0' j a e
    exact mem_of_get q
  have hidE : hid F ρ H = hid F0 ρ0 H := by
    funext a
    unfold hid
    have e : (some a ∈ ρ ∨ a ∈ F) ↔ (some a ∈ ρ0 ∨ a ∈ F0) := by
      constructor
      · rintro (m | m)
        · obtain ⟨n, e⟩ := List.getElem?_of_mem m
          by_cases hs : n ∈ sub
          · obtain ⟨j, ej⟩ := List.getElem?_of_mem hs
            obtain ⟨b, eb, eb2⟩ := h0 j n ej
            rw [e] at eb
            cases eb
            exact .inl (mem_of_get eb2)
          · exact .inr (List.mem_append_left _ (mem_rest.mpr ⟨n, hs, e⟩))
        · exact .inr (List.mem_append_right _ m)
      · rintro (m | m)
        · exact .inl (mem0 a m)
        · rcases List.mem_append.mp m with m | m
          · obtain ⟨n, _, e⟩ := mem_rest.mp m
            exact .inl (mem_of_get e)
          · exact .inr m
    by_cases z : some a ∈ ρ ∨ a ∈ F
    · rw [if_pos z, if_pos (e.mp z)]
    · rw [if_neg z, if_neg (fun q => z (e.mpr q))]
  have φlt : ∀ m, m < sub.length → sub[m]? = some (ren sub Ω.length m) := fun m hm => by
    unfold ren
    rw [if_pos hm, List.getD_eq_getElem?_getD, List.getElem?_eq_getElem hm]
    rfl
  have φin : ∀ m a, m < c.cs.length → ρ[ren sub Ω.length m]? = some (some a) → ρ0[m]? = some (some a) := fun m a hm e => by
    rw [← hlen] at hm
    obtain ⟨b, eb, eb2⟩ := h0 m _ (φlt m hm)
    rw [e] at eb
    cases eb
    exact eb2
  refine ⟨F0, ρ0, ⟨?_, ?_, ?_, ?_, ?_⟩, ?_, ?_⟩
  · show (sub.map _).length = _
    rw [List.length_map, hlen]
  · intro i j a e1 e2
    obtain ⟨n, en, q⟩ := h0' i a e1
    obtain ⟨m, em, q2⟩ := h0' j a e2
    have z := hw.nd n m a q q2
    subst z
    exact nodup_at hnd en em
  · intro j od e hg
    have hj : j < sub.length := by rw [hlen]; exact (List.getElem?_eq_some_iff.mp e).1
    have q := hcell j _ (φlt j hj)
    rw [e] at q
    have q' : Ω[ren sub Ω.length j]? = some (rnO (ren sub Ω.length) od) := q
    obtain ⟨a, ea, r⟩ := hw.ob _ _ q' (ngr _ _ hg)
    obtain ⟨b, eb, eb2⟩ := h0 j _ (φlt j hj)
    rw [ea] at eb
    cases eb
    exact ⟨a, eb2, RpO.ren_in hidE φin (hwfo j od e) r⟩
  · intro j e
    exact absurd rfl (ng _ (hwfo j _ e))
  · intro a ha
    refine ⟨fun z => ?_, fun m => ?_⟩
    · rcases List.mem_append.mp ha with q | q
      · obtain ⟨n, _, e⟩ := mem_rest.mp q
        exact hw.trk (mem_of_get e) z
      · exact (hw.fr a q).1 z
    · rcases List.mem_append.mp ha with q | q
      · obtain ⟨n, hn, e⟩ := mem_rest.mp q
        obtain ⟨j, ej⟩ := List.getElem?_of_mem m
        obtain ⟨n2, e2, q2⟩ := h0' j a ej
        have z := hw.nd n n2 a e q2
        subst z
        exact hn (List.mem_of_getElem? e2)
      · exact (hw.fr a q).2 (mem0 a m)
  · have go : ∀ (ws : List W) (vs : List V), (ws.all (W.wf c.cs.length)) = true → RpWs K F ρ H vs (ws.map (rnW (ren sub Ω.length))) → RpWs K F0 ρ0 H vs ws := by
      intro ws
      induction ws with
      | nil => intro vs _ r; cases r; exact .nil
      | cons w ws ih =>
        intro vs hw r
        cases r with
        | cons q r =>
          rw [List.all_cons, Bool.and_eq_true] at hw
          exact .cons (RpW.ren_in hidE φin hw.1 q) (ih _ hw.2 r)
    exact go c.ws vs hwf hv
  · intro v w ρ2 H2 Ω2 st wd rv hR
    have l0 : ρ0.length = sub.length := List.length_map ..
    have l2 : ρ2.length = Ω2.length := wd.len
    -- the first cells are the same
    have old : ∀ j : Nat, j < sub.length → ρ2[j]? = ρ0[j]? := fun j hj => st.old j (by rw [← hlen]; exact hj)
    have hle : sub.length ≤ Ω2.length := by
      rcases Nat.lt_or_ge Ω2.length sub.length with h | h
      · exfalso
        have z := old Ω2.length h
        rw [List.getElem?_eq_none (by omega), List.getElem?_eq_getElem (by omega)] at z
        cases z
      · exact h
    let ρ3 : RO := ρ ++ ρ2.drop sub.length
    have newA : ∀ (j : Nat) (a : Addr), sub.length ≤ j → ρ2[j]? = some (some a) → H a = none := fun j a hj e => by
      rcases st.new a (mem_of_get e) with m | m
      · obtain ⟨i, ei⟩ := List.getElem?_of_mem m
        have hi : i < sub.length := by rw [← l0]; exact (List.getElem?_eq_some_iff.mp ei).1
        have z := old i hi
        rw [ei] at z
        have := wd.nd j i a e z
        omega
      · exact m
    have φout : ∀ (m : Nat) a, ρ2[m]? = some (some a) → ρ3[ren sub Ω.length m]? = some (some a) := fun m a e => by
      by_cases hm : m < sub.length
      · rw [old m hm] at e
        obtain ⟨n, en, q⟩ := h0' m a e
        have z := φlt m hm
        rw [en] at z
        cases z
        show (ρ ++ _)[_]? = _
        rw [List.getElem?_append_left (List.getElem?_eq_some_iff.mp q).1]
        exact q
      · unfold ren
        rw [if_neg hm]
        show (ρ ++ ρ2.drop sub.length)[_]? = _
        rw [List.getElem?_append_right (by rw [hw.len]; exact Nat.le_add_right _ _), hw.len, Nat.add_sub_cancel_left, List.getElem?_drop, show sub.length + (m - sub.length) = m by omega]
        exact e
    have mem3 : ∀ a : Addr, some a ∈ ρ3 ↔ (some a ∈ ρ ∨ ∃ j, sub.length ≤ j ∧ ρ2[j]? = some (some a)) := fun a => by
      show some a ∈ ρ ++ ρ2.drop sub.length ↔ _
      rw [List.mem_append]
      constructor
      · rintro (m | m)
        · exact .inl m
        · obtain ⟨j, e⟩ := List.getElem?_of_mem m
          rw [List.getElem?_drop] at e
          exact .inr ⟨_, Nat.le_add_right _ _, e⟩
      · rintro (m | ⟨j, hj, e⟩)
        · exact .inl m
        · refine .inr (List.mem_of_getElem? (i := j - sub.length) ?_)
          rw [List.getElem?_drop, show sub.length + (j - sub.length) = j by omega]
          exact e
    have hidE2 : hid F0 ρ2 H2 = hid F ρ3 H2 := by
      funext a
      unfold hid
      have e : (some a ∈ ρ2 ∨ a ∈ F0) ↔ (some a ∈ ρ3 ∨ a ∈ F) := by
        rw [mem3]
        constructor
        · rintro (m | m)
          · obtain ⟨j, e⟩ := List.getElem?_of_mem m
            by_cases hj : j < sub.length
            · rw [old j hj] at e
              exact .inl (.inl (mem0 a (mem_of_get e)))
            · exact .inl (.inr ⟨j, by omega, e⟩)
          · rcases List.mem_append.mp m with m | m
            · obtain ⟨n, _, e⟩ := mem_rest.mp m
              exact .inl (.inl (mem_of_get e))
            · exact .inr m
        · rintro ((m | ⟨j, hj, e⟩) | m)
          · obtain ⟨n, e⟩ := List.getElem?_of_mem m
            by_cases hs : n ∈ sub
            · obtain ⟨j, ej⟩ := List.getElem?_of_mem hs
              obtain ⟨b, eb, eb2⟩ := h0 j n ej
              rw [e] at eb
              cases eb
              refine .inl (mem_of_get (n := j) ?_)
              rw [old j (List.getElem?_eq_some_iff.mp ej).1]
              exact eb2
            · exact .inr (List.mem_append_left _ (mem_rest.mpr ⟨n, hs, e⟩))
          · exact .inl (mem_of_get e)
          · exact .inr (List.mem_append_right _ m)
      by_cases z : some a ∈ ρ2 ∨ a ∈ F0
      · rw [if_pos z, if_pos (e.mp z)]
      · rw [if_neg z, if_neg (fun q => z (e.mpr q))]
    have p3 : Pre ρ ρ3 := ⟨_, rfl⟩
    have st3 : Step ρ.length ρ H ρ3 H2 := by
      refine ⟨fun a o e n => st.ext a o e (fun m => n (mem0 a m)), fun n hn => p3.old hn, fun a m => ?_, fun a m z => ?_⟩
      · rcases (mem3 a).mp m with m | ⟨j, hj, e⟩
        · exact .inl m
        · exact .inr (newA j a hj e)
      · by_cases m0 : some a ∈ ρ0
        · exact st.trk a m0 z
        · cases q : H a with
          | none => exact hw.trk m q
          | some o => rw [st.ext a o q m0] at z; cases z
    obtain ⟨c1, c2, c3, c4⟩ := putC_spec (fun _ => .gone) (Ω2.map (rnO (ren sub Ω.length))) sub Ω hnd (by rw [List.length_map]; exact hle) hin
    rw [List.length_map] at c1
    refine k v w Ω2 ρ3 H2 hR ⟨st3, p3⟩ ⟨?_, ?_, ?_, ?_, ?_⟩ (RpW.ren_out hidE2 φout rv)
    · show (ρ ++ ρ2.drop sub.length).length = _
      rw [c1, List.length_append, List.length_drop, hw.len, l2]
    · have sp : ∀ (i : Nat) (a : Addr), ρ3[i]? = some (some a) → (i < ρ.length ∧ ρ[i]? = some (some a)) ∨ ∃ j, sub.length ≤ j ∧ i = ρ.length + (j - sub.length) ∧ ρ2[j]? = some (some a) := fun i a e => by
        have e' : (ρ ++ ρ2.drop sub.length)[i]? = some (some a) := e
        by_cases hi : i < ρ.length
        · rw [List.getElem?_append_left hi] at e'
          exact .inl ⟨hi, e'⟩
        · rw [List.getElem?_append_right (by omega), List.getElem?_drop] at e'
          exact .inr ⟨sub.length + (i - ρ.length), by omega, by omega, e'⟩
      intro i j a e1 e2
      rcases sp i a e1 with ⟨_, q1⟩ | ⟨m1, hm1, i1, q1⟩ <;> rcases sp j a e2 with ⟨_, q2⟩ | ⟨m2, hm2, i2, q2⟩
      · exact hw.nd i j a q1 q2
      · exact (hw.trk (mem_of_get q1) (newA m2 a hm2 q2)).elim
      · exact (hw.trk (mem_of_get q2) (newA m1 a hm1 q1)).elim
      · have z := wd.nd m1 m2 a q1 q2
        omega
    · intro n od en hg
      by_cases hs : n ∈ sub
      · obtain ⟨j, ej⟩ := List.getElem?_of_mem hs
        rw [c2 j n ej, List.getElem?_map] at en
        cases q : Ω2[j]? with
        | none => rw [q] at en; cases en
        | some od2 =>
          rw [q] at en
          have en' : rnO (ren sub Ω.length) od2 = od := Option.some.inj en
          subst en'
          obtain ⟨a, ea, r⟩ := wd.ob j od2 q (fun z => hg (by rw [z]; rfl))
          have hj : j < sub.length := (List.getElem?_eq_some_iff.mp ej).1
          have z := φout j a ea
          have z2 := φlt j hj
          rw [ej] at z2
          cases z2
          exact ⟨a, z, RpO.ren_out hidE2 φout r⟩
      · by_cases hn : n < Ω.length
        · rw [c3 n hn hs] at en
          obtain ⟨a, ea, r⟩ := hw.ob n od en hg
          refine ⟨a, p3.get ea, r.mono st3 p3 fun o q => st.ext a o q fun m => ?_⟩
          obtain ⟨j, ej⟩ := List.getElem?_of_mem m
          obtain ⟨n2, e2, q2⟩ := h0' j a ej
          have z := hw.nd n n2 a ea q2
          subst z
          exact hs (List.mem_of_getElem? e2)
        · have e : n = Ω.length + (n - Ω.length) := by omega
          rw [e, c4, List.getElem?_map] at en
          cases q : Ω2[sub.length + (n - Ω.length)]? with
          | none => rw [q] at en; cases en
          | some od2 =>
            rw [q] at en
            have en' : rnO (ren sub Ω.length) od2 = od := Option.some.inj en
            subst en'
            obtain ⟨a, ea, r⟩ := wd.ob _ od2 q (fun z => hg (by rw [z]; rfl))
            have z := φout _ a ea
            unfold ren at z
            rw [if_neg (by omega), Nat.add_sub_cancel_left, ← e] at z
            exact ⟨a, z, RpO.ren_out hidE2 φout r⟩
    · intro n en
      by_cases hs : n ∈ sub
      · exfalso
        obtain ⟨j, ej⟩ := List.getElem?_of_mem hs
        rw [c2 j n ej, List.getElem?_map] at en
        cases q : Ω2[j]? with
        | none => rw [q] at en; cases en
        | some od2 =>
          rw [q] at en
          have en' : rnO (ren sub Ω.length) od2 = .gone := Option.some.inj en
          have z : od2 = .gone := by cases od2 <;> first | rfl | cases en'
          subst z
          have d := wd.dead j q
          have hj : j < sub.length := (List.getElem?_eq_some_iff.mp ej).1
          obtain ⟨b, _, eb2⟩ := h0 j n ej
          rw [old j hj, eb2] at d
          cases d
      · by_cases hn : n < Ω.length
        · rw [c3 n hn hs] at en
          exact p3.get (hw.dead n en)
        · have e : n = Ω.length + (n - Ω.length) := by omega
          rw [e, c4, List.getElem?_map] at en
          cases q : Ω2[sub.length + (n - Ω.length)]? with
          | none => rw [q] at en; cases en
          | some od2 =>
            rw [q] at en
            have en' : rnO (ren sub Ω.length) od2 = .gone := Option.some.inj en
            have z : od2 = .gone := by cases od2 <;> first | rfl | cases en'
            subst z
            have d := wd.dead _ q
            show (ρ ++ ρ2.drop sub.length)[n]? = _
            rw [List.getElem?_append_right (by rw [hw.len]; omega), List.getElem?_drop, hw.len]
            exact d
    · intro a ha
      refine ⟨fun z => ?_, fun m => ?_⟩
      · cases q : H a with
        | none => exact (hw.fr a ha).1 q
        | some o => rw [st.ext a o q (fun m => (hw.fr a ha).2 (mem0 a m))] at z; cases z
      · rcases (mem3 a).mp m with m | ⟨j, hj, e⟩
        · exact (hw.fr a ha).2 m
        · exact (hw.fr a ha).1 (newA j a hj e)
end DL
/-! D layer, part 8: calls, defs, forgetting, freezing, stores. -/
namespace DL
open PySem PySem.Spec PyProof.Rows L2

structure DefOk (P : Program) (w : World) (K : PySem.W.Frag) (mg : Str → Option Value) (base : Heap) (x : Str) (j : Nat) (ps : List Str) {α : Type} (C : α → Ctr) : Prop where
  ex : ∃ (f : Addr) (fd : FuncData), FnOk P w K mg base CX0 j f fd ps (spF K C) ∧ mg x = some (.ref f) ∧ PySem.W.keepIn K (.ref f) = true ∧ Binds K fd ps []
structure MethOk (P : Program) (w : World) (K : PySem.W.Frag) (mg : Str → Option Value) (base : Heap) (Cl : Addr) (m : Str) (j : Nat) (ps : List Str) {α : Type} (C : α → Ctr) : Prop where
  ex : ∃ (f : Addr) (fd : FuncData), FnOk P w K mg base CX0 j f fd ps (spF K C) ∧ Meth K Cl m f ∧ Binds K fd ps []
structure MakeOk (P : Program) (w : World) (K : PySem.W.Frag) (mg : Str → Option Value) (base : Heap) (x : Str) (Cl : Addr) (j : Nat) (ps : List Str) {α : Type} (C : α → Ctr) : Prop where
  ex : ∃ (f : Addr) (fd : FuncData), FnOk P w K mg base CX0 j f fd ps (spF K C) ∧ Mk K Cl f ∧ mg x = some (.ref Cl) ∧ Binds K fd ps []
def startG (N : List Str) (ws : List W) : Gm := ws.map some ++ List.replicate (N.length - ws.length) none
theorem RpWs.length {K : PySem.W.Frag} {F : List Addr} {ρ : RO} {H : Hp} {vs : List V} {ws : List W} (r : RpWs K F ρ H vs ws) : vs.length = ws.length := Paired.length r
theorem RpWs.get {K : PySem.W.Frag} {F : List Addr} {ρ : RO} {H : Hp} {w : W} : ∀ {vs : List V} {ws : List W} {i : Nat}, RpWs K F ρ H vs ws → ws[i]? = some w → ∃ v, vs[i]? = some v ∧ RpW K F ρ H v w
  | _, _, _, .nil, e => by simp at e
  | _, _, 0, .cons q _, e => by simp at e; subst e; exact ⟨_, rfl, q⟩
  | _, _, i + 1, .cons _ r, e => by
    obtain ⟨v, e1, q⟩ := RpWs.get (i := i) r (by simpa using e)
    exact ⟨v, by simpa using e1, q⟩
theorem sl_start {K : PySem.W.Frag} {F : List Addr} {ρ : RO} {H : Hp} {N : List Str} {vs : List V} {ws : List W} (r : RpWs K F ρ H vs ws) : Sl K F ρ (startG N ws) (L2.start N vs) H := by
  have e := r.length
  refine ⟨by unfold startG L2.start; simp only [List.length_append, List.length_map, List.length_replicate]; omega, fun i w h => ?_⟩
  unfold startG at h
  by_cases hi : i < ws.length
  · rw [List.getElem?_append_left (by rw [List.length_map]; exact hi), List.getElem?_map] at h
    cases q : ws[i]? with
    | none => rw [q] at h; cases h
    | some u =>
      rw [q] at h
      have : u = w := by simpa using h
      subst this
      obtain ⟨v, ev, rv⟩ := r.get q
      refine ⟨v, ?_, rv⟩
      unfold L2.start
      rw [List.getElem?_append_left (by rw [List.length_map]; omega), List.getElem?_map, ev]
      rfl
  · rw [List.getElem?_append_right (by rw [List.length_map]; omega)] at h
    have := List.mem_of_getElem? h
    have z := List.eq_of_mem_replicate this
    cases z
section
variable {P : Program} {w : World} {K : PySem.W.Frag} {mg : Str → Option Value} {base : Heap} {α : Type} {C : α → Ctr} {x qual : Str} {st : Stmt} {f : Addr} {fd : FuncData} {N ps : List Str} {k : Nat}
theorem fn_ok (F : Fun K x qual st f fd) (S : FnScope N ps (defScope st)) (hlen : ∀ a, (C a).ws.length = ps.length)
    (hbody : ∀ (a : α) (cdv : Value) (A : Around) (outer : List Env) (s : Shared) (H : Hp) (E : XK), Room k (A.deeper (envOfC qual (defScope st) s.heap.objs.size f cdv)) →
      BX (cxOf CX0 P w K mg base N qual (defScope st) f cdv A outer s H E).nox (C a).cs.length (defBody st) (startG N (C a).ws) (C a).cs { nx := fun _ Ω' => (C a).R (.d .non) Ω', rt := (C a).R }) : FnOk P w K mg base CX0 (k + 1) f fd ps (spF K C) := by
  refine F.ok S (fun vs H Q E ⟨a, F', ρ, hw, hv, _⟩ => hv.length.trans (hlen a)) fun cdv A outer s H vs Q E hr ⟨a, F', ρ, hw, hv, kk⟩ => ?_
  refine ⟨_, hbody a cdv A outer s H E hr, F', ρ, hw, sl_start hv, fun ρ' σ' H' Γ' Ω' s' w' l' q => kk .non (.d .non) ρ' H' Ω' s' w' Rp.non q, fun v w ρ' H' Ω' s' w' r' q => kk v w ρ' H' Ω' s' w' r' q, fun _ _ _ _ _ _ _ _ q => q, fun _ _ _ _ _ _ _ _ q => q⟩
end
section
variable {X : Cx} {e o : Expr} {es : List Expr} {Γ : Gm} {Ω Ω1 Ω2 Ω3 : Om} {w wo : W} {ws : List W} {p pos apos : Pos} {x m : Str} {j k : Nat} {ps : List Str} {α : Type} {C : α → Ctr} {Cl : Addr}
/-- what a call asks of the state it is made in -/
structure CallAt (c : Ctr) (sub : List Nat) (Ω : Om) (ws : List W) : Prop where
  ws_ : ws = c.ws.map (rnW (ren sub Ω.length))
  nd : sub.Nodup
  len : sub.length = c.cs.length
  wf : (c.ws.all (W.wf c.cs.length)) = true
  wfc : (c.cs.all (OD.wf c.cs.length)) = true
  cell : ∀ (j n : Nat), sub[j]? = some n → Ω[n]? = (c.cs[j]?).map (rnO (ren sub Ω.length))
theorem CallAt.go {K : PySem.W.Frag} {F : List Addr} {ρ : RO} {H : Hp} {c : Ctr} {sub : List Nat} {ws : List W} {vs : List V} {Q : VK} {E : XK} (h : CallAt c sub Ω ws) (hw : Wd K F ρ Ω H) (hv : RpWs K F ρ H vs ws)
    (hR : ∀ w' Ω', c.R w' Ω' → rnW (ren sub Ω.length) w' = w ∧ putC Ω sub (Ω'.map (rnO (ren sub Ω.length))) = Ω2) (q : Kont K F ρ H Ω2 w Q) : spC K c vs H Q E :=
  sp_core sub hw (h.ws_ ▸ hv) h.nd h.len h.wf h.wfc h.cell fun v w' Ω' ρ' H' r s wd rv => by
    obtain ⟨e1, e2⟩ := hR w' Ω' r
    rw [e1] at rv
    rw [e2] at wd
    exact q v ρ' H' s wd rv
theorem px_call (D : DefOk X.prog X.w X.K X.mg X.base x j ps C) (hr : Room j X.A) (a : α) (sub : List Nat) (ha : AX X (e :: es) Γ Ω ws Ω1) (hc : CallAt (C a) sub Ω1 ws)
    (hR : ∀ w' Ω', (C a).R w' Ω' → rnW (ren sub Ω1.length) w' = w ∧ putC Ω1 sub (Ω'.map (rnO (ren sub Ω1.length))) = Ω2)
    (hg : Gl X x := by rfl) (hdb : (x == ("__debug__" : Str)) = false := by decide) (he : starEach (e :: es) X.env = (false, eval e X.env) :: starEach es X.env := by rfl) (hpl : (backTo pos (starEach es X.env)).any (·.1) = false := by rfl) : PX X (.Call (.Name x p) (e :: es) [] pos) Γ Ω w Ω2 := by
  obtain ⟨f, fd, F, hm, hk, hb⟩ := D.ex
  refine PE.wk (pe_call F hr hg hm hk hb .nil pass0 ha hdb he hpl) fun σ H Q ⟨F', ρ, hw, hs, q⟩ => ⟨F', ρ, hw, hs, fun vs ρ1 H1 s1 w1 r1 => ⟨a, ?_⟩⟩
  rw [List.append_nil]
  exact hc.go w1 r1 hR (q.go s1)
/-- of data alone -/
theorem callAt_data {c : Ctr} {ds : List Dt} (h1 : c.ws = ds.map W.d) (h2 : c.cs = []) : CallAt c [] Ω (ds.map W.d) := by
  refine ⟨?_, List.nodup_nil, by rw [h2]; rfl, ?_, by rw [h2]; rfl, fun j n h => by simp at h⟩
  · rw [h1, List.map_map]
    rfl
  · rw [h1, List.all_map, List.all_eq_true]
    exact fun _ _ => rfl
/-- a contract of data -/
def cD (ds : List Dt) (r : Dt) : Ctr := ⟨ds.map W.d, [], fun w Ω' => w = .d r ∧ Ω' = []⟩
theorem putC_nil (Ω : Om) : putC Ω [] [] = Ω := by
  show Ω ++ [] = Ω
  exact List.append_nil Ω
theorem px_callD (D : DefOk X.prog X.w X.K X.mg X.base x j ps C) (hr : Room j X.A) (a : α) {ds : List Dt} {r : Dt} (hC : C a = cD ds r) (ha : AX X (e :: es) Γ Ω (ds.map W.d) Ω1)
    (hg : Gl X x := by rfl) (hdb : (x == ("__debug__" : Str)) = false := by decide) (he : starEach (e :: es) X.env = (false, eval e X.env) :: starEach es X.env := by rfl) (hpl : (backTo pos (starEach es X.env)).any (·.1) = false := by rfl) : PX X (.Call (.Name x p) (e :: es) [] pos) Γ Ω (.d r) Ω1 := by
  refine px_call D hr a [] ha (by rw [hC]; exact callAt_data rfl rfl) (fun w' Ω' h => ?_) hg hdb he hpl
  rw [hC] at h
  obtain ⟨rfl, rfl⟩ := h
  exact ⟨rfl, putC_nil _⟩
theorem look_none {K : PySem.W.Frag} {F : List Addr} {ρ : RO} {H : Hp} {m : Str} : ∀ {us : List (Str × V)} {fs : List (Str × W)}, Paired (fun (p : Str × V) (q : Str × W) => p.1 = q.1 ∧ RpW K F ρ H p.2 q.2) us fs → fs.lookup m = none → us.lookup m = none
  | _, _, .nil, _ => rfl
  | _, _, .cons (a := a) (b := b) q r, h => by
    obtain ⟨a1, a2⟩ := a
    obtain ⟨b1, b2⟩ := b
    obtain ⟨q1, q2⟩ := q
    dsimp only at q1
    subst q1
    rw [List.lookup_cons] at h ⊢
    split at h
    · cases h
    · exact look_none r h
theorem look_noneD {K : PySem.W.Frag} {H : Hp} {m : Str} : ∀ {us : List (Str × V)} {fs : List (Str × Dt)}, RpF K H us fs → fs.lookup m = none → us.lookup m = none
  | _, _, .nil, _ => rfl
  | _, _, .cons q r, h => by
    rw [List.lookup_cons] at h ⊢
    split at h
    · cases h
    · exact look_noneD r h
/-- the receiver of a method: an owned instance, or one that is data -/
inductive InsOf (Ω : Om) (Cl : Addr) (m : Str) : W → Prop
  | l {n : Nat} {fs : List (Str × W)} (h : Ω[n]? = some (.ins Cl fs)) (hm : fs.lookup m = none) : InsOf Ω Cl m (.l n)
  | d {fs : List (Str × Dt)} (hm : fs.lookup m = none) : InsOf Ω Cl m (.d (.ins Cl fs))
theorem InsOf.at {K : PySem.W.Frag} {F : List Addr} {ρ : RO} {H : Hp} {v : V} (h : InsOf Ω Cl m w) (hw : Wd K F ρ Ω H) (r : RpW K F ρ H v w) : ∃ a dx fs, v = .ref a ∧ H a = some (.ins Cl dx fs) ∧ fs.lookup m = none := by
  cases h with
  | l h hm =>
    obtain ⟨a, rfl, e⟩ := r
    obtain ⟨b, eb, q⟩ := hw.ob _ _ h (fun z => by cases z)
    rw [e] at eb
    cases eb
    obtain ⟨dx, us, q, r⟩ := q
    exact ⟨a, dx, us, rfl, q, look_none r hm⟩
  | d hm =>
    rename_i fs
    have r : Rp K (hid F ρ H) v (.ins Cl fs) := r
    cases r with
    | ins q r => exact ⟨_, _, _, rfl, (hid_le q).1, look_noneD r hm⟩
theorem px_meth {pl : Sem Bool} (D : MethOk X.prog X.w X.K X.mg X.base Cl m j ps C) (hr : Room j X.A) (c : Cls X.K Cl) (a : α) (sub : List Nat) (ho : PX X o Γ Ω wo Ω1) (ha : AX X (e :: es) Γ Ω1 ws Ω2) (hi : InsOf Ω1 Cl m wo) (hc : CallAt (C a) sub Ω2 (wo :: ws))
    (hR : ∀ w' Ω', (C a).R w' Ω' → rnW (ren sub Ω2.length) w' = w ∧ putC Ω2 sub (Ω'.map (rnO (ren sub Ω2.length))) = Ω3)
    (hst : starEach (e :: es) X.env = (false, eval e X.env) :: starEach es X.env := by rfl) (hpl : (backTo pos (starEach es X.env)).any (·.1) = false := by rfl)
    (ht : eval (.Call (.Attribute o m apos) (e :: es) [] pos) X.env = (do
      let ov ← eval o X.env
      standAt apos.atName
      let (f, first) ← holding [ov] (getMethod ov m pl)
      callWith pos f first (backTo pos (starEach (e :: es) X.env)) (backToKw pos (keywordEach [] X.env))) := by rfl) : PX X (.Call (.Attribute o m apos) (e :: es) [] pos) Γ Ω w Ω3 := by
  obtain ⟨f, fd, F, hm, hb⟩ := D.ex
  refine PE.wk (pe_meth ho c hm F hr hb .nil pass0 ha hst hpl ht) fun σ H Q ⟨F', ρ, hw, hs, q⟩ => ⟨F', ρ, hw, hs, fun v1 ρ1 H1 s1 w1 r1 => ?_⟩
  obtain ⟨b, dx, fs, rfl, eb, el⟩ := hi.at w1 r1
  refine ⟨b, dx, fs, rfl, eb, el, F', ρ1, w1, hs.xs s1, fun vs ρ2 H2 s2 w2 r2 => ⟨a, ?_⟩⟩
  rw [List.append_nil]
  exact hc.go w2 (.cons (r1.xs s2) r2) hR ((q.go s1).go s2)
theorem px_meth0 {pl : Sem Bool} (D : MethOk X.prog X.w X.K X.mg X.base Cl m j ps C) (hr : Room j X.A) (c : Cls X.K Cl) (a : α) (sub : List Nat) (ho : PX X o Γ Ω wo Ω1) (hi : InsOf Ω1 Cl m wo) (hc : CallAt (C a) sub Ω1 [wo])
    (hR : ∀ w' Ω', (C a).R w' Ω' → rnW (ren sub Ω1.length) w' = w ∧ putC Ω1 sub (Ω'.map (rnO (ren sub Ω1.length))) = Ω3)
    (ht : eval (.Call (.Attribute o m apos) [] [] pos) X.env = (do
      let ov ← eval o X.env
      standAt apos.atName
      let (f, first) ← holding [ov] (getMethod ov m pl)
      callWith pos f first [] (backToKw pos (keywordEach [] X.env))) := by rfl) : PX X (.Call (.Attribute o m apos) [] [] pos) Γ Ω w Ω3 := by
  obtain ⟨f, fd, F, hm, hb⟩ := D.ex
  refine PE.wk (pe_meth0 ho c hm F hr hb .nil pass0 ht) fun σ H Q ⟨F', ρ, hw, hs, q⟩ => ⟨F', ρ, hw, hs, fun v1 ρ1 H1 s1 w1 r1 => ?_⟩
  obtain ⟨b, dx, fs, rfl, eb, el⟩ := hi.at w1 r1
  refine ⟨b, dx, fs, rfl, eb, el, a, ?_⟩
  exact hc.go w1 (.cons r1 .nil) hR (q.go s1)
/-- C(..): the new instance is the next cell -/
theorem px_make (D : MakeOk X.prog X.w X.K X.mg X.base x Cl j ps C) (hr : Room (j + 1) X.A) (a : α) (sub : List Nat) (ha : AX X (e :: es) Γ Ω ws Ω1) (hc : CallAt (C a) (Ω1.length :: sub) (Ω1 ++ [OD.ins Cl []]) (W.l Ω1.length :: ws))
    (hR : ∀ w' Ω', (C a).R w' Ω' → w' = .d .non ∧ putC (Ω1 ++ [OD.ins Cl []]) (Ω1.length :: sub) (Ω'.map (rnO (ren (Ω1.length :: sub) (Ω1 ++ [OD.ins Cl []]).length))) = Ω2) (hn : ∀ n ∈ ws, n.wf Ω1.length = true)
    (hg : Gl X x := by rfl) (hdb : (x == ("__debug__" : Str)) = false := by decide) (he : starEach (e :: es) X.env = (false, eval e X.env) :: starEach es X.env := by rfl) (hpl : (backTo pos (starEach es X.env)).any (·.1) = false := by rfl) : PX X (.Call (.Name x p) (e :: es) [] pos) Γ Ω (.l Ω1.length) Ω2 := by
  obtain ⟨f, fd, F, M, hm, hb⟩ := D.ex
  refine PE.wk (pe_make M F hr hg hm hb .nil pass0 ha hdb he hpl) fun σ H Q ⟨F', ρ, hw, hs, q⟩ => ⟨F', ρ, hw, hs, fun vs ρ1 H1 s1 w1 r1 y dx hy hdx hne => ⟨a, ?_⟩⟩
  rw [List.append_nil]
  have g1 := w1.grow (k := ρ1.length) (H' := upd H1 dx (.own y)) fun b o eb => by rw [upd_ne (ne_of_none eb hdx)]; exact eb
  have hy2 : (upd H1 dx (.own y)) y = none := by rw [upd_ne (Ne.symm hne)]; exact hy
  obtain ⟨s2, p2, w2⟩ := g1.2.own (od := .ins Cl []) (o := .ins Cl dx []) (k := ρ1.length) hy2 (fun z => by cases z) ⟨dx, [], upd_same, .nil⟩ (Nat.le_refl _)
  have x2 : XS ρ1 H1 (ρ1 ++ [some y]) (upd (upd H1 dx (.own y)) y (.ins Cl dx [])) := XS.trans ⟨g1.1, Pre.refl _⟩ ⟨s2, p2⟩
  have ly : (ρ1 ++ [some y])[Ω1.length]? = some (some y) := by
    rw [← w1.len, List.getElem?_append_right (Nat.le_refl _), Nat.sub_self]
    rfl
  refine hc.go (w := .d .non) (Ω2 := Ω2) w2 (.cons ⟨y, rfl, ly⟩ (r1.xs x2)) (fun w' Ω' h => ?_) fun v ρ3 H3 s3 w3 r3 => ?_
  · obtain ⟨rfl, z⟩ := hR w' Ω' h
    exact ⟨rfl, z⟩
  · have r3 : Rp X.K (hid F' ρ3 H3) v .non := r3
    cases r3
    exact ⟨rfl, (q.go s1) _ ρ3 H3 (x2.trans s3) w3 ⟨y, rfl, s3.2.get ly⟩⟩
end

/-! ### forgetting and freezing -/
inductive FgG : Gm → Gm → Prop
  | nil : FgG [] []
  | keep {x : Option W} {r s : Gm} : FgG r s → FgG (x :: r) (x :: s)
  | drop {x : Option W} {r s : Gm} : FgG r s → FgG (x :: r) (none :: s)
inductive FgO : Nat → Om → Om → Prop
  | trunc {Ω : Om} : FgO 0 Ω []
  | keep {k : Nat} {x : OD} {r s : Om} : FgO k r s → FgO (k + 1) (x :: r) (x :: s)
  | keep0 {x : OD} {r s : Om} : FgO 0 r s → FgO 0 (x :: r) (x :: s)
  | gone {x : OD} {r s : Om} : FgO 0 r s → FgO 0 (x :: r) (.gone :: s)
def okW (Ω : Om) : W → Bool
  | .d _ => true
  | .l n => match Ω[n]? with
    | none => false
    | some .gone => false
    | some _ => true
def okS (Ω : Om) : Option W → Bool
  | none => true
  | some w => okW Ω w
def okO (Ω : Om) : OD → Bool
  | .lw ws => ws.all (okW Ω)
  | .ins _ fs => fs.all fun p => okW Ω p.2
  | _ => true
theorem FgG.get {Γ Γ2 : Gm} (h : FgG Γ Γ2) : Γ.length = Γ2.length ∧ ∀ (i : Nat) (w : W), Γ2[i]? = some (some w) → Γ[i]? = some (some w) := by
  induction h with
  | nil => exact ⟨rfl, fun i w e => e⟩
  | keep _ ih =>
    refine ⟨congrArg (· + 1) ih.1, fun i w e => ?_⟩
    cases i with
    | zero => exact e
    | succ i => exact ih.2 i w e
  | drop _ ih =>
    refine ⟨congrArg (· + 1) ih.1, fun i w e => ?_⟩
    cases i with
    | zero => simp at e
    | succ i => exact ih.2 i w e
theorem FgO.ex {k : Nat} {Ω Ω2 : Om} (h : FgO k Ω Ω2) : ∀ ρ : RO, ρ.length = Ω.length → ∃ ρ2 : RO, ρ2.length = Ω2.length ∧ k ≤ Ω2.length ∧ ∀ n : Nat, n < Ω2.length → (Ω2[n]? = some .gone ∧ k ≤ n ∧ ρ2[n]? = some none) ∨ (Ω2[n]? = Ω[n]? ∧ ρ2[n]? = ρ[n]?) := by
  induction h with
  | trunc => exact fun ρ _ => ⟨[], rfl, Nat.le_refl _, fun n hn => by simp at hn⟩
  | keep _ ih =>
    intro ρ hl
    cases ρ with
    | nil => simp at hl
    | cons a ρ =>
      obtain ⟨ρ2, h1, h2, h3⟩ := ih ρ (by simpa using hl)
      refine ⟨a :: ρ2, by simp [h1], by simp; omega, fun n hn => ?_⟩
      cases n with
      | zero => exact .inr ⟨rfl, rfl⟩
      | succ n =>
        rcases h3 n (by simpa using hn) with ⟨q1, q2, q3⟩ | ⟨q1, q2⟩
        · exact .inl ⟨q1, by omega, q3⟩
        · exact .inr ⟨q1, q2⟩
  | keep0 _ ih =>
    intro ρ hl
    cases ρ with
    | nil => simp at hl
    | cons a ρ =>
      obtain ⟨ρ2, h1, h2, h3⟩ := ih ρ (by simpa using hl)
      refine ⟨a :: ρ2, by simp [h1], Nat.zero_le _, fun n hn => ?_⟩
      cases n with
      | zero => exact .inr ⟨rfl, rfl⟩
      | succ n =>
        rcases h3 n (by simpa using hn) with ⟨q1, q2, q3⟩ | ⟨q1, q2⟩
        · exact .inl ⟨q1, by omega, q3⟩
        · exact .inr ⟨q1, q2⟩
  | gone _ ih =>
    intro ρ hl
    cases ρ with
    | nil => simp at hl
    | cons a ρ =>
      obtain ⟨ρ2, h1, h2, h3⟩ := ih ρ (by simpa using hl)
      refine ⟨none :: ρ2, by simp [h1], Nat.zero_le _, fun n hn => ?_⟩
      cases n with
      | zero => exact .inl ⟨rfl, Nat.zero_le _, rfl⟩
      | succ n =>
        rcases h3 n (by simpa using hn) with ⟨q1, q2, q3⟩ | ⟨q1, q2⟩
        · exact .inl ⟨q1, by omega, q3⟩
        · exact .inr ⟨q1, q2⟩
section
variable {K : PySem.W.Frag} {F : List Addr} {ρ : RO} {H : Hp} {Γ Γ2 : Gm} {Ω Ω2 : Om} {σ : L2.St} {k : Nat}
theorem Wd.fg (hw : Wd K F ρ Ω H) (h : FgO k Ω Ω2) (ho : Ω2.all (okO Ω2) = true) :
    ∃ ρ2, Step k ρ H ρ2 H ∧ Wd K F ρ2 Ω2 H ∧ (∀ v w, RpW K F ρ H v w → okW Ω2 w = true → RpW K F ρ2 H v w) ∧ (∀ n : Nat, n < Ω2.length → ρ2[n]? = some none ∨ ρ2[n]? = ρ[n]?) ∧ (∀ a, some a ∈ ρ2 → some a ∈ ρ) := by
  obtain ⟨ρ2, h1, h2, h3⟩ := h.ex ρ hw.len
  have at2 : ∀ (n : Nat) (a : Addr), ρ2[n]? = some (some a) → ρ[n]? = some (some a) := fun n a e => by
    have hn : n < Ω2.length := by rw [← h1]; exact (List.getElem?_eq_some_iff.mp e).1
    rcases h3 n hn with ⟨_, _, q⟩ | ⟨_, q⟩
    · rw [e] at q; cases q
    · rw [← q]; exact e
  have mem2 : ∀ a, some a ∈ ρ2 → some a ∈ ρ := fun a m => by
    obtain ⟨n, e⟩ := List.getElem?_of_mem m
    exact mem_of_get (at2 n a e)
  have kp : Kp (hid F ρ H) (hid F ρ2 H) := Kp.of fun a u q => by
    have f := hid_leF q
    obtain ⟨q, n⟩ := hid_le q
    exact hid_of q (fun m => n (mem2 a m)) f
  have wm : ∀ v w, RpW K F ρ H v w → okW Ω2 w = true → RpW K F ρ2 H v w := fun v w r ok => by
    cases w with
    | d x => exact Rp.mono kp r
    | l n =>
      obtain ⟨a, ev, ea⟩ := r
      refine ⟨a, ev, ?_⟩
      have ok : (match Ω2[n]? with | none => false | some .gone => false | some _ => true) = true := ok
      cases q : Ω2[n]? with
      | none => rw [q] at ok; cases ok
      | some od =>
        have hn := (List.getElem?_eq_some_iff.mp q).1
        rcases h3 n hn with ⟨g, _, _⟩ | ⟨_, e⟩
        · rw [g] at q
          cases q
          rw [g] at ok
          cases ok
        · rw [e]; exact ea
  have st : Step k ρ H ρ2 H := by
    refine ⟨fun a o e _ => e, fun n hn => ?_, fun a m => .inl (mem2 a m), fun a m => hw.trk m⟩
    rcases h3 n (by omega) with ⟨_, q, _⟩ | ⟨_, q⟩
    · omega
    · exact q
  refine ⟨ρ2, st, ⟨h1, fun i j a e1 e2 => hw.nd i j a (at2 i a e1) (at2 j a e2), fun n od e hg => ?_, fun n e => ?_, fun a ha => ⟨(hw.fr a ha).1, fun m => (hw.fr a ha).2 (mem2 a m)⟩⟩, wm, fun n hn => ?_, mem2⟩
  · have hn := (List.getElem?_eq_some_iff.mp e).1
    rcases h3 n hn with ⟨g, _, _⟩ | ⟨q1, q2⟩
    · rw [g] at e; cases e; exact (hg rfl).elim
    · rw [e] at q1
      obtain ⟨a, ea, r⟩ := hw.ob n od q1.symm hg
      refine ⟨a, by rw [q2]; exact ea, ?_⟩
      have okod : okO Ω2 od = true := List.all_eq_true.mp ho od (List.mem_of_getElem? e)
      cases od with
      | gone => trivial
      | ls ds => obtain ⟨vs, y, z⟩ := r; exact ⟨vs, y, RpL.mono kp z⟩
      | dk ds => obtain ⟨vs, y, z⟩ := r; exact ⟨vs, y, RpK.mono kp z⟩
      | dt ds => obtain ⟨vs, y, z⟩ := r; exact ⟨vs, y, RpT.mono kp z⟩
      | lw ds =>
        obtain ⟨vs, y, z⟩ := r
        refine ⟨vs, y, ?_⟩
        clear e q1 y hg
        have okod : ds.all (okW Ω2) = true := okod
        induction z with
        | nil => exact .nil
        | cons q r ih =>
          rw [List.all_cons, Bool.and_eq_true] at okod
          exact .cons (wm _ _ q okod.1) (ih okod.2 okod.2)
      | ins C ds =>
        obtain ⟨dx, vs, y, z⟩ := r
        refine ⟨dx, vs, y, ?_⟩
        clear e q1 y hg
        have okod : (ds.all fun p => okW Ω2 p.2) = true := okod
        induction z with
        | nil => exact .nil
        | cons q r ih =>
          rw [List.all_cons, Bool.and_eq_true] at okod
          exact .cons ⟨q.1, wm _ _ q.2 okod.1⟩ (ih okod.2 okod.2)
  · have hn := (List.getElem?_eq_some_iff.mp e).1
    rcases h3 n hn with ⟨_, _, g⟩ | ⟨q1, q2⟩
    · exact g
    · rw [q2]
      rw [e] at q1
      exact hw.dead n q1.symm
  · rcases h3 n hn with ⟨_, _, q⟩ | ⟨_, q⟩
    · exact .inl q
    · exact .inr q
end
section
variable {X : Cx} {k : Nat} {st : Stmt} {sts : List Stmt} {Γ Γ2 : Gm} {Ω Ω2 : Om} {P : Post}
theorem tB_fg {K : PySem.W.Frag} {D : Ends} {σ : L2.St} {H : Hp} (hG : FgG Γ Γ2) (hO : FgO k Ω Ω2) (h1 : Γ2.all (okS Ω2) = true) (h2 : Ω2.all (okO Ω2) = true) (h : tB K k Γ Ω P D σ H) : tB K k Γ2 Ω2 P D σ H := by
  obtain ⟨F, ρ, hw, hs, kn, kr, kb, kc⟩ := h
  obtain ⟨ρ2, s2, w2, rp, _, _⟩ := hw.fg hO h2
  obtain ⟨g1, g2⟩ := hG.get
  refine ⟨F, ρ2, w2, ⟨hs.1.trans g1, fun i w e => ?_⟩, fun ρ' σ' H' Γ' Ω' s => kn ρ' σ' H' Γ' Ω' (s2.trans s), fun v w ρ' H' Ω' s => kr v w ρ' H' Ω' (s2.trans s), fun ρ' σ' H' Γ' Ω' s => kb ρ' σ' H' Γ' Ω' (s2.trans s), fun ρ' σ' H' Γ' Ω' s => kc ρ' σ' H' Γ' Ω' (s2.trans s)⟩
  obtain ⟨v, ev, rv⟩ := hs.2 i w (g2 i w e)
  exact ⟨v, ev, rp v w rv (List.all_eq_true.mp h1 _ (List.mem_of_getElem? e))⟩
theorem bx_fg (hG : FgG Γ Γ2) (hO : FgO k Ω Ω2) (h : BX X k sts Γ2 Ω2 P) (h1 : Γ2.all (okS Ω2) = true := by rfl) (h2 : Ω2.all (okO Ω2) = true := by rfl) : BX X k sts Γ Ω P := PSs.wk h fun D σ H q => tB_fg hG hO h1 h2 q
theorem sx_fg (hG : FgG Γ Γ2) (hO : FgO k Ω Ω2) (h : SX X k st Γ2 Ω2 P) (h1 : Γ2.all (okS Ω2) = true := by rfl) (h2 : Ω2.all (okO Ω2) = true := by rfl) : SX X k st Γ Ω P := PS.wk h fun D σ H q => tB_fg hG hO h1 h2 q
/-- what a cell gives as a datum -/
inductive FzO : OD → Dt → Prop
  | ls {ds : List Dt} : FzO (.ls ds) (.lst ds)
  | dk {kvs : List (Key × Dt)} : FzO (.dk kvs) (.dic kvs)
  | dt {kvs : List (List Key × Dt)} : FzO (.dt kvs) (.dct kvs)
  | ins {C : Addr} {fs : List (Str × Dt)} : FzO (.ins C (fs.map fun p => (p.1, .d p.2))) (.ins C fs)
theorem FzO.rp {K : PySem.W.Frag} {F F1 : List Addr} {ρ ρ2 : RO} {H : Hp} {a : Addr} {od : OD} {x : Dt} (h : FzO od x) (r : RpO K F1 ρ H a od) (kp : Kp (hid F1 ρ H) (hid F ρ2 H)) (hn : some a ∉ ρ2) (hF : a ∉ F) : Rp K (hid F ρ2 H) (.ref a) x := by
  cases h with
  | ls => obtain ⟨vs, q, r⟩ := r; exact .lst (.inl (hid_of q hn hF)) (RpL.mono kp r)
  | dk => obtain ⟨vs, q, r⟩ := r; exact .dic (.inl (hid_of q hn hF)) (RpK.mono kp r)
  | dt => obtain ⟨vs, q, r⟩ := r; exact .dct (.inl (hid_of q hn hF)) (RpT.mono kp r)
  | ins =>
    rename_i C fs
    obtain ⟨dx, vs, q, r⟩ := r
    refine .ins (hid_of q hn hF) ?_
    have go : ∀ (fs : List (Str × Dt)) (vs : List (Str × V)), Paired (fun (p : Str × V) (q : Str × W) => p.1 = q.1 ∧ RpW K F1 ρ H p.2 q.2) vs (fs.map fun p => (p.1, W.d p.2)) → RpF K (hid F ρ2 H) vs fs := by
      intro fs
      induction fs with
      | nil => intro vs r; cases r; exact .nil
      | cons f fs ih =>
        intro vs r
        cases r with
        | cons q r =>
          rename_i z zs
          obtain ⟨z1, z2⟩ := z
          obtain ⟨q1, q2⟩ := q
          dsimp only at q1 q2
          subst q1
          exact .cons (Rp.mono kp q2) (ih _ r)
    exact go fs vs r
/-- a slot's owned thing becomes data; Ω2: without the cell -/
theorem bx_frz (i n : Nat) {od : OD} {x : Dt} (hG : Γ[i]? = some (some (.l n))) (hn : Ω[n]? = some od) (hz : FzO od x) (hk : k ≤ n) (hgG : FgG (Γ.set i none) Γ2) (hO : FgO k Ω Ω2) (hgone : Ω2[n]? = some .gone ∨ Ω2.length ≤ n)
    (h : BX X k sts (Γ2.set i (some (.d x))) Ω2 P) (h1 : Γ2.all (okS Ω2) = true := by rfl) (h2 : Ω2.all (okO Ω2) = true := by rfl) : BX X k sts Γ Ω P := by
  refine PSs.wk h fun D σ H ⟨F, ρ, hw, hs, kn, kr, kb, kc⟩ => ?_
  obtain ⟨ρ2, s2, w2, rp, gt, mem2⟩ := hw.fg hO h2
  obtain ⟨g1, g2⟩ := hgG.get
  rw [List.length_set] at g1
  obtain ⟨v, ev, a, rfl, ea⟩ := hs.2 i _ hG
  have hng : od ≠ .gone := fun z => by subst z; cases hz
  obtain ⟨b, eb, r⟩ := hw.ob n od hn hng
  rw [ea] at eb
  cases eb
  have na : some a ∉ ρ2 := fun m => by
    obtain ⟨j, ej⟩ := List.getElem?_of_mem m
    have hj : j < Ω2.length := by rw [← w2.len]; exact (List.getElem?_eq_some_iff.mp ej).1
    have q : ρ[j]? = some (some a) := by
      rcases gt j hj with q | q
      · rw [ej] at q; cases q
      · rw [← q]; exact ej
    have z := hw.nd n j a ea q
    subst z
    rcases hgone with q | q
    · have d := w2.dead n q
      rw [ej] at d
      cases d
    · omega
  have kp : Kp (hid F ρ H) (hid F ρ2 H) := Kp.of fun a u q => by
    have f := hid_leF q
    obtain ⟨q, n⟩ := hid_le q
    exact hid_of q (fun m => n (mem2 a m)) f
  have rx : Rp X.K (hid F ρ2 H) (.ref a) x := hz.rp r kp na (fun m => (hw.fr a m).2 (mem_of_get ea))
  refine ⟨F, ρ2, w2, ⟨by rw [List.length_set]; exact hs.1.trans g1, fun j w e => ?_⟩, fun ρ' σ' H' Γ' Ω' s => kn ρ' σ' H' Γ' Ω' (s2.trans s), fun v w ρ' H' Ω' s => kr v w ρ' H' Ω' (s2.trans s), fun ρ' σ' H' Γ' Ω' s => kb ρ' σ' H' Γ' Ω' (s2.trans s), fun ρ' σ' H' Γ' Ω' s => kc ρ' σ' H' Γ' Ω' (s2.trans s)⟩
  by_cases z : i = j
  · subst z
    have hl : i < Γ2.length := by rw [← g1]; exact (List.getElem?_eq_some_iff.mp hG).1
    rw [List.getElem?_set_self hl] at e
    cases e
    exact ⟨.ref a, ev, rx⟩
  · rw [List.getElem?_set_ne z] at e
    have q := g2 j w e
    rw [List.getElem?_set_ne z] at q
    obtain ⟨v, ev, rv⟩ := hs.2 j w q
    exact ⟨v, ev, rp v w rv (List.all_eq_true.mp h1 _ (List.mem_of_getElem? e))⟩
/-- return data, the local cells forgotten -/
theorem sx_retD {e : Expr} {x : Dt} {Ω1 : Om} {pos : Pos} (hk : k ≤ Ω.length) (he : PX X e Γ Ω (.d x) Ω1) (hO : FgO k Ω1 Ω2) (hP : P.rt (.d x) Ω2) (h2 : Ω2.all (okO Ω2) = true := by rfl) : SX X k (.Return (some e) pos) Γ Ω P :=
  PS.wk (ps_ret he) fun D σ H ⟨F, ρ, hw, hs, kn, kr, kb, kc⟩ => ⟨F, ρ, hw, hs, fun v1 ρ1 H1 s1 w1 r1 => by
    obtain ⟨ρ2, s2, w2, rp, _, _⟩ := w1.fg hO h2
    exact kr v1 (.d x) ρ2 H1 Ω2 ((s1.step (by rw [hw.len]; exact hk)).trans s2) w2 (rp v1 (.d x) r1 rfl) hP⟩
/-- the block ends, the local cells forgotten -/
theorem bx_nilF (hG : FgG Γ Γ2) (hO : FgO k Ω Ω2) (h : P.nx Γ2 Ω2) (h1 : Γ2.all (okS Ω2) = true := by rfl) (h2 : Ω2.all (okO Ω2) = true := by rfl) : BX X k [] Γ Ω P := bx_fg hG hO (bx_nil h) h1 h2
end

/-! ### stores -/
def putW (f : Str) (v : W) : List (Str × W) → List (Str × W)
  | [] => [(f, v)]
  | (g, x) :: r => if g = f then (g, v) :: r else (g, x) :: putW f v r
theorem putF_rel {K : PySem.W.Frag} {F : List Addr} {ρ : RO} {H : Hp} {f : Str} {v : V} {w : W} (rv : RpW K F ρ H v w) : ∀ {us : List (Str × V)} {fs : List (Str × W)}, Paired (fun (p : Str × V) (q : Str × W) => p.1 = q.1 ∧ RpW K F ρ H p.2 q.2) us fs → Paired (fun (p : Str × V) (q : Str × W) => p.1 = q.1 ∧ RpW K F ρ H p.2 q.2) (putF f v us) (putW f w fs)
  | _, _, .nil => .cons ⟨rfl, rv⟩ .nil
  | _, _, .cons (a := a) (b := b) q r => by
    obtain ⟨a1, a2⟩ := a
    obtain ⟨b1, b2⟩ := b
    obtain ⟨q1, q2⟩ := q
    dsimp only at q1 q2
    subst q1
    show Paired _ (if a1 = f then _ else _) (if a1 = f then _ else _)
    by_cases e : a1 = f
    · rw [if_pos e, if_pos e]; exact .cons ⟨rfl, rv⟩ r
    · rw [if_neg e, if_neg e]; exact .cons ⟨rfl, q2⟩ (putF_rel rv r)
theorem Kont.nxt {K : PySem.W.Frag} {F : List Addr} {ρ : RO} {H : Hp} : True := trivial
section
variable {X : Cx} {k n : Nat} {Γ : Gm} {Ω Ω1 Ω2 Ω3 : Om} {P : Post} {o i e : Expr} {w wi : W} {pos pos' : Pos} {Cl : Addr} {fs : List (Str × W)} {f : Str}
/-- o.f = e, o owned -/
theorem sx_fld (hk : k ≤ Ω.length) (he : PX X e Γ Ω w Ω1) (ho : PX X o Γ Ω1 (.l n) Ω2) (hn : Ω2[n]? = some (.ins Cl fs)) (hc : Cls X.K Cl) (hna : NoAttr X.K Cl f) (hl : fs.length < 1000) (hP : P.nx Γ (Ω2.set n (.ins Cl (putW f w fs)))) (hs : swapsWith e (some (.Attribute o f pos')) pos.line X.env = pure false := by rfl) :
    SX X k (.Assign [.Attribute o f pos'] e pos) Γ Ω P :=
  PS.wk (ps_fld ho he hs) fun D σ H ⟨F, ρ, hw, hs, kn, kr, kb, kc⟩ => ⟨F, ρ, hw, hs, fun v1 ρ1 H1 s1 w1 r1 => ⟨F, ρ1, w1, hs.xs s1, fun v2 ρ2 H2 s2 w2 r2 => by
    obtain ⟨a, rfl, ea⟩ := r2
    obtain ⟨b, eb, q⟩ := w2.ob _ _ hn (fun z => by cases z)
    rw [ea] at eb
    cases eb
    obtain ⟨dx, us, q, r⟩ := q
    have e1 : us.length = fs.length := Paired.length r
    refine ⟨a, Cl, dx, us, rfl, q, hc, hna, by omega, ?_⟩
    have st : Step k ρ2 H2 ρ2 (upd H2 a (.ins Cl dx (putF f v1 us))) := step_put w2 ea
    refine kn ρ2 σ _ Γ _ (((s1.trans s2).step (by rw [hw.len]; exact hk)).trans st) (w2.put (od := .ins Cl (putW f w fs)) hn (fun z => by cases z) ea (fun z => by cases z) ⟨dx, _, upd_same, ?_⟩) (((hs.xs s1).xs s2).mono st (Pre.refl ρ2)) hP
    exact putF_rel (RpW.put ea (r1.xs s2)) (Paired.imp (fun _ _ z => ⟨z.1, RpW.put ea z.2⟩) r)⟩⟩
/-- what a dict's cell is behind a store -/
inductive DpOf (Ω : Om) : Nat → Dt → Dt → OD → Nat → Prop
  | k {n : Nat} {kvs : List (Key × Dt)} {q : Key} {x : Dt} (h : Ω[n]? = some (.dk kvs)) : DpOf Ω n (kD q) x (.dk (putD kvs q x)) kvs.length
  | t {n : Nat} {kvs : List (List Key × Dt)} {q : List Key} {x : Dt} (h : Ω[n]? = some (.dt kvs)) : DpOf Ω n (.kt q) x (.dt (putD kvs q x)) kvs.length
/-- d[k] = e, d owned -/
theorem sx_dput {x y : Dt} {od : OD} {m : Nat} (hu : X.A.units + 1 < cLine) (hk : k ≤ Ω.length) (he : PX X e Γ Ω (.d x) Ω1) (ho : PX X o Γ Ω1 (.l n) Ω2) (hi : PX X i Γ Ω2 (.d y) Ω3) (hd : DpOf Ω3 n y x od m) (hm : m < sizeLine) (hP : P.nx Γ (Ω3.set n od)) (hs : swapsWith e (some (.Subscript o i pos')) pos.line X.env = pure false := by rfl) :
    SX X k (.Assign [.Subscript o i pos'] e pos) Γ Ω P :=
  PS.wk (ps_dput hu ho hi he hs) fun D σ H ⟨F, ρ, hw, hs, kn, kr, kb, kc⟩ => ⟨F, ρ, hw, hs, fun v1 ρ1 H1 s1 w1 r1 => ⟨F, ρ1, w1, hs.xs s1, fun v2 ρ2 H2 s2 w2 r2 => ⟨F, ρ2, w2, (hs.xs s1).xs s2, fun v3 ρ3 H3 s3 w3 r3 => by
    have r2' := r2.xs s3
    have rv : Rp X.K (hid F ρ3 H3) v1 x := (r1.xs s2).xs s3
    have s0 : Step k ρ H ρ3 H3 := ((s1.trans s2).trans s3).step (by rw [hw.len]; exact hk)
    have l3 := ((hs.xs s1).xs s2).xs s3
    cases hd with
    | k h =>
      rename_i kvs kk
      obtain ⟨a, us, rfl, ea, q, r⟩ := own_dk w3 h r2'
      obtain rfl := kV_inv r3
      have e1 := r.length
      refine ⟨a, _, rfl, DPut.k q (by omega), ?_⟩
      have st : Step k ρ3 H3 ρ3 (upd H3 a (.dK (putK us kk v1))) := step_put w3 ea
      refine kn ρ3 σ _ Γ _ (s0.trans st) (w3.put (od := .dk (putD kvs kk x)) h (fun z => by cases z) ea (fun z => by cases z) ⟨_, upd_same, ?_⟩) (l3.mono st (Pre.refl ρ3)) hP
      rw [hid_put ea]
      exact r.put rv
    | t h =>
      rename_i kvs kk
      obtain ⟨a, us, rfl, ea, q, r⟩ := own_dt w3 h r2'
      obtain ⟨b, rfl, eb⟩ := r3.kt_inv
      have e1 := r.length
      refine ⟨a, _, rfl, DPut.t q eb (by omega), ?_⟩
      have st : Step k ρ3 H3 ρ3 (upd H3 a (.dT (putK us kk v1))) := step_put w3 ea
      refine kn ρ3 σ _ Γ _ (s0.trans st) (w3.put (od := .dt (putD kvs kk x)) h (fun z => by cases z) ea (fun z => by cases z) ⟨_, upd_same, ?_⟩) (l3.mono st (Pre.refl ρ3)) hP
      rw [hid_put ea]
      exact r.put rv⟩⟩⟩
/-- xs[i] of a list, as a read for xs[i] op= e -/
def rGetL : V → V → Hp → VK → Prop := fun o i H Q => ∃ p xs j v, o = .ref p ∧ i = .int j ∧ 0 ≤ j ∧ H p = some (.lst xs) ∧ xs[j.toNat]? = some v ∧ Q v H
theorem get_listL : PGet X rGetL := by
  intro pins s σ H o i ov iv Q I ro ri h
  obtain ⟨p, xs, j, v, rfl, rfl, h0, hH, hx, q⟩ := h
  cases ro
  obtain ⟨t, rfl⟩ := ri
  obtain ⟨z, its, n, r, e⟩ := I.hok p _ hH
  obtain ⟨u, eu, ru⟩ := r.get hx
  have hl := r.length
  have hj := (List.getElem?_eq_some_iff.mp hx).1
  have hn := line63
  exact PySem.wpAny_getItem_list ⟨_, e, rfl, n, rfl⟩ h0 (by omega) (by simpa using eu) ⟨v, H, I, ru, q⟩
/-- xs[i] op= e of an owned list of ints -/
theorem sx_augL {op : Operator} {g : Int → Int → Int} {ds : List Dt} {j : Nat} {a b : Int} (hk : k ≤ Ω.length) (hp : PIp X op (ipI g)) (ho : PX X o Γ Ω (.l n) Ω1) (hi : PX X i Γ Ω1 (.d (.int (j : Nat))) Ω2) (he : PX X e Γ Ω2 (.d (.int b)) Ω3) (h2 : Ω2[n]? = some (.ls ds)) (h3 : Ω3[n]? = some (.ls ds)) (hx : ds[j]? = some (.int a)) (hP : P.nx Γ (Ω3.set n (.ls (ds.set j (.int (g a b))))))
    (hau : ∀ ov iv new, augStore i ov iv new = (do holding [new, ov, iv] (setItem ov iv new); release [new, ov, iv] []; pure .next) := by intro _ _ _; rfl) : SX X k (.AugAssign (.Subscript o i pos') op e pos) Γ Ω P :=
  PS.wk (ps_augS ho hi get_listL he hp set_list hau) fun D σ H ⟨F, ρ, hw, hs, kn, kr, kb, kc⟩ => ⟨F, ρ, hw, hs, fun v1 ρ1 H1 s1 w1 r1 => ⟨F, ρ1, w1, hs.xs s1, fun v2 ρ2 H2 s2 w2 r2 => by
    obtain ⟨p, us, rfl, ea, q, r⟩ := own_at w2 h2 (r1.xs s2)
    obtain rfl := r2.int_inv
    obtain ⟨v, ev, rv⟩ := RpL.get (i := 0) r hx
    obtain rfl := rv.int_inv
    refine ⟨p, us, j, _, rfl, rfl, Int.natCast_nonneg _, q, by rw [Int.toNat_natCast]; exact ev, F, ρ2, w2, (hs.xs s1).xs s2, fun v3 ρ3 H3 s3 w3 r3 => ?_⟩
    obtain rfl := r3.int_inv
    obtain ⟨p', us', e', ea', q', r'⟩ := own_at w3 h3 ((r1.xs s2).xs s3)
    cases e'
    have hj := (List.getElem?_eq_some_iff.mp hx).1
    have hl := r'.length
    refine ⟨a, b, rfl, rfl, p, us', j, j, rfl, rfl, q', ?_, ?_⟩
    · unfold ixN
      rw [if_pos (Int.natCast_nonneg _), if_pos (by omega), Int.toNat_natCast]
    · have st : Step k ρ3 H3 ρ3 (upd H3 p (.lst (us'.set j (.int (g a b))))) := step_put w3 ea'
      refine kn ρ3 σ _ Γ _ ((((s1.trans s2).trans s3).step (by rw [hw.len]; exact hk)).trans st) (w3.put (od := .ls (ds.set j (.int (g a b)))) h3 (fun z => by cases z) ea' (fun z => by cases z) ⟨_, upd_same, ?_⟩) ((((hs.xs s1).xs s2).xs s3).mono st (Pre.refl ρ3)) hP
      rw [hid_put ea']
      exact RpL.set (.int _) j r'⟩⟩
/-- xs[i] = e of an owned list -/
theorem sx_setL {ds : List Dt} {j : Int} {q : Nat} {x : Dt} (hk : k ≤ Ω.length) (he : PX X e Γ Ω (.d x) Ω1) (ho : PX X o Γ Ω1 (.l n) Ω2) (hi : PX X i Γ Ω2 (.d (.int j)) Ω3) (h3 : Ω3[n]? = some (.ls ds)) (hq : ixN ds.length j = some q) (hP : P.nx Γ (Ω3.set n (.ls (ds.set q x))))
    (ha : ∀ v, assign (.Subscript o i pos') X.env v = (do
      let ov ← holding [v] (eval o X.env)
      let iv ← holding [v, ov] (eval i X.env)
      standAt pos'
      holding [v, ov, iv] (setItem ov iv v)
      release [v, ov, iv] []) := by intro _; rfl)
    (hs : swapsWithSole [.Subscript o i pos'] e pos.line X.env = pure false := by rfl) (hw : swappedStores [.Subscript o i pos'] e X.env = pure none := by rfl)
    (h1 : (assignEach [.Subscript o i pos'] X.env).map (·.2) = [assign (.Subscript o i pos') X.env] := by rfl) : SX X k (.Assign [.Subscript o i pos'] e pos) Γ Ω P :=
  PS.wk (ps_asg he (pg_sub ho hi set_list ha) hs hw h1) fun D σ H ⟨F, ρ, hw, hs, kn, kr, kb, kc⟩ => ⟨F, ρ, hw, hs, fun v1 ρ1 H1 s1 w1 r1 => ⟨F, ρ1, w1, hs.xs s1, fun v2 ρ2 H2 s2 w2 r2 => ⟨F, ρ2, w2, (hs.xs s1).xs s2, fun v3 ρ3 H3 s3 w3 r3 => by
    obtain ⟨p, us, rfl, ea, hH, r⟩ := own_at w3 h3 (r2.xs s3)
    obtain rfl := r3.int_inv
    have rv : Rp X.K (hid F ρ3 H3) v1 x := (r1.xs s2).xs s3
    refine ⟨p, us, j, q, rfl, rfl, hH, by rw [r.length]; exact hq, ?_⟩
    have st : Step k ρ3 H3 ρ3 (upd H3 p (.lst (us.set q v1))) := step_put w3 ea
    refine kn ρ3 σ _ Γ _ ((((s1.trans s2).trans s3).step (by rw [hw.len]; exact hk)).trans st) (w3.put (od := .ls (ds.set q x)) h3 (fun z => by cases z) ea (fun z => by cases z) ⟨_, upd_same, ?_⟩) ((((hs.xs s1).xs s2).xs s3).mono st (Pre.refl ρ3)) hP
    rw [hid_put ea]
    exact RpL.set rv q r⟩⟩⟩
end
end DL
/-! D layer, part 9: name = [..], dict comprehensions, dicts walked, weakening. -/
namespace DL
open PySem PySem.Spec PyProof.Rows L2
section
variable {X : Cx} {elt tg iter : Expr} {ifs : List Expr} {scope : Scope} {own : List (Str × Nat)} {pos spos py : Pos} {Γ : Gm} {Ω Ω1 Ω2 : Om} {ws : List W} {Cs : List (Nat × OD)} {g : TG} {is : List Nat} {y : Str} {k : Nat} {P : Post} {w : W}
theorem sx_lc {α : Type} (i : Nat) (xs : List α) (enc : α → W) (Γx : α → Gm) (c : α → Bool) (f : α → Dt)
    (hend : ∀ (F : List Addr) (ρ : RO) (H1 H : Hp) (D : Addr) (Q : VK), Wd X.K F ρ Ω1 H1 → H1 D = none → Cw X.K F ρ Ω1 H1 D ((xs.filter c).map f) H → Kont X.K F ρ H1 Ω2 w Q → Q (.ref D) H)
    (hk : k ≤ Ω.length) (hc : X.calm = true) (hN : X.N.Nodup) (hi : IX X tg iter Γ Ω ws Cs Ω1) (ok : BlkOk X.N X.env.scope scope own) (hws : ws = xs.map enc) (hcs : ∀ c ∈ Cs, Ω1[c.1]? = some c.2) (hz : xs.length < sizeLine)
    (hpg : ∀ (s : Shared) (H : Hp) (C : Addr) (cl : List (Str × Addr)) (fp : List Addr), PG (X.blk s H scope (compEnvC scope cl C X.env) fp) tg g)
    (hg : ∀ x ∈ xs, GX X.K g (wipeG Γ (own.map (·.2))) (enc x) (Γx x) is) (his : ∀ i ∈ is, i ∈ own.map (·.2))
    (ht : ∀ x ∈ xs, ∀ (s : Shared) (H : Hp) (C : Addr) (cl : List (Str × Addr)) (fp : List Addr), TsX (X.blk s H scope (compEnvC scope cl C X.env) fp) ifs (Γx x) Ω1 (c x))
    (he : ∀ x ∈ xs, c x = true → ∀ (s : Shared) (H : Hp) (C : Addr) (cl : List (Str × Addr)) (fp : List Addr), PX (X.blk s H scope (compEnvC scope cl C X.env) fp) elt (Γx x) Ω1 (.d (f x)) Ω1)
    (hP : P.nx (Γ.set i (some w)) Ω2)
    (hsw : swapsWith (.ListComp elt [⟨tg, iter, ifs, 0⟩] scope pos) (some (.Name y py)) spos.line X.env = pure true) (hy : X.N[i]? = some y := by rfl) (hyl : X.env.scope.names.lookup y = some .local := by rfl)
    (hs : ∀ x, foldedSetIterable iter X.env x = pure x := by intro _; rfl) : SX X k (.Assign [.Name y py] (.ListComp elt [⟨tg, iter, ifs, 0⟩] scope pos) spos) Γ Ω P :=
  PS.wk (ps_setLc hc hN hy hyl hsw hi ok hpg (fun s H C cl fp => PTs.ex (p := (· ∈ xs)) (t := fun x => tTX X.K (Γx x) Ω1 (c x) Ω1) fun x hx => ht x hx s H C cl fp) (fun s H C cl fp => PE.ex (p := fun x => x ∈ xs ∧ c x = true) (t := fun x => tX X.K (Γx x) Ω1 (.d (f x)) Ω1) fun x hx => he x hx.1 hx.2 s H C cl fp) hs)
    fun D σ H ⟨F, ρ, hw, hs, kn, kr, kb, kc⟩ => ⟨F, ρ, hw, hs, fun J ρ1 H1 s1 w1 wx => fun Dl hD => lc_read xs enc Γx c f w1 (hs.xs s1) wx hws hcs hz hD hg his fun H2 cw => hend F ρ1 H1 H2 Dl _ w1 hD cw fun v ρ3 H3 s3 w3 r3 =>
      kn ρ3 _ H3 _ Ω2 ((s1.trans s3).step (by rw [hw.len]; exact hk)) w3 (((hs.xs s1).xs s3).set r3 i) hP⟩
end
end DL
/-! D layer, part 10: locks, comprehensions with effects, dict comprehensions. -/
namespace DL
open PySem PySem.Spec PyProof.Rows L2

/-! ### heaps alike, locks -/
section
variable {K : PySem.W.Frag} {F : List Addr} {ρ ρ' : RO} {H H' : Hp} {Ω Ω' : Om} {d : Addr} {u : HO} {o : Obj} {k : Nat}
theorem RpW.kp (kp : Kp (hid F ρ H) (hid F ρ H')) {v : V} {w : W} (r : RpW K F ρ H v w) : RpW K F ρ H' v w := by
  cases w with
  | d x => exact Rp.mono kp r
  | l n => exact r
theorem Wd.alike (hw : Wd K F ρ Ω H) (kp : Kp (hid F ρ H) (hid F ρ H')) (eq : ∀ a, some a ∈ ρ → H' a = H a) (fr : ∀ a ∈ F, H' a ≠ none) : Wd K F ρ Ω H' := by
  refine ⟨hw.len, hw.nd, fun n od en hg => ?_, hw.dead, fun a ha => ⟨fr a ha, (hw.fr a ha).2⟩⟩
  obtain ⟨a, ea, r⟩ := hw.ob n od en hg
  refine ⟨a, ea, ?_⟩
  have e := eq a (mem_of_get ea)
  cases od with
  | gone => trivial
  | ls ds => obtain ⟨vs, q, r⟩ := r; exact ⟨vs, e.trans q, RpL.mono kp r⟩
  | lw ds => obtain ⟨vs, q, r⟩ := r; exact ⟨vs, e.trans q, Paired.imp (fun _ _ z => z.kp kp) r⟩
  | dk ds => obtain ⟨vs, q, r⟩ := r; exact ⟨vs, e.trans q, RpK.mono kp r⟩
  | dt ds => obtain ⟨vs, q, r⟩ := r; exact ⟨vs, e.trans q, RpT.mono kp r⟩
  | ins C ds => obtain ⟨dx, vs, q, r⟩ := r; exact ⟨dx, vs, e.trans q, Paired.imp (fun _ _ z => ⟨z.1, z.2.kp kp⟩) r⟩
def IsDo (u : HO) : Prop := (∃ ws, u = .dK ws) ∨ ∃ ws, u = .dT ws
theorem IsDo.mut (h : IsDo u) : Mut (some u) := by
  rcases h with ⟨ws, rfl⟩ | ⟨ws, rfl⟩ <;> exact True.intro
theorem kp_lockH {h : Hp} (e : h d = some u) (i : IsDo u) : Kp h (upd h d (.frz o u)) := by
  have nf : ∀ o' x, u ≠ .frz o' x := fun o' x z => by rcases i with ⟨ws, rfl⟩ | ⟨ws, rfl⟩ <;> cases z
  have r : ∀ a x, Rd h a x → Rd (upd h d (.frz o u)) a x := fun a x q => by
    by_cases z : a = d
    · subst z
      rcases q with q | ⟨o', q⟩
      · rw [e] at q; cases q; exact .inr ⟨o, upd_same⟩
      · rw [e] at q; cases q; exact (nf _ _ rfl).elim
    · rcases q with q | ⟨o', q⟩
      · exact .inl (by rw [upd_ne z]; exact q)
      · exact .inr ⟨o', by rw [upd_ne z]; exact q⟩
  refine ⟨fun a xs q => ?_, fun a _ => r a _, fun a _ => r a _, fun a _ => r a _, fun a _ => r a _, fun a C dx fs q => ?_⟩
  · rw [upd_ne (fun z => by subst z; rw [e] at q; cases q; rcases i with ⟨_, z⟩ | ⟨_, z⟩ <;> cases z)]; exact q
  · rw [upd_ne (fun z => by subst z; rw [e] at q; cases q; rcases i with ⟨_, z⟩ | ⟨_, z⟩ <;> cases z)]; exact q
theorem kp_unlockH {h : Hp} (e : h d = some (.frz o u)) : Kp h (upd h d u) := by
  have r : ∀ a x, (∀ o' y, x ≠ .frz o' y) → Rd h a x → Rd (upd h d u) a x := fun a x n q => by
    by_cases z : a = d
    · subst z
      rcases q with q | ⟨o', q⟩
      · rw [e] at q; cases q; exact (n _ _ rfl).elim
      · rw [e] at q; cases q; exact .inl upd_same
    · rcases q with q | ⟨o', q⟩
      · exact .inl (by rw [upd_ne z]; exact q)
      · exact .inr ⟨o', by rw [upd_ne z]; exact q⟩
  refine ⟨fun a xs q => ?_, fun a _ => r a _ (fun _ _ z => nomatch z), fun a _ => r a _ (fun _ _ z => nomatch z), fun a _ => r a _ (fun _ _ z => nomatch z), fun a _ => r a _ (fun _ _ z => nomatch z), fun a C dx fs q => ?_⟩
  · rw [upd_ne (fun z => by subst z; rw [e] at q; cases q)]; exact q
  · rw [upd_ne (fun z => by subst z; rw [e] at q; cases q)]; exact q
theorem hid_upd {x : HO} (n : some d ∉ ρ) (m : d ∉ F) : hid F ρ (upd H d x) = upd (hid F ρ H) d x := by
  funext a
  by_cases z : a = d
  · subst z
    rw [upd_same]
    exact hid_of upd_same n m
  · rw [upd_ne z]
    unfold hid
    by_cases y : some a ∈ ρ ∨ a ∈ F
    · rw [if_pos y, if_pos y]
    · rw [if_neg y, if_neg y, upd_ne z]
theorem kp_lock (e : H d = some u) (i : IsDo u) (n : some d ∉ ρ) (m : d ∉ F) : Kp (hid F ρ H) (hid F ρ (upd H d (.frz o u))) := by
  rw [hid_upd n m]
  exact kp_lockH (hid_of e n m) i
theorem kp_unlock (e : H d = some (.frz o u)) (n : some d ∉ ρ) (m : d ∉ F) : Kp (hid F ρ H) (hid F ρ (upd H d u)) := by
  rw [hid_upd n m]
  exact kp_unlockH (hid_of e n m)
theorem Wd.lock (hw : Wd K F ρ Ω H) (e : H d = some u) (i : IsDo u) (n : some d ∉ ρ) (m : d ∉ F) : Wd K F ρ Ω (upd H d (.frz o u)) :=
  hw.alike (kp_lock e i n m) (fun a ma => upd_ne (fun z : a = d => n (by rw [← z]; exact ma))) fun a ma => by rw [upd_ne (fun z : a = d => m (by rw [← z]; exact ma))]; exact (hw.fr a ma).1
theorem Wd.unlock (hw : Wd K F ρ Ω H) (e : H d = some (.frz o u)) (n : some d ∉ ρ) (m : d ∉ F) : Wd K F ρ Ω (upd H d u) :=
  hw.alike (kp_unlock e n m) (fun a ma => upd_ne (fun z : a = d => n (by rw [← z]; exact ma))) fun a ma => by rw [upd_ne (fun z : a = d => m (by rw [← z]; exact ma))]; exact (hw.fr a ma).1
theorem Sl.kp {Γ : Gm} {σ : L2.St} (h : Sl K F ρ Γ σ H) (kp : Kp (hid F ρ H) (hid F ρ H')) : Sl K F ρ Γ σ H' := ⟨h.1, fun i w e => let ⟨v, ev, r⟩ := h.2 i w e; ⟨v, ev, r.kp kp⟩⟩
/-- a stretch under a lock, seen from outside -/
theorem Step.unlock (s : Step k ρ (upd H d (.frz o u)) ρ' H') (e : H d = some u) (n : some d ∉ ρ) : H' d = some (.frz o u) ∧ some d ∉ ρ' ∧ Step k ρ H ρ' (upd H' d u) := by
  have e1 := s.ext d _ upd_same n
  have n1 : some d ∉ ρ' := fun m => by
    rcases s.new d m with q | q
    · exact n q
    · rw [upd_same] at q; cases q
  refine ⟨e1, n1, fun a x q m => ?_, s.old, fun a m => ?_, fun a m => ?_⟩
  · by_cases z : a = d
    · subst z; rw [e] at q; cases q; exact upd_same
    · rw [upd_ne z]; exact s.ext a x (by rw [upd_ne z]; exact q) m
  · rcases s.new a m with q | q
    · exact .inl q
    · rw [upd_ne (fun z : a = d => n1 (by rw [← z]; exact m))] at q; exact .inr q
  · by_cases z : a = d
    · subst z; rw [upd_same]; exact fun y => nomatch y
    · rw [upd_ne z]; exact s.trk a m
end

/-! ### keys that are walked -/
theorem rpk_keys {K : PySem.W.Frag} {H : Hp} : ∀ {ws : List (Key × V)} {kvs : List (Key × Dt)}, RpK K H ws kvs → ws.map (·.1) = kvs.map (·.1)
  | _, _, .nil => rfl
  | _, _, .cons _ r => by rw [List.map_cons, List.map_cons, rpk_keys r]
theorem walkX_keys {K : PySem.W.Frag} {F : List Addr} {ρ1 : RO} {H1 : Hp} {d : Addr} {o : Obj} {us : List (Key × V)} {ks : List Key} (e : H1 d = some (.frz o (.dK us))) (n : some d ∉ ρ1) (hk : us.map (·.1) = ks) : WalkX K F (Itk d o us) ρ1 H1 (ks.map fun k => .d (kD k)) [] := by
  subst hk
  refine ⟨fun H => H d = some (.frz o (.dK us)), fun i H x H' => H' = H ∧ ∃ k v, us[i]? = some (k, v) ∧ x = kV k, ?_, fun F2 ρ Ω H _ _ xt _ => xt d _ e n, ?_⟩
  · have h : ((us.map (·.1)).map fun k => W.d (kD k)).length = us.length := by simp
    rw [h]
    exact walk_keys
  · rintro i H x H' F2 ρ Ω hc s xt hw hi ⟨rfl, k, v, ek, rfl⟩
    exact ⟨.d (kD k), by rw [List.getElem?_map, List.getElem?_map, ek]; rfl, Step.refl hw, hw, rp_kV k⟩

/-! ### comprehensions with effects -/
/-- what a comprehension keeps between two turns: the new object at D -/
structure CwE (K : PySem.W.Frag) (F : List Addr) (ρ : RO) (Ω' : Om) (H1 : Hp) (D : Addr) (od : OD) (H : Hp) : Prop where
  ex : ∃ ρ', Step ρ.length ρ H1 ρ' H ∧ Pre ρ ρ' ∧ Wd K (D :: F) ρ' Ω' H ∧ Le (hid F ρ H1) (hid (D :: F) ρ' H) ∧ RpO K (D :: F) ρ' H D od
section
variable {K : PySem.W.Frag} {F : List Addr} {ρ : RO} {H H1 : Hp} {Ω Ω1 : Om} {D : Addr} {od : OD} {x : Dt} {Q : VK}
theorem RpO.adopt (hg : od ≠ .gone) (r : RpO K (D :: F) ρ H D od) : RpO K F (ρ ++ [some D]) H D od := by
  cases od with
  | gone => trivial
  | ls ds => obtain ⟨vs, q, r⟩ := r; exact ⟨vs, q, RpL.eqv hid_adopt.symm r⟩
  | lw ds => obtain ⟨vs, q, r⟩ := r; exact ⟨vs, q, Paired.imp (fun _ _ u => RpW.adopt u) r⟩
  | dk ds => obtain ⟨vs, q, r⟩ := r; exact ⟨vs, q, RpK.eqv hid_adopt.symm r⟩
  | dt ds => obtain ⟨vs, q, r⟩ := r; exact ⟨vs, q, RpT.eqv hid_adopt.symm r⟩
  | ins C ds => obtain ⟨dx, vs, q, r⟩ := r; exact ⟨dx, vs, q, Paired.imp (fun _ _ u => ⟨u.1, RpW.adopt u.2⟩) r⟩
/-- how a comprehension's object is taken: as data, or owned -/
inductive EndC (Ω1 : Om) (od : OD) : W → Om → Prop
  | d {x : Dt} (h : FzO od x) : EndC Ω1 od (.d x) Ω1
  | l (h : od ≠ .gone) : EndC Ω1 od (.l Ω1.length) (Ω1 ++ [od])
theorem EndC.go {w : W} {Ω2 : Om} (h : EndC Ω1 od w Ω2) (nF : D ∉ F) (hD : H1 D = none) (hd : some D ∉ ρ) (cw : CwE K F ρ Ω1 H1 D od H) :
    ∃ ρ2, XS ρ H1 ρ2 H ∧ Wd K F ρ2 Ω2 H ∧ RpW K F ρ2 H (.ref D) w := by
  obtain ⟨ρ', s, p, wd, le, r⟩ := cw.ex
  have hn := (wd.fr D (List.mem_cons_self ..)).2
  cases h with
  | d h => exact ⟨ρ', ⟨s, p⟩, wd.unhide, h.rp (F := F) (ρ2 := ρ') r kp_hide hn nF⟩
  | l h =>
    have p2 : Pre ρ' (ρ' ++ [some D]) := ⟨_, rfl⟩
    refine ⟨_, ⟨⟨s.ext, fun n hn => (p2.old (Nat.lt_of_lt_of_le hn p.len)).trans (s.old n hn), fun a m => ?_, s.trk⟩, p.trans p2⟩, wd.adopt nF h (RpO.adopt h r), D, rfl, ?_⟩
    · rcases List.mem_append.mp m with q | q
      · exact s.new a q
      · simp at q; subst q; exact .inr hD
    · rw [← wd.len, List.getElem?_append_right (Nat.le_refl _), Nat.sub_self]
      rfl
end
section
variable {K : PySem.W.Frag} {F : List Addr} {ρ : RO} {H1 : Hp} {D : Addr} {σ : L2.St} {Γ : Gm} {vs is : List Nat} {J : It} {ws : List W} {Cs : List (Nat × OD)} {g : TG} {Qd : Hp → Prop}
theorem wipe_twice {σ : L2.St} {vs : List Nat} : wipe (wipe σ vs) vs = wipe σ vs := by
  apply List.ext_getElem?
  intro j
  rw [wipe_get, wipe_get, wipe_length]
  by_cases z : j ∈ vs ∧ j < σ.length
  · rw [if_pos z, if_pos z]
  · rw [if_neg z, if_neg z]
/-- the shared part of the readings: the state in which the i-th turn stands -/
theorem ce_turn {α : Type} (xs : List α) (enc : α → W) (Γx : α → Gm) (Ωs : Nat → Om) (od : Nat → OD) {H H' : Hp} {i : Nat} {x : V} {Y : Nat → Hp → V → Hp → Prop} {R : L2.St → Hp → Prop}
    (hw : Wd K F ρ (Ωs 0) H1) (hs : Sl K F ρ Γ σ H1)
    (hY : ∀ i H x H' F2 ρ' Ω, (∀ c ∈ Cs, ρ'[c.1]? = ρ[c.1]? ∧ Ω[c.1]? = some c.2) → Le (hid F ρ H1) (hid F2 ρ' H) → Xt ρ H1 H → Wd K F2 ρ' Ω H → i < xs.length → Y i H x H' → ∃ w, (xs.map enc)[i]? = some w ∧ Step ρ'.length ρ' H ρ' H' ∧ Wd K F2 ρ' Ω H' ∧ RpW K F2 ρ' H' x w)
    (hcs : ∀ i, ∀ c ∈ Cs, (Ωs i)[c.1]? = some c.2) (hg : ∀ x ∈ xs, GX K g (wipeG Γ vs) (enc x) (Γx x) is) (his : ∀ i ∈ is, i ∈ vs) (hi : i < xs.length) (cw : CwE K F ρ (Ωs i) H1 D (od i) H) (y : Y i H x H')
    (hR : ∀ σ2 ρ', wipe σ2 vs = wipe σ vs → Step ρ.length ρ H1 ρ' H' → Pre ρ ρ' → Wd K (D :: F) ρ' (Ωs i) H' → Le (hid F ρ H1) (hid (D :: F) ρ' H') → RpO K (D :: F) ρ' H' D (od i) → Sl K (D :: F) ρ' (Γx xs[i]) σ2 H' → R σ2 H') : g x (wipe σ vs) H' R := by
  obtain ⟨ρ', s, p, wd, le, r⟩ := cw.ex
  have hold : ∀ c ∈ Cs, ρ'[c.1]? = ρ[c.1]? := fun c m => s.old _ (by rw [hw.len]; exact (List.getElem?_eq_some_iff.mp (hcs 0 c m)).1)
  obtain ⟨w, ew, st, w', r'⟩ := hY i H x H' (D :: F) ρ' (Ωs i) (fun c m => ⟨hold c m, hcs i c m⟩) le s.ext wd hi y
  rw [List.getElem?_map, List.getElem?_eq_getElem hi] at ew
  obtain rfl : enc xs[i] = w := Option.some.inj ew
  have st0 : Step ρ.length ρ' H ρ' H' := st.le p.len
  have le2 : Le (hid F ρ H1) (hid (D :: F) ρ' H') := le.trans st.hid
  have hs2 : Sl K (D :: F) ρ' (wipeG Γ vs) (wipe σ vs) H' := ⟨(hs.wipe vs).1, fun j u ej => by
    obtain ⟨v, ev, r⟩ := (hs.wipe vs).2 j u ej
    refine ⟨v, ev, ?_⟩
    cases u with
    | d z => exact Rp.mono le2.kp r
    | l n => obtain ⟨a, e, q⟩ := r; exact ⟨a, e, p.get q⟩⟩
  refine hg xs[i] (List.getElem_mem hi) (D :: F) ρ' (Ωs i) H' x _ _ w' hs2 r' fun σ2 hs3 hv => hR σ2 ρ' ((hv vs his).trans wipe_twice) (s.trans st0) p w' le2 (r.mono st (Pre.refl ρ') fun o q => ?_) hs3
  exact st.ext _ _ q (wd.fr D (List.mem_cons_self ..)).2
/-- the reading of a list comprehension -/
theorem lc_readE {α : Type} (xs : List α) (enc : α → W) (Γx : α → Gm) (c : α → Bool) (f : α → Dt) (Ωs Ωt : Nat → Om)
    (hw : Wd K F ρ (Ωs 0) H1) (hs : Sl K F ρ Γ σ H1) (hJ : WalkX K F J ρ H1 ws Cs) (hws : ws = xs.map enc) (hcs : ∀ i, ∀ c ∈ Cs, (Ωs i)[c.1]? = some c.2) (hz : xs.length < sizeLine) (hD : H1 D = none)
    (hg : ∀ x ∈ xs, GX K g (wipeG Γ vs) (enc x) (Γx x) is) (his : ∀ i ∈ is, i ∈ vs) (hno : ∀ i x, xs[i]? = some x → c x = false → Ωt i = Ωs (i + 1))
    (hd : ∀ H, CwE K F ρ (Ωs xs.length) H1 D (.ls ((xs.filter c).map f)) H → Qd H) :
    ∃ W : Nat → Nat → Hp → Prop, (∃ m, W 0 m (upd H1 D (.lst []))) ∧ ∀ i m H, W i m H →
      (J.stop i H ∧ Qd H) ∨ (J.go i H ∧ ∃ Nx : Hp → Prop, (∀ H', Nx H' → ∃ m', m' < m ∧ W (i + 1) m' H') ∧ ∀ x H', J.yld i H x H' → g x (wipe σ vs) H' fun σ2 H2 => wipe σ2 vs = wipe σ vs ∧
        tExT (fun z : Nat × α => xs[z.1]? = some z.2) (fun z => tTX K (Γx z.2) (Ωs z.1) (c z.2) (Ωt z.1)) σ2 H2 fun b H3 => if b = true then tEx (fun z : Nat × α => xs[z.1]? = some z.2 ∧ c z.2 = true) (fun z => tX K (Γx z.2) (Ωt z.1) (.d (f z.2)) (Ωs (z.1 + 1))) σ2 H3 fun y H4 => ∃ acc, H4 D = some (.lst acc) ∧ acc.length < sizeLine ∧ Nx (upd H4 D (.lst (acc ++ [y]))) else Nx H3) := by
  subst hws
  obtain ⟨G, Y, wk, hG, hY⟩ := hJ.ex
  rw [List.length_map] at wk hY
  have w0 : Wd K (D :: F) ρ (Ωs 0) (upd H1 D (.lst [])) := hw.hide hD
  refine lc_it wk (fun i H => i ≤ xs.length ∧ CwE K F ρ (Ωs i) H1 D (.ls (((xs.take i).filter c).map f)) H) ⟨Nat.zero_le _, ⟨ρ, step_new hw hD, Pre.refl ρ, w0, kp_unhide hD, [], upd_same, .nil⟩⟩ (fun i H hi p => ?_) (fun i x H H' hi p y => ?_) (fun H p => hd H (by
    have p2 := p.2
    rw [List.take_length] at p2
    exact p2))
  · obtain ⟨ρ', s, pr, wd, le, r⟩ := p.2.ex
    exact hG _ _ _ _ (fun c m => ⟨s.old _ (by rw [hw.len]; exact (List.getElem?_eq_some_iff.mp (hcs 0 c m)).1), hcs i c m⟩) le s.ext wd
  · refine ce_turn xs enc Γx Ωs (fun i => .ls (((xs.take i).filter c).map f)) hw hs hY hcs hg his hi p.2 y fun σ2 ρ' ev s pr wd le r hs3 => ⟨ev, (i, xs[i]), List.getElem?_eq_getElem hi, D :: F, ρ', wd, hs3, fun ρ3 H3 s3 w3 => ?_⟩
    obtain ⟨acc, ea, ra⟩ := r
    have keep : ∀ {ρ4 : RO} {H4 : Hp}, XS ρ' H' ρ4 H4 → H4 D = some (.lst acc) := fun s4 => s4.1.ext _ _ ea (wd.fr D (List.mem_cons_self ..)).2
    cases hc : c xs[i] with
    | false =>
      refine (if_neg Bool.false_ne_true).mpr ⟨hi, ⟨ρ3, s.trans (s3.1.le pr.len), pr.trans s3.2, hno i _ (List.getElem?_eq_getElem hi) hc ▸ w3, le.trans s3.1.hid, acc, keep s3, ?_⟩⟩
      rw [filter_take_no (List.getElem?_eq_getElem hi) hc]
      exact RpL.mono s3.1.kp ra
    | true =>
      refine (if_pos rfl).mpr ⟨(i, xs[i]), ⟨List.getElem?_eq_getElem hi, hc⟩, D :: F, ρ3, w3, hs3.xs s3, fun y4 ρ4 H4 s4 w4 r4 => ?_⟩
      have s5 := s3.trans s4
      obtain ⟨t1, t2, t3⟩ := w4.turn (D := D) (o := .lst (acc ++ [y4]))
      have st5 : Step ρ.length ρ H1 ρ4 H4 := s.trans (s5.1.le pr.len)
      refine ⟨acc, keep s5, ?_, hi, ρ4, ⟨fun a u q n => ?_, st5.old, st5.new, fun a m => ?_⟩, pr.trans s5.2, t2, (le.trans s5.1.hid).trans t3, acc ++ [y4], upd_same, ?_⟩
      · have e1 := ra.length
        rw [List.length_map] at e1
        have e2 : ((xs.take i).filter c).length ≤ (xs.take i).length := List.length_filter_le _ _
        rw [List.length_take] at e2
        omega
      · rw [upd_ne (ne_of_none q hD)]
        exact st5.ext a u q n
      · rw [upd_ne (fun z => hw.trk m (by rw [z]; exact hD))]
        exact st5.trk a m
      · rw [filter_take_yes (List.getElem?_eq_getElem hi) hc]
        exact (RpL.mono t3.kp (RpL.mono s5.1.kp ra)).app (.cons (Rp.mono t3.kp r4) .nil)
end
end DL
/-! D layer, part 11: dict comprehensions; keys of dicts walked; rules. -/
namespace DL
open PySem PySem.Spec PyProof.Rows L2

/-! ### dict comprehensions -/
section
variable {κ : Type} [DecidableEq κ] {α : Type}
/-- the dict that a comprehension makes -/
def dcD (kf : α → κ) (f : α → Dt) (xs : List α) : List (κ × Dt) := xs.foldl (fun d x => putD d (kf x) (f x)) []
theorem dcD_snoc {kf : α → κ} {f : α → Dt} {xs : List α} {x : α} : dcD kf f (xs ++ [x]) = putD (dcD kf f xs) (kf x) (f x) := by
  unfold dcD
  rw [List.foldl_append]
  rfl
theorem putD_len {d : List (κ × Dt)} {k : κ} {v : Dt} : (putD d k v).length ≤ d.length + 1 := by
  unfold putD
  split
  · rw [List.length_map]; omega
  · rw [List.length_append]; exact Nat.le_refl _
theorem foldl_len {kf : α → κ} {f : α → Dt} : ∀ (xs : List α) (d : List (κ × Dt)), (xs.foldl (fun d x => putD d (kf x) (f x)) d).length ≤ d.length + xs.length
  | [], d => Nat.le_refl _
  | x :: xs, d => by
    have h := foldl_len (kf := kf) (f := f) xs (putD d (kf x) (f x))
    have h2 := putD_len (d := d) (k := kf x) (v := f x)
    rw [List.foldl_cons, List.length_cons]
    omega
theorem dcD_len {kf : α → κ} {f : α → Dt} {xs : List α} : (dcD kf f xs).length ≤ xs.length := by
  have h := foldl_len (kf := kf) (f := f) xs []
  rw [List.length_nil, Nat.zero_add] at h
  exact h
theorem filt_take_yes {xs : List α} {c : α → Bool} {i : Nat} {x : α} (e : xs[i]? = some x) (h : c x = true) : (xs.take (i + 1)).filter c = (xs.take i).filter c ++ [x] := by
  rw [List.take_add_one, e, List.filter_append]
  simp [h]
theorem filt_take_no {xs : List α} {c : α → Bool} {i : Nat} {x : α} (e : xs[i]? = some x) (h : c x = false) : (xs.take (i + 1)).filter c = (xs.take i).filter c := by
  rw [List.take_add_one, e, List.filter_append]
  simp [h]
end
section
variable {K : PySem.W.Frag} {F : List Addr} {ρ : RO} {H1 : Hp} {D : Addr} {σ : L2.St} {Γ : Gm} {vs is : List Nat} {J : It} {ws : List W} {Cs : List (Nat × OD)} {g : TG} {Qd : Hp → Prop}
theorem dc_readE {α : Type} (xs : List α) (enc : α → W) (Γx : α → Gm) (c : α → Bool) (kf : α → Key) (f : α → Dt) (Ωs Ωt : Nat → Om)
    (hw : Wd K F ρ (Ωs 0) H1) (hs : Sl K F ρ Γ σ H1) (hJ : WalkX K F J ρ H1 ws Cs) (hws : ws = xs.map enc) (hcs : ∀ i, ∀ c ∈ Cs, (Ωs i)[c.1]? = some c.2) (hz : xs.length < sizeLine) (hD : H1 D = none)
    (hg : ∀ x ∈ xs, GX K g (wipeG Γ vs) (enc x) (Γx x) is) (his : ∀ i ∈ is, i ∈ vs) (hno : ∀ i x, xs[i]? = some x → c x = false → Ωt i = Ωs (i + 1))
    (hd : ∀ H, CwE K F ρ (Ωs xs.length) H1 D (.dk (dcD kf f (xs.filter c))) H → Qd H) :
    ∃ W : Nat → Nat → Hp → Prop, (∃ m, W 0 m (upd H1 D (.dK []))) ∧ ∀ i m H, W i m H →
      (J.stop i H ∧ Qd H) ∨ (J.go i H ∧ ∃ Nx : Hp → Prop, (∀ H', Nx H' → ∃ m', m' < m ∧ W (i + 1) m' H') ∧ ∀ x H', J.yld i H x H' → g x (wipe σ vs) H' fun σ2 H2 => wipe σ2 vs = wipe σ vs ∧
        tExT (fun z : Nat × α => xs[z.1]? = some z.2) (fun z => tTX K (Γx z.2) (Ωs z.1) (c z.2) (Ωt z.1)) σ2 H2 fun b H3 => if b = true then tEx (fun z : Nat × α => xs[z.1]? = some z.2 ∧ c z.2 = true) (fun z => tX K (Γx z.2) (Ωt z.1) (.d (kD (kf z.2))) (Ωt z.1)) σ2 H3 fun yk H4 =>
          tEx (fun z : Nat × α => xs[z.1]? = some z.2 ∧ c z.2 = true) (fun z => tX K (Γx z.2) (Ωt z.1) (.d (f z.2)) (Ωs (z.1 + 1))) σ2 H4 fun y H5 => ∃ kvs k, yk = kV k ∧ H5 D = some (.dK kvs) ∧ kvs.length < sizeLine ∧ Nx (upd H5 D (.dK (putK kvs k y))) else Nx H3) := by
  subst hws
  obtain ⟨G, Y, wk, hG, hY⟩ := hJ.ex
  rw [List.length_map] at wk hY
  have w0 : Wd K (D :: F) ρ (Ωs 0) (upd H1 D (.dK [])) := hw.hide hD
  let Pv : Nat → Hp → Prop := fun i H => i ≤ xs.length ∧ CwE K F ρ (Ωs i) H1 D (.dk (dcD kf f ((xs.take i).filter c))) H
  refine ⟨fun i m H => m = xs.length - i ∧ Pv i H, ⟨xs.length, by simp, Nat.zero_le _, ⟨ρ, step_new hw hD, Pre.refl ρ, w0, kp_unhide hD, [], upd_same, .nil⟩⟩, ?_⟩
  rintro i m H ⟨rfl, p⟩
  have q : G H := by
    obtain ⟨ρ', s, pr, wd, le, r⟩ := p.2.ex
    exact hG _ _ _ _ (fun c m => ⟨s.old _ (by rw [hw.len]; exact (List.getElem?_eq_some_iff.mp (hcs 0 c m)).1), hcs i c m⟩) le s.ext wd
  by_cases hi : i < xs.length
  · refine .inr ⟨wk.goes i H hi q, Pv (i + 1), fun H' p' => ⟨_, by omega, rfl, p'⟩, fun x H' y => ?_⟩
    refine ce_turn xs enc Γx Ωs (fun i => .dk (dcD kf f ((xs.take i).filter c))) hw hs hY hcs hg his hi p.2 (wk.yields i H x H' hi q y) fun σ2 ρ' ev s pr wd le r hs3 => ⟨ev, (i, xs[i]), List.getElem?_eq_getElem hi, D :: F, ρ', wd, hs3, fun ρ3 H3 s3 w3 => ?_⟩
    obtain ⟨acc, ea, ra⟩ := r
    have keep : ∀ {ρ4 : RO} {H4 : Hp}, XS ρ' H' ρ4 H4 → H4 D = some (.dK acc) := fun s4 => s4.1.ext _ _ ea (wd.fr D (List.mem_cons_self ..)).2
    cases hc : c xs[i] with
    | false =>
      refine (if_neg Bool.false_ne_true).mpr ⟨hi, ⟨ρ3, s.trans (s3.1.le pr.len), pr.trans s3.2, hno i _ (List.getElem?_eq_getElem hi) hc ▸ w3, le.trans s3.1.hid, acc, keep s3, ?_⟩⟩
      rw [filt_take_no (List.getElem?_eq_getElem hi) hc]
      exact RpK.mono s3.1.kp ra
    | true =>
      refine (if_pos rfl).mpr ⟨(i, xs[i]), ⟨List.getElem?_eq_getElem hi, hc⟩, D :: F, ρ3, w3, hs3.xs s3, fun yk ρ4 H4 s4 w4 r4 => ⟨(i, xs[i]), ⟨List.getElem?_eq_getElem hi, hc⟩, D :: F, ρ4, w4, (hs3.xs s3).xs s4, fun y5 ρ5 H5 s5 w5 r5 => ?_⟩⟩
      have s6 := (s3.trans s4).trans s5
      obtain rfl := kV_inv r4
      obtain ⟨t1, t2, t3⟩ := w5.turn (D := D) (o := .dK (putK acc (kf xs[i]) y5))
      have st5 : Step ρ.length ρ H1 ρ5 H5 := s.trans (s6.1.le pr.len)
      refine ⟨acc, kf xs[i], rfl, keep s6, ?_, hi, ρ5, ⟨fun a u q n => ?_, st5.old, st5.new, fun a m => ?_⟩, pr.trans s6.2, t2, (le.trans s6.1.hid).trans t3, _, upd_same, ?_⟩
      · have e1 := ra.length
        have e3 := dcD_len (kf := kf) (f := f) (xs := (xs.take i).filter c)
        have e2 : ((xs.take i).filter c).length ≤ (xs.take i).length := List.length_filter_le _ _
        rw [List.length_take] at e2
        omega
      · rw [upd_ne (ne_of_none q hD)]
        exact st5.ext a u q n
      · rw [upd_ne (fun z => hw.trk m (by rw [z]; exact hD))]
        exact st5.trk a m
      · rw [filt_take_yes (List.getElem?_eq_getElem hi) hc, dcD_snoc]
        exact (RpK.mono t3.kp (RpK.mono s6.1.kp ra)).put (Rp.mono t3.kp r5)
  · have e : i = xs.length := by have := p.1; omega
    subst e
    refine .inl ⟨wk.stops H q, hd H ?_⟩
    have p2 := p.2
    rw [List.take_length] at p2
    exact p2
end

/-! ### name = {..} on one line -/
section
variable {X : Cx}
theorem ps_setDc {i : Nat} {y : Str} {py : Pos} {kx vx tg iter : Expr} {ifs : List Expr} {scope : Scope} {own : List (Str × Nat)} {pos spos : Pos} {wi : TI} {g : TG} {tt : TT} {tk tv : TE} (hcalm : X.calm = true) (hnd : X.N.Nodup) (hy : X.N[i]? = some y) (hyl : X.env.scope.names.lookup y = some .local)
    (hsw : swapsWith (.DictComp kx vx [⟨tg, iter, ifs, 0⟩] scope pos) (some (.Name y py)) spos.line X.env = pure true) (hit : PI X tg iter wi) (hok : BlkOk X.N X.env.scope scope own)
    (hpg : ∀ (s : Shared) (H : Hp) (C : Addr) (cl : List (Str × Addr)) (fp : List Addr), PG (X.blk s H scope (compEnvC scope cl C X.env) fp) tg g) (hts : ∀ (s : Shared) (H : Hp) (C : Addr) (cl : List (Str × Addr)) (fp : List Addr), PTs (X.blk s H scope (compEnvC scope cl C X.env) fp) ifs tt)
    (hpk : ∀ (s : Shared) (H : Hp) (C : Addr) (cl : List (Str × Addr)) (fp : List Addr), PE (X.blk s H scope (compEnvC scope cl C X.env) fp) kx tk)
    (hpv : ∀ (s : Shared) (H : Hp) (C : Addr) (cl : List (Str × Addr)) (fp : List Addr), PE (X.blk s H scope (compEnvC scope cl C X.env) fp) vx tv) (hst : ∀ x, foldedSetIterable iter X.env x = pure x := by intro _; rfl) :
    PS X (.Assign [.Name y py] (.DictComp kx vx [⟨tg, iter, ifs, 0⟩] scope pos) spos) (tAsg (tDc wi g tt tk tv (own.map (·.2))) (gName i)) :=
  ⟨fun pins s σ H D I hh => by
    rw [exec_Assign_Name_used _ _ _ _ hsw]
    refine wpAny_bind (wpAny_standAt (wpAny_bind ?_))
    show wpAny _ X.A (do let _ ← comprehension (.DictComp kx vx [⟨tg, iter, ifs, 0⟩] scope pos) scope X.env (firstIterPos [⟨tg, iter, ifs, 0⟩] pos) newDict false (eval iter X.env) (some (assign (.Name y py) X.env))) _ _ s
    have h0 : tDc wi g tt tk tv (own.map (·.2)) σ H (fun x H1 => gName i x σ H1 D.nx) := hh
    refine wpAny_bind (thn (dc_core (Qf := fun _ s' => SP X pins D .next s') hcalm hnd I hit hok hpg hts hpk hpv hst h0 fun L C s' m H' I' q hn f => ?_) fun _ s' hq => wpAny_pure (wpAny_pure hq))
    show wpAny _ _ (assign (.Name y py) X.env (.ref L)) _ _ _
    obtain ⟨f0, f1, f2, f3, f4, f5⟩ := f
    refine wpAny_assign_Name (store_ok2 (v := V.ref L) I' hnd hy (.inl hyl) rfl (fun s2 I2 ⟨a, sb, ha⟩ => ⟨m, hn.sameBut sb (ha.elim (fun z => by rw [z]; exact f1) fun z e => f4 y a z e.symm), fun h3 sb3 => ?_⟩) (.inr hyl))
    exact ⟨_, H', I2.turned (t' := s2.toks) (fun b o hb e => (sb3.2 b hb).trans e) f0 f1 f3 f4 f5, q⟩⟩
end
end DL
/-! D layer, part 12: the rules of comprehensions with effects and over keys. -/
namespace DL
open PySem PySem.Spec PyProof.Rows L2

def TsE (X : Cx) (ifs : List Expr) (Γ : Gm) (Ω : Om) (b : Bool) (Ω' : Om) : Prop := PTs X ifs (tTX X.K Γ Ω b Ω')
theorem tse_nil {X : Cx} {Γ : Gm} {Ω : Om} : TsE X [] Γ Ω true Ω := tsx_nil
theorem tse_one {X : Cx} {Γ : Gm} {Ω Ω' : Om} {c : Expr} {b : Bool} (h : TX X c Γ Ω b Ω') : TsE X [c] Γ Ω b Ω' := pts_one h
theorem PE.or {X : Cx} {e : Expr} {t u : TE} (h : PE X e t) (g : PE X e u) : PE X e (fun σ H Q => t σ H Q ∨ u σ H Q) := ⟨fun pins s σ H Q I q => q.elim (h.run pins s σ H Q I) (g.run pins s σ H Q I)⟩
theorem PS.or {X : Cx} {e : Stmt} {t u : TS} (h : PS X e t) (g : PS X e u) : PS X e (fun D σ H => t D σ H ∨ u D σ H) := ⟨fun pins s σ H D I q => q.elim (h.run pins s σ H D I) (g.run pins s σ H D I)⟩
section
variable {K : PySem.W.Frag} {F : List Addr} {ρ ρ2 : RO} {H H1 H2 : Hp} {Ω Ω2 : Om} {d : Addr} {u : HO} {o : Obj} {w : W} {v : V} {Q : VK}
theorem Wd.ffree (hw : Wd K F ρ Ω H) {D : Addr} (e : H D = none) : D ∉ F := fun m => (hw.fr D m).1 e
/-- the end under a lock -/
theorem lock_end (k : Kont K F ρ H Ω2 w Q) (e : H d = some u) (i : IsDo u) (n : some d ∉ ρ) (m : d ∉ F) (s : XS ρ (upd H d (.frz o u)) ρ2 H2) (wd : Wd K F ρ2 Ω2 H2) (r : RpW K F ρ2 H2 v w) : H2 d = some (.frz o u) ∧ Q v (upd H2 d u) := by
  obtain ⟨e2, n2, s2⟩ := s.1.unlock e n
  exact ⟨e2, k v ρ2 _ ⟨s2, s.2⟩ (wd.unlock e2 n2 m) (r.kp (kp_unlock e2 n2 m))⟩
theorem hid_none {d : Addr} (n : some d ∉ ρ) (m : d ∉ F) (h : hid F ρ H d = none) : H d = none := by
  unfold hid at h
  rwa [if_neg (fun z => z.elim n m)] at h
/-- a dict that is data: plain, or locked by another -/
theorem dic_at {kvs : List (Key × Dt)} (r : RpW K F ρ H v (.d (.dic kvs))) : ∃ a us, v = .ref a ∧ some a ∉ ρ ∧ a ∉ F ∧ us.map (·.1) = kvs.map (·.1) ∧ (H a = some (.dK us) ∨ ∃ o, H a = some (.frz o (.dK us))) := by
  have r : Rp K (hid F ρ H) v (.dic kvs) := r
  cases r with
  | dic q r =>
    rcases q with q | ⟨o, q⟩
    · exact ⟨_, _, rfl, (hid_le q).2, hid_leF q, rpk_keys r, .inl (hid_le q).1⟩
    · exact ⟨_, _, rfl, (hid_le q).2, hid_leF q, rpk_keys r, .inr ⟨o, (hid_le q).1⟩⟩
end
section
variable {X : Cx} {elt kx vx tg iter : Expr} {ifs : List Expr} {scope : Scope} {own : List (Str × Nat)} {pos spos ppos py : Pos} {Γ : Gm} {Ω Ω1 Ω2 : Om} {ws : List W} {Cs : List (Nat × OD)} {g : TG} {is : List Nat} {y z : Str} {k : Nat} {P : Post} {w : W}
/-- a comprehension; its elements and tests may change cells -/
theorem px_lcE {α : Type} (xs : List α) (enc : α → W) (Γx : α → Gm) (c : α → Bool) (f : α → Dt) (Ωs Ωt : Nat → Om)
    (hE : EndC (Ωs xs.length) (.ls ((xs.filter c).map f)) w Ω2)
    (hc : X.calm = true) (hN : X.N.Nodup) (hi : IX X tg iter Γ Ω ws Cs (Ωs 0)) (ok : BlkOk X.N X.env.scope scope own) (hws : ws = xs.map enc) (hcs : ∀ i, ∀ c ∈ Cs, (Ωs i)[c.1]? = some c.2) (hz : xs.length < sizeLine)
    (hpg : ∀ (s : Shared) (H : Hp) (C : Addr) (cl : List (Str × Addr)) (fp : List Addr), PG (X.blk s H scope (compEnvC scope cl C X.env) fp) tg g)
    (hg : ∀ x ∈ xs, GX X.K g (wipeG Γ (own.map (·.2))) (enc x) (Γx x) is) (his : ∀ i ∈ is, i ∈ own.map (·.2)) (hno : ∀ i x, xs[i]? = some x → c x = false → Ωt i = Ωs (i + 1))
    (ht : ∀ (i : Nat) (x : α), xs[i]? = some x → ∀ (s : Shared) (H : Hp) (C : Addr) (cl : List (Str × Addr)) (fp : List Addr), TsE (X.blk s H scope (compEnvC scope cl C X.env) fp) ifs (Γx x) (Ωs i) (c x) (Ωt i))
    (he : ∀ (i : Nat) (x : α), xs[i]? = some x → c x = true → ∀ (s : Shared) (H : Hp) (C : Addr) (cl : List (Str × Addr)) (fp : List Addr), PX (X.blk s H scope (compEnvC scope cl C X.env) fp) elt (Γx x) (Ωt i) (.d (f x)) (Ωs (i + 1)))
    (hs : ∀ x, foldedSetIterable iter X.env x = pure x := by intro _; rfl) : PX X (.ListComp elt [⟨tg, iter, ifs, 0⟩] scope pos) Γ Ω w Ω2 :=
  PE.wk (pe_lc hc hN hi ok hpg (fun s H C cl fp => PTs.ex (p := fun z : Nat × α => xs[z.1]? = some z.2) (t := fun z => tTX X.K (Γx z.2) (Ωs z.1) (c z.2) (Ωt z.1)) fun z hz => ht z.1 z.2 hz s H C cl fp) (fun s H C cl fp => PE.ex (p := fun z : Nat × α => xs[z.1]? = some z.2 ∧ c z.2 = true) (t := fun z => tX X.K (Γx z.2) (Ωt z.1) (.d (f z.2)) (Ωs (z.1 + 1))) fun z hz => he z.1 z.2 hz.1 hz.2 s H C cl fp) hs)
    fun σ H Q ⟨F, ρ, hw, hs, k⟩ => ⟨F, ρ, hw, hs, fun J ρ1 H1 s1 w1 wx => fun D hD => lc_readE xs enc Γx c f Ωs Ωt w1 (hs.xs s1) wx hws hcs hz hD hg his hno fun H2 cw => by
      obtain ⟨ρ2, x2, wd, r⟩ := hE.go (w1.ffree hD) hD (w1.fresh hD) cw
      exact k _ ρ2 H2 (s1.trans x2) wd r⟩
/-- name = such a comprehension -/
theorem sx_lcE {α : Type} (j : Nat) (xs : List α) (enc : α → W) (Γx : α → Gm) (c : α → Bool) (f : α → Dt) (Ωs Ωt : Nat → Om)
    (hE : EndC (Ωs xs.length) (.ls ((xs.filter c).map f)) w Ω2) (hk : k ≤ Ω.length)
    (hc : X.calm = true) (hN : X.N.Nodup) (hi : IX X tg iter Γ Ω ws Cs (Ωs 0)) (ok : BlkOk X.N X.env.scope scope own) (hws : ws = xs.map enc) (hcs : ∀ i, ∀ c ∈ Cs, (Ωs i)[c.1]? = some c.2) (hz : xs.length < sizeLine)
    (hpg : ∀ (s : Shared) (H : Hp) (C : Addr) (cl : List (Str × Addr)) (fp : List Addr), PG (X.blk s H scope (compEnvC scope cl C X.env) fp) tg g)
    (hg : ∀ x ∈ xs, GX X.K g (wipeG Γ (own.map (·.2))) (enc x) (Γx x) is) (his : ∀ i ∈ is, i ∈ own.map (·.2)) (hno : ∀ i x, xs[i]? = some x → c x = false → Ωt i = Ωs (i + 1))
    (ht : ∀ (i : Nat) (x : α), xs[i]? = some x → ∀ (s : Shared) (H : Hp) (C : Addr) (cl : List (Str × Addr)) (fp : List Addr), TsE (X.blk s H scope (compEnvC scope cl C X.env) fp) ifs (Γx x) (Ωs i) (c x) (Ωt i))
    (he : ∀ (i : Nat) (x : α), xs[i]? = some x → c x = true → ∀ (s : Shared) (H : Hp) (C : Addr) (cl : List (Str × Addr)) (fp : List Addr), PX (X.blk s H scope (compEnvC scope cl C X.env) fp) elt (Γx x) (Ωt i) (.d (f x)) (Ωs (i + 1)))
    (hP : P.nx (Γ.set j (some w)) Ω2)
    (hsw : swapsWith (.ListComp elt [⟨tg, iter, ifs, 0⟩] scope pos) (some (.Name y py)) spos.line X.env = pure true) (hy : X.N[j]? = some y := by rfl) (hyl : X.env.scope.names.lookup y = some .local := by rfl)
    (hs : ∀ x, foldedSetIterable iter X.env x = pure x := by intro _; rfl) : SX X k (.Assign [.Name y py] (.ListComp elt [⟨tg, iter, ifs, 0⟩] scope pos) spos) Γ Ω P :=
  PS.wk (ps_setLc hc hN hy hyl hsw hi ok hpg (fun s H C cl fp => PTs.ex (p := fun z : Nat × α => xs[z.1]? = some z.2) (t := fun z => tTX X.K (Γx z.2) (Ωs z.1) (c z.2) (Ωt z.1)) fun z hz => ht z.1 z.2 hz s H C cl fp) (fun s H C cl fp => PE.ex (p := fun z : Nat × α => xs[z.1]? = some z.2 ∧ c z.2 = true) (t := fun z => tX X.K (Γx z.2) (Ωt z.1) (.d (f z.2)) (Ωs (z.1 + 1))) fun z hz => he z.1 z.2 hz.1 hz.2 s H C cl fp) hs)
    fun D σ H ⟨F, ρ, hw, hs, kn, kr, kb, kc⟩ => ⟨F, ρ, hw, hs, fun J ρ1 H1 s1 w1 wx => fun Dl hD => lc_readE xs enc Γx c f Ωs Ωt w1 (hs.xs s1) wx hws hcs hz hD hg his hno fun H2 cw => by
      obtain ⟨ρ2, x2, wd, r⟩ := hE.go (w1.ffree hD) hD (w1.fresh hD) cw
      exact kn ρ2 _ H2 _ Ω2 ((s1.trans x2).step (by rw [hw.len]; exact hk)) wd (((hs.xs s1).xs x2).set r j) hP⟩
/-- a dict comprehension -/
theorem px_dcE {α : Type} (xs : List α) (enc : α → W) (Γx : α → Gm) (c : α → Bool) (kf : α → Key) (f : α → Dt) (Ωs Ωt : Nat → Om)
    (hE : EndC (Ωs xs.length) (.dk (dcD kf f (xs.filter c))) w Ω2)
    (hc : X.calm = true) (hN : X.N.Nodup) (hi : IX X tg iter Γ Ω ws Cs (Ωs 0)) (ok : BlkOk X.N X.env.scope scope own) (hws : ws = xs.map enc) (hcs : ∀ i, ∀ c ∈ Cs, (Ωs i)[c.1]? = some c.2) (hz : xs.length < sizeLine)
    (hpg : ∀ (s : Shared) (H : Hp) (C : Addr) (cl : List (Str × Addr)) (fp : List Addr), PG (X.blk s H scope (compEnvC scope cl C X.env) fp) tg g)
    (hg : ∀ x ∈ xs, GX X.K g (wipeG Γ (own.map (·.2))) (enc x) (Γx x) is) (his : ∀ i ∈ is, i ∈ own.map (·.2)) (hno : ∀ i x, xs[i]? = some x → c x = false → Ωt i = Ωs (i + 1))
    (ht : ∀ (i : Nat) (x : α), xs[i]? = some x → ∀ (s : Shared) (H : Hp) (C : Addr) (cl : List (Str × Addr)) (fp : List Addr), TsE (X.blk s H scope (compEnvC scope cl C X.env) fp) ifs (Γx x) (Ωs i) (c x) (Ωt i))
    (hkx : ∀ (i : Nat) (x : α), xs[i]? = some x → c x = true → ∀ (s : Shared) (H : Hp) (C : Addr) (cl : List (Str × Addr)) (fp : List Addr), PX (X.blk s H scope (compEnvC scope cl C X.env) fp) kx (Γx x) (Ωt i) (.d (kD (kf x))) (Ωt i))
    (he : ∀ (i : Nat) (x : α), xs[i]? = some x → c x = true → ∀ (s : Shared) (H : Hp) (C : Addr) (cl : List (Str × Addr)) (fp : List Addr), PX (X.blk s H scope (compEnvC scope cl C X.env) fp) vx (Γx x) (Ωt i) (.d (f x)) (Ωs (i + 1)))
    (hs : ∀ x, foldedSetIterable iter X.env x = pure x := by intro _; rfl) : PX X (.DictComp kx vx [⟨tg, iter, ifs, 0⟩] scope pos) Γ Ω w Ω2 :=
  PE.wk (pe_dc hc hN hi ok hpg (fun s H C cl fp => PTs.ex (p := fun z : Nat × α => xs[z.1]? = some z.2) (t := fun z => tTX X.K (Γx z.2) (Ωs z.1) (c z.2) (Ωt z.1)) fun z hz => ht z.1 z.2 hz s H C cl fp)
      (fun s H C cl fp => PE.ex (p := fun z : Nat × α => xs[z.1]? = some z.2 ∧ c z.2 = true) (t := fun z => tX X.K (Γx z.2) (Ωt z.1) (.d (kD (kf z.2))) (Ωt z.1)) fun z hz => hkx z.1 z.2 hz.1 hz.2 s H C cl fp)
      (fun s H C cl fp => PE.ex (p := fun z : Nat × α => xs[z.1]? = some z.2 ∧ c z.2 = true) (t := fun z => tX X.K (Γx z.2) (Ωt z.1) (.d (f z.2)) (Ωs (z.1 + 1))) fun z hz => he z.1 z.2 hz.1 hz.2 s H C cl fp) hs)
    fun σ H Q ⟨F, ρ, hw, hs, k⟩ => ⟨F, ρ, hw, hs, fun J ρ1 H1 s1 w1 wx => fun D hD => dc_readE xs enc Γx c kf f Ωs Ωt w1 (hs.xs s1) wx hws hcs hz hD hg his hno fun H2 cw => by
      obtain ⟨ρ2, x2, wd, r⟩ := hE.go (w1.ffree hD) hD (w1.fresh hD) cw
      exact k _ ρ2 H2 (s1.trans x2) wd r⟩
theorem sx_dcE {α : Type} (j : Nat) (xs : List α) (enc : α → W) (Γx : α → Gm) (c : α → Bool) (kf : α → Key) (f : α → Dt) (Ωs Ωt : Nat → Om)
    (hE : EndC (Ωs xs.length) (.dk (dcD kf f (xs.filter c))) w Ω2) (hk : k ≤ Ω.length)
    (hc : X.calm = true) (hN : X.N.Nodup) (hi : IX X tg iter Γ Ω ws Cs (Ωs 0)) (ok : BlkOk X.N X.env.scope scope own) (hws : ws = xs.map enc) (hcs : ∀ i, ∀ c ∈ Cs, (Ωs i)[c.1]? = some c.2) (hz : xs.length < sizeLine)
    (hpg : ∀ (s : Shared) (H : Hp) (C : Addr) (cl : List (Str × Addr)) (fp : List Addr), PG (X.blk s H scope (compEnvC scope cl C X.env) fp) tg g)
    (hg : ∀ x ∈ xs, GX X.K g (wipeG Γ (own.map (·.2))) (enc x) (Γx x) is) (his : ∀ i ∈ is, i ∈ own.map (·.2)) (hno : ∀ i x, xs[i]? = some x → c x = false → Ωt i = Ωs (i + 1))
    (ht : ∀ (i : Nat) (x : α), xs[i]? = some x → ∀ (s : Shared) (H : Hp) (C : Addr) (cl : List (Str × Addr)) (fp : List Addr), TsE (X.blk s H scope (compEnvC scope cl C X.env) fp) ifs (Γx x) (Ωs i) (c x) (Ωt i))
    (hkx : ∀ (i : Nat) (x : α), xs[i]? = some x → c x = true → ∀ (s : Shared) (H : Hp) (C : Addr) (cl : List (Str × Addr)) (fp : List Addr), PX (X.blk s H scope (compEnvC scope cl C X.env) fp) kx (Γx x) (Ωt i) (.d (kD (kf x))) (Ωt i))
    (he : ∀ (i : Nat) (x : α), xs[i]? = some x → c x = true → ∀ (s : Shared) (H : Hp) (C : Addr) (cl : List (Str × Addr)) (fp : List Addr), PX (X.blk s H scope (compEnvC scope cl C X.env) fp) vx (Γx x) (Ωt i) (.d (f x)) (Ωs (i + 1)))
    (hP : P.nx (Γ.set j (some w)) Ω2)
    (hsw : swapsWith (.DictComp kx vx [⟨tg, iter, ifs, 0⟩] scope pos) (some (.Name y py)) spos.line X.env = pure true) (hy : X.N[j]? = some y := by rfl) (hyl : X.env.scope.names.lookup y = some .local := by rfl)
    (hs : ∀ x, foldedSetIterable iter X.env x = pure x := by intro _; rfl) : SX X k (.Assign [.Name y py] (.DictComp kx vx [⟨tg, iter, ifs, 0⟩] scope pos) spos) Γ Ω P :=
  PS.wk (ps_setDc hc hN hy hyl hsw hi ok hpg (fun s H C cl fp => PTs.ex (p := fun z : Nat × α => xs[z.1]? = some z.2) (t := fun z => tTX X.K (Γx z.2) (Ωs z.1) (c z.2) (Ωt z.1)) fun z hz => ht z.1 z.2 hz s H C cl fp)
      (fun s H C cl fp => PE.ex (p := fun z : Nat × α => xs[z.1]? = some z.2 ∧ c z.2 = true) (t := fun z => tX X.K (Γx z.2) (Ωt z.1) (.d (kD (kf z.2))) (Ωt z.1)) fun z hz => hkx z.1 z.2 hz.1 hz.2 s H C cl fp)
      (fun s H C cl fp => PE.ex (p := fun z : Nat × α => xs[z.1]? = some z.2 ∧ c z.2 = true) (t := fun z => tX X.K (Γx z.2) (Ωt z.1) (.d (f z.2)) (Ωs (z.1 + 1))) fun z hz => he z.1 z.2 hz.1 hz.2 s H C cl fp) hs)
    fun D σ H ⟨F, ρ, hw, hs, kn, kr, kb, kc⟩ => ⟨F, ρ, hw, hs, fun J ρ1 H1 s1 w1 wx => fun Dl hD => dc_readE xs enc Γx c kf f Ωs Ωt w1 (hs.xs s1) wx hws hcs hz hD hg his hno fun H2 cw => by
      obtain ⟨ρ2, x2, wd, r⟩ := hE.go (w1.ffree hD) hD (w1.fresh hD) cw
      exact kn ρ2 _ H2 _ Ω2 ((s1.trans x2).step (by rw [hw.len]; exact hk)) wd (((hs.xs s1).xs x2).set r j) hP⟩
/-- over the keys of a dict that is data, at a name; the block leaves the cells as they are -/
theorem px_lcK {kvs : List (Key × Dt)} (j : Nat) (Γx : Key → Gm) (c : Key → Bool) (f : Key → Dt)
    (hj : Γ[j]? = some (some (.d (.dic kvs))))
    (hE : EndC Ω (.ls (((kvs.map (·.1)).filter c).map f)) w Ω2)
    (hc : X.calm = true) (hN : X.N.Nodup) (ok : BlkOk X.N X.env.scope scope own) (hz : kvs.length < sizeLine)
    (hpg : ∀ (s : Shared) (H : Hp) (C : Addr) (cl : List (Str × Addr)) (fp : List Addr), PG (X.blk s H scope (compEnvC scope cl C X.env) fp) tg g)
    (hg : ∀ x ∈ kvs.map (·.1), GX X.K g (wipeG Γ (own.map (·.2))) (.d (kD x)) (Γx x) is) (his : ∀ i ∈ is, i ∈ own.map (·.2))
    (ht : ∀ x ∈ kvs.map (·.1), ∀ (s : Shared) (H : Hp) (C : Addr) (cl : List (Str × Addr)) (fp : List Addr), TsX (X.blk s H scope (compEnvC scope cl C X.env) fp) ifs (Γx x) Ω (c x))
    (he : ∀ x ∈ kvs.map (·.1), c x = true → ∀ (s : Shared) (H : Hp) (C : Addr) (cl : List (Str × Addr)) (fp : List Addr), PX (X.blk s H scope (compEnvC scope cl C X.env) fp) elt (Γx x) Ω (.d (f x)) Ω)
    (hy : X.N[j]? = some y := by rfl) (hv : Vis X.env.scope y := by first | exact Or.inl rfl | exact Or.inr (Or.inl rfl) | exact Or.inr (Or.inr rfl)) (hd : (y == ("__debug__" : Str)) = false := by decide) (hcd : (y == ("__classdict__" : Str)) = false := by decide)
    (hs : ∀ x, foldedSetIterable (.Name y ppos) X.env x = pure x := by intro _; rfl) : PX X (.ListComp elt [⟨tg, .Name y ppos, ifs, 0⟩] scope pos) Γ Ω w Ω2 := by
  have base := pe_lc (elt := elt) (pos := pos) hc hN (pi_keys (tg := tg) (pe_var (pos := ppos) hy hv hd hcd)) ok hpg (fun s H C cl fp => PTs.ex (p := fun z : Nat × Key => (kvs.map (·.1))[z.1]? = some z.2) (t := fun z => tTX X.K (Γx z.2) Ω (c z.2) Ω) fun z hz => ht z.2 (List.mem_of_getElem? hz) s H C cl fp) (fun s H C cl fp => PE.ex (p := fun z : Nat × Key => (kvs.map (·.1))[z.1]? = some z.2 ∧ c z.2 = true) (t := fun z => tX X.K (Γx z.2) Ω (.d (f z.2)) Ω) fun z hz => he z.2 (List.mem_of_getElem? hz.1) hz.2 s H C cl fp) hs
  refine PE.wk (PE.or base (pe_lock base)) fun σ H Q ⟨F, ρ, hw, hl, k⟩ => ?_
  obtain ⟨v, ev, rv⟩ := hl.2 j _ hj
  obtain ⟨a, us, rfl, n, m, ek, h⟩ := dic_at rv
  have hz' : (kvs.map (·.1)).length < sizeLine := by rw [List.length_map]; exact hz
  have hgo := fun x (hx : x ∈ kvs.map (·.1)) => hg x hx
  rcases h with h | ⟨o, h⟩
  · refine .inr ⟨a, _, h, True.intro, fun od => ⟨.ref a, ev, a, od, rfl, .inl ⟨us, upd_same, fun D hD => ?_⟩⟩⟩
    have w1 := hw.lock (o := od) h (.inl ⟨us, rfl⟩) n m
    refine lc_readE (kvs.map (·.1)) (fun k => .d (kD k)) Γx c f (fun _ => Ω) (fun _ => Ω) w1 (hl.kp (kp_lock h (.inl ⟨us, rfl⟩) n m)) (walkX_keys upd_same n ek) rfl (fun _ _ z => nomatch z) hz' hD hgo his (fun _ _ _ _ => rfl) fun H2 cw => ?_
    obtain ⟨ρ2, x2, wd, r⟩ := hE.go (w1.ffree hD) hD (w1.fresh hD) cw
    exact lock_end k h (.inl ⟨us, rfl⟩) n m x2 wd r
  · refine .inl ⟨.ref a, ev, a, o, rfl, .inl ⟨us, h, fun D hD => ?_⟩⟩
    refine lc_readE (kvs.map (·.1)) (fun k => .d (kD k)) Γx c f (fun _ => Ω) (fun _ => Ω) hw hl (walkX_keys h n ek) rfl (fun _ _ z => nomatch z) hz' hD hgo his (fun _ _ _ _ => rfl) fun H2 cw => ?_
    obtain ⟨ρ2, x2, wd, r⟩ := hE.go (hw.ffree hD) hD (hw.fresh hD) cw
    exact k _ ρ2 H2 x2 wd r
end
end DL
/-! D layer, part 13: a for over keys; an owned dict walked; more built-ins. -/
namespace DL
open PySem PySem.Spec PyProof.Rows L2

section
variable {K : PySem.W.Frag} {F : List Addr} {ρ1 : RO} {H1 : Hp} {Γ : Gm} {Ω1 : Om} {σ : L2.St} {J : It} {Cs : List (Nat × OD)} {g : TG} {is : List Nat} {P : Post} {D : Ends}
/-- the reading of a for -/
theorem for_read {α : Type} (xs : List α) (enc : α → W) (I : Nat → Gm → Om → Prop) (Γx : Nat → α → Gm → Gm) (w1 : Wd K F ρ1 Ω1 H1) (l1 : Sl K F ρ1 Γ σ H1) (wx : WalkX K F J ρ1 H1 (xs.map enc) Cs) (h0 : I 0 Γ Ω1)
    (hcs : ∀ i Γ' Ω', I i Γ' Ω' → ∀ c ∈ Cs, Ω'[c.1]? = some c.2)
    (hg : ∀ i x Γ' Ω', xs[i]? = some x → I i Γ' Ω' → GX K g Γ' (enc x) (Γx i x Γ') is) (hd : ∀ Γ' Ω', I xs.length Γ' Ω' → P.nx Γ' Ω')
    (kn : ∀ ρ' σ' H' Γ' Ω', Step Ω1.length ρ1 H1 ρ' H' → Wd K F ρ' Ω' H' → Sl K F ρ' Γ' σ' H' → P.nx Γ' Ω' → D.nx σ' H') (kr : ∀ v w ρ' H' Ω', Step Ω1.length ρ1 H1 ρ' H' → Wd K F ρ' Ω' H' → RpW K F ρ' H' v w → P.rt w Ω' → D.rt v H') :
    ∃ W : Nat → Nat → L2.St → Hp → Prop, (∃ m, W 0 m σ H1) ∧ ∀ i m σ H, W i m σ H →
      (J.stop i H ∧ D.nx σ H) ∨ (J.go i H ∧ ∃ N : L2.St → Hp → Prop, (∀ σ' H', N σ' H' → ∃ m', m' < m ∧ W (i + 1) m' σ' H') ∧ ∀ x H', J.yld i H x H' → g x σ H' fun σ2 H2 =>
        tExS (fun z : Nat × α × Gm × Om => xs[z.1]? = some z.2.1 ∧ I z.1 z.2.2.1 z.2.2.2) (fun z => tB K Ω1.length (Γx z.1 z.2.1 z.2.2.1) z.2.2.2 { nx := I (z.1 + 1), ct := I (z.1 + 1), bk := P.nx, rt := P.rt }) { D with nx := N, ct := N, bk := D.nx } σ2 H2) := by
  obtain ⟨G, Y, wk, hG, hY⟩ := wx.ex
  rw [List.length_map] at wk hY
  have cell : ∀ {i Γ' Ω' ρ' H'}, Step Ω1.length ρ1 H1 ρ' H' → I i Γ' Ω' → ∀ c ∈ Cs, ρ'[c.1]? = ρ1[c.1]? ∧ Ω'[c.1]? = some c.2 := fun s i' c m => ⟨s.old _ (List.getElem?_eq_some_iff.mp (hcs 0 Γ Ω1 h0 c m)).1, hcs _ _ _ i' c m⟩
  refine for_it (D := D) wk (fun i σ' H' => ∃ ρ' Γ' Ω', Step Ω1.length ρ1 H1 ρ' H' ∧ Wd K F ρ' Ω' H' ∧ Sl K F ρ' Γ' σ' H' ∧ I i Γ' Ω') ⟨ρ1, Γ, Ω1, Step.refl w1, w1, l1, h0⟩ (fun i σ' H' hi' ⟨ρ', Γ', Ω', s', w', l', i'⟩ => hG F ρ' Ω' H' (cell s' i') s'.hid s'.ext w') (fun i x σ' H' H'' hi' ⟨ρ', Γ', Ω', s', w', l', i'⟩ y => ?_) (fun σ' H' ⟨ρ', Γ', Ω', s', w', l', i'⟩ => kn ρ' σ' H' Γ' Ω' s' w' l' (hd _ _ i'))
  obtain ⟨w, ew, st, w2, r2⟩ := hY i H' x H'' F ρ' Ω' (cell s' i') s'.hid s'.ext w' hi' y
  rw [List.getElem?_map, List.getElem?_eq_getElem hi'] at ew
  obtain rfl : enc xs[i] = w := Option.some.inj ew
  have ex : xs[i]? = some xs[i] := List.getElem?_eq_getElem hi'
  refine hg i xs[i] Γ' Ω' ex i' F ρ' Ω' H'' x σ' _ w2 (l'.xs ⟨st, Pre.refl ρ'⟩) r2 fun σ2 l2 _ => ?_
  have s2 := s'.trans (show Step Ω1.length ρ' H' ρ' H'' from ⟨st.ext, fun _ _ => rfl, fun a m => .inl m, st.trk⟩)
  exact ⟨(i, xs[i], Γ', Ω'), ⟨ex, i'⟩, F, ρ', w2, l2, fun ρ3 σ3 H3 Γ3 Ω3 s3 w3 l3 i3 => ⟨ρ3, Γ3, Ω3, s2.trans s3, w3, l3, i3⟩, fun v w ρ3 H3 Ω3 s3 w3 r3 q => kr v w ρ3 H3 Ω3 (s2.trans s3) w3 r3 q,
    fun ρ3 σ3 H3 Γ3 Ω3 s3 w3 l3 q => kn ρ3 σ3 H3 Γ3 Ω3 (s2.trans s3) w3 l3 q, fun ρ3 σ3 H3 Γ3 Ω3 s3 w3 l3 i3 => ⟨ρ3, Γ3, Ω3, s2.trans s3, w3, l3, i3⟩⟩
end
section
variable {X : Cx} {tg : Expr} {body : List Stmt} {pos ppos : Pos} {Γ : Gm} {Ω : Om} {g : TG} {is : List Nat} {y : Str} {k : Nat} {P : Post}
/-- for k in d, d data at a name -/
theorem sx_forK {kvs : List (Key × Dt)} (j : Nat) (I : Nat → Gm → Om → Prop) (Γx : Nat → Key → Gm → Gm) (hj : Γ[j]? = some (some (.d (.dic kvs)))) (hk : k ≤ Ω.length) (h0 : I 0 Γ Ω) (hpg : PG X tg g)
    (hg : ∀ i x Γ' Ω', (kvs.map (·.1))[i]? = some x → I i Γ' Ω' → GX X.K g Γ' (.d (kD x)) (Γx i x Γ') is)
    (hs : ∀ i x Γ' Ω', (kvs.map (·.1))[i]? = some x → I i Γ' Ω' → BX X Ω.length body (Γx i x Γ') Ω' { nx := I (i + 1), ct := I (i + 1), bk := P.nx, rt := P.rt })
    (hd : ∀ Γ' Ω', I kvs.length Γ' Ω' → P.nx Γ' Ω') (hp : PassesOwn (model X.prog X.w) X.A X.env X.xe) (hc : X.calm = true := by rfl)
    (hy : X.N[j]? = some y := by rfl) (hv : Vis X.env.scope y := by first | exact Or.inl rfl | exact Or.inr (Or.inl rfl) | exact Or.inr (Or.inr rfl)) (hdb : (y == ("__debug__" : Str)) = false := by decide) (hcd : (y == ("__classdict__" : Str)) = false := by decide)
    (hf : ∀ x, foldedSetIterable (.Name y ppos) X.env x = pure x := by intro _; rfl) : SX X k (.For tg (.Name y ppos) body [] pos) Γ Ω P := by
  have hb : PSs X body (tExS (fun z : Nat × Key × Gm × Om => (kvs.map (·.1))[z.1]? = some z.2.1 ∧ I z.1 z.2.2.1 z.2.2.2) fun z => tB X.K Ω.length (Γx z.1 z.2.1 z.2.2.1) z.2.2.2 { nx := I (z.1 + 1), ct := I (z.1 + 1), bk := P.nx, rt := P.rt }) := PSs.ex fun z hz => hs _ _ _ _ hz.1 hz.2
  have base := ps_for (pos := pos) hp hc (pi_keys (tg := tg) (pe_var (pos := ppos) hy hv hdb hcd)) hpg hb hf
  refine PS.wk (PS.or base (ps_lock base)) fun D σ H ⟨F, ρ, hw, hl, kn, kr, kb, kc⟩ => ?_
  obtain ⟨v, ev, rv⟩ := hl.2 j _ hj
  obtain ⟨a, us, rfl, n, m, ek, h⟩ := dic_at rv
  have hd' : ∀ Γ' Ω', I (kvs.map (·.1)).length Γ' Ω' → P.nx Γ' Ω' := fun Γ' Ω' h => hd Γ' Ω' (by rw [List.length_map] at h; exact h)
  rcases h with h | ⟨o, h⟩
  · refine .inr ⟨a, _, h, True.intro, fun od => ⟨.ref a, ev, a, od, rfl, .inl ⟨us, upd_same, ?_⟩⟩⟩
    have w1 := hw.lock (o := od) h (.inl ⟨us, rfl⟩) n m
    refine for_read (kvs.map (·.1)) (fun k => .d (kD k)) I Γx w1 (hl.kp (kp_lock h (.inl ⟨us, rfl⟩) n m)) (walkX_keys upd_same n ek) h0 (fun _ _ _ _ _ z => nomatch z) hg hd' (fun ρ' σ' H' Γ' Ω' s w l q => ?_) fun v w' ρ' H' Ω' s w r q => ?_
    · obtain ⟨e2, n2, s2⟩ := s.unlock h n
      exact ⟨e2, kn ρ' σ' _ Γ' Ω' (s2.le hk) (w.unlock e2 n2 m) (l.kp (kp_unlock e2 n2 m)) q⟩
    · obtain ⟨e2, n2, s2⟩ := s.unlock h n
      exact ⟨e2, kr v w' ρ' _ Ω' (s2.le hk) (w.unlock e2 n2 m) (r.kp (kp_unlock e2 n2 m)) q⟩
  · refine .inl ⟨.ref a, ev, a, o, rfl, .inl ⟨us, h, ?_⟩⟩
    exact for_read (kvs.map (·.1)) (fun k => .d (kD k)) I Γx hw hl (walkX_keys h n ek) h0 (fun _ _ _ _ _ z => nomatch z) hg hd' (fun ρ' σ' H' Γ' Ω' s w l q => kn ρ' σ' H' Γ' Ω' (s.le hk) w l q) fun v w' ρ' H' Ω' s w r q => kr v w' ρ' H' Ω' (s.le hk) w r q
end

/-! ### an owned dict lent to a walk -/
section
variable {K : PySem.W.Frag} {F : List Addr} {ρ ρ2 : RO} {H H2 : Hp} {Ω Ω2 : Om} {a : Addr} {n : Nat} {o : Obj} {us : List (Key × V)} {kvs : List (Key × Dt)} {Γ Γ0 : Gm} {σ : L2.St}
theorem mem_set_none {x : Addr} (hw : Wd K F ρ Ω H) (ea : ρ[n]? = some (some a)) : some x ∈ ρ.set n none ↔ some x ∈ ρ ∧ x ≠ a := by
  have hn : n < ρ.length := (List.getElem?_eq_some_iff.mp ea).1
  constructor
  · intro m
    obtain ⟨j, ej⟩ := List.getElem?_of_mem m
    by_cases z : n = j
    · subst z; rw [List.getElem?_set_self hn] at ej; cases ej
    · rw [List.getElem?_set_ne z] at ej
      exact ⟨mem_of_get ej, fun q => z (hw.nd n j a ea (by rw [← q]; exact ej))⟩
  · rintro ⟨m, ne⟩
    obtain ⟨j, ej⟩ := List.getElem?_of_mem m
    have z : n ≠ j := fun z => by subst z; rw [ea] at ej; cases ej; exact ne rfl
    exact mem_of_get (n := j) (by rw [List.getElem?_set_ne z]; exact ej)
theorem hid_lend {x : HO} (hw : Wd K F ρ Ω H) (ea : ρ[n]? = some (some a)) : hid (a :: F) (ρ.set n none) (upd H a x) = hid F ρ H := by
  funext b
  unfold hid
  by_cases z : b = a
  · subst z
    rw [if_pos (.inr (List.mem_cons_self ..)), if_pos (.inl (mem_of_get ea))]
  · rw [upd_ne z]
    have e : (some b ∈ ρ.set n none ∨ b ∈ a :: F) ↔ (some b ∈ ρ ∨ b ∈ F) := by
      rw [mem_set_none hw ea, List.mem_cons]
      exact ⟨fun q => q.elim (fun q => .inl q.1) (fun q => q.elim (fun q => (z q).elim) .inr), fun q => q.elim (fun q => .inl ⟨q, z⟩) (fun q => .inr (.inr q))⟩
    by_cases y : some b ∈ ρ ∨ b ∈ F
    · rw [if_pos y, if_pos (e.mpr y)]
    · rw [if_neg y, if_neg (fun q => y (e.mp q))]
theorem rpW_lend {x : HO} (hw : Wd K F ρ Ω H) (ea : ρ[n]? = some (some a)) (hn : n < Ω.length) {v : V} {w : W} (ok : okW (Ω.set n .gone) w = true) (r : RpW K F ρ H v w) : RpW K (a :: F) (ρ.set n none) (upd H a x) v w := by
  cases w with
  | d y => exact Rp.eqv (hid_lend hw ea).symm r
  | l m =>
    obtain ⟨b, e, q⟩ := r
    refine ⟨b, e, ?_⟩
    have z : n ≠ m := fun z => by
      subst z
      have ok2 : (match (Ω.set n .gone)[n]? with | none => false | some OD.gone => false | some _ => true) = true := ok
      rw [List.getElem?_set_self hn] at ok2
      cases ok2
    rw [List.getElem?_set_ne z]
    exact q
theorem Wd.lend {x : HO} (hw : Wd K F ρ Ω H) (ea : ρ[n]? = some (some a)) (hn : n < Ω.length) (ok : (Ω.set n .gone).all (okO (Ω.set n .gone)) = true) : Wd K (a :: F) (ρ.set n none) (Ω.set n .gone) (upd H a x) := by
  have hr : n < ρ.length := (List.getElem?_eq_some_iff.mp ea).1
  refine ⟨by rw [List.length_set, List.length_set]; exact hw.len, fun i j b e1 e2 => ?_, fun m od em hg => ?_, fun m em => ?_, fun b hb => ?_⟩
  · have z1 : n ≠ i := fun z => by subst z; rw [List.getElem?_set_self hr] at e1; cases e1
    have z2 : n ≠ j := fun z => by subst z; rw [List.getElem?_set_self hr] at e2; cases e2
    rw [List.getElem?_set_ne z1] at e1
    rw [List.getElem?_set_ne z2] at e2
    exact hw.nd i j b e1 e2
  · have z : n ≠ m := fun z => by subst z; rw [List.getElem?_set_self hn] at em; cases em; exact hg rfl
    have oo := List.all_eq_true.mp ok od (List.mem_of_getElem? em)
    rw [List.getElem?_set_ne z] at em
    obtain ⟨b, eb, r⟩ := hw.ob m od em hg
    have ne : b ≠ a := fun q => z (hw.nd n m b (q ▸ ea) eb)
    refine ⟨b, by rw [List.getElem?_set_ne z]; exact eb, ?_⟩
    have he := (hid_lend (x := x) hw ea).symm
    cases od with
    | gone => trivial
    | ls ds => obtain ⟨vs, q, r⟩ := r; exact ⟨vs, by rw [upd_ne ne]; exact q, RpL.eqv he r⟩
    | dk ds => obtain ⟨vs, q, r⟩ := r; exact ⟨vs, by rw [upd_ne ne]; exact q, RpK.eqv he r⟩
    | dt ds => obtain ⟨vs, q, r⟩ := r; exact ⟨vs, by rw [upd_ne ne]; exact q, RpT.eqv he r⟩
    | lw ws =>
      obtain ⟨vs, q, r⟩ := r
      refine ⟨vs, by rw [upd_ne ne]; exact q, ?_⟩
      have o2 : ws.all (okW (Ω.set n .gone)) = true := oo
      clear q em hg oo
      induction r with
      | nil => exact .nil
      | cons q r ih =>
        rw [List.all_cons, Bool.and_eq_true] at o2
        exact .cons (rpW_lend hw ea hn o2.1 q) (ih o2.2)
    | ins C fs =>
      obtain ⟨dx, vs, q, r⟩ := r
      refine ⟨dx, vs, by rw [upd_ne ne]; exact q, ?_⟩
      have o2 : (fs.all fun p => okW (Ω.set n .gone) p.2) = true := oo
      clear q em hg oo
      induction r with
      | nil => exact .nil
      | cons q r ih =>
        rw [List.all_cons, Bool.and_eq_true] at o2
        exact .cons ⟨q.1, rpW_lend hw ea hn o2.1 q.2⟩ (ih o2.2)
  · by_cases z : n = m
    · subst z; exact List.getElem?_set_self hr
    · rw [List.getElem?_set_ne z] at em ⊢
      exact hw.dead m em
  · rcases List.mem_cons.mp hb with rfl | hb
    · exact ⟨by rw [upd_same]; exact (fun z => by cases z), fun m => ((mem_set_none hw ea).mp m).2 rfl⟩
    · have ne : b ≠ a := fun q => (hw.fr b hb).2 (by rw [q]; exact mem_of_get ea)
      exact ⟨by rw [upd_ne ne]; exact (hw.fr b hb).1, fun m => (hw.fr b hb).2 ((mem_set_none hw ea).mp m).1⟩
theorem Sl.lend {x : HO} (hl : Sl K F ρ Γ σ H) (hw : Wd K F ρ Ω H) (ea : ρ[n]? = some (some a)) (hn : n < Ω.length) (fg : FgG Γ Γ0) (ok : Γ0.all (okS (Ω.set n .gone)) = true) : Sl K (a :: F) (ρ.set n none) Γ0 σ (upd H a x) := by
  obtain ⟨g1, g2⟩ := fg.get
  refine ⟨hl.1.trans g1, fun i w e => ?_⟩
  obtain ⟨v, ev, r⟩ := hl.2 i w (g2 i w e)
  exact ⟨v, ev, rpW_lend hw ea hn (List.all_eq_true.mp ok _ (List.mem_of_getElem? e)) r⟩
/-- given back -/
theorem lend_back {v : V} {w : W} (hw : Wd K F ρ Ω H) (ea : ρ[n]? = some (some a)) (hq : H a = some (.dK us)) (rk : RpK K (hid F ρ H) us kvs) (e : Ω[n]? = some (.dk kvs))
    (s : XS (ρ.set n none) (upd H a (.frz o (.dK us))) ρ2 H2) (wd : Wd K (a :: F) ρ2 Ω2 H2) (hg2 : Ω2[n]? = some .gone) (r : RpW K (a :: F) ρ2 H2 v w) :
    H2 a = some (.frz o (.dK us)) ∧ XS ρ H (ρ2.set n (some a)) (upd H2 a (.dK us)) ∧ Wd K F (ρ2.set n (some a)) (Ω2.set n (.dk kvs)) (upd H2 a (.dK us)) ∧ RpW K F (ρ2.set n (some a)) (upd H2 a (.dK us)) v w := by
  have hr : n < ρ.length := (List.getElem?_eq_some_iff.mp ea).1
  have n0 : some a ∉ ρ.set n none := fun m => ((mem_set_none hw ea).mp m).2 rfl
  have e2 : H2 a = some (.frz o (.dK us)) := s.1.ext a _ upd_same n0
  have n2 : some a ∉ ρ2 := (wd.fr a (List.mem_cons_self ..)).2
  have hr2 : n < ρ2.length := by have := s.2.len; rw [List.length_set] at this; omega
  have mem : ∀ x, some x ∈ ρ2.set n (some a) ↔ (x = a ∨ some x ∈ ρ2) := fun x => by
    have d : ρ2[n]? = some none := wd.dead n hg2
    constructor
    · intro m
      obtain ⟨j, ej⟩ := List.getElem?_of_mem m
      by_cases z : n = j
      · subst z; rw [List.getElem?_set_self hr2] at ej; cases ej; exact .inl rfl
      · rw [List.getElem?_set_ne z] at ej; exact .inr (mem_of_get ej)
    · rintro (rfl | m)
      · exact mem_of_get (n := n) (List.getElem?_set_self hr2)
      · obtain ⟨j, ej⟩ := List.getElem?_of_mem m
        have z : n ≠ j := fun z => by subst z; rw [d] at ej; cases ej
        exact mem_of_get (n := j) (by rw [List.getElem?_set_ne z]; exact ej)
  have hidE : hid F (ρ2.set n (some a)) (upd H2 a (.dK us)) = hid (a :: F) ρ2 H2 := by
    funext b
    unfold hid
    have q : (some b ∈ ρ2.set n (some a) ∨ b ∈ F) ↔ (some b ∈ ρ2 ∨ b ∈ a :: F) := by
      rw [mem, List.mem_cons]
      exact ⟨fun q => q.elim (fun q => q.elim (fun q => .inr (.inl q)) .inl) (fun q => .inr (.inr q)), fun q => q.elim (fun q => .inl (.inr q)) (fun q => q.elim (fun q => .inl (.inl q)) .inr)⟩
    by_cases y : some b ∈ ρ2 ∨ b ∈ a :: F
    · rw [if_pos y, if_pos (q.mpr y)]
    · rw [if_neg y, if_neg (fun z => y (q.mp z)), upd_ne (fun z => y (.inr (by rw [z]; exact List.mem_cons_self ..)))]
  have rw_ : ∀ {v w}, RpW K (a :: F) ρ2 H2 v w → RpW K F (ρ2.set n (some a)) (upd H2 a (.dK us)) v w := fun {v w} r => by
    cases w with
    | d x => exact Rp.eqv hidE.symm r
    | l m =>
      obtain ⟨b, eb, q⟩ := r
      have z : n ≠ m := fun z => by subst z; rw [wd.dead n hg2] at q; cases q
      exact ⟨b, eb, by rw [List.getElem?_set_ne z]; exact q⟩
  have pre : Pre ρ (ρ2.set n (some a)) := by
    obtain ⟨ν, e⟩ := s.2
    refine ⟨ν, ?_⟩
    subst e
    rw [List.set_append_left _ _ (by rw [List.length_set]; exact hr), List.set_set]
    congr 1
    apply List.ext_getElem?
    intro j
    by_cases z : n = j
    · subst z; rw [List.getElem?_set_self hr, ea]
    · rw [List.getElem?_set_ne z]
  refine ⟨e2, ⟨⟨fun b u q m => ?_, fun j hj => pre.old hj, fun b m => ?_, fun b m => ?_⟩, pre⟩, ⟨by rw [List.length_set, List.length_set]; exact wd.len, fun i j b e1 e3 => ?_, fun m od em hg => ?_, fun m em => ?_, fun b hb => ?_⟩, rw_ r⟩
  · have ne : b ≠ a := fun z => m (by rw [z]; exact mem_of_get ea)
    rw [upd_ne ne]
    exact s.1.ext b u (by rw [upd_ne ne]; exact q) (fun z => m ((mem_set_none hw ea).mp z).1)
  · rcases (mem b).mp m with rfl | m
    · exact .inl (mem_of_get ea)
    · rcases s.1.new b m with q | q
      · exact .inl ((mem_set_none hw ea).mp q).1
      · rw [upd_ne (fun z => n2 (by rw [← z]; exact m))] at q; exact .inr q
  · by_cases z : b = a
    · subst z; rw [upd_same]; exact fun y => nomatch y
    · rw [upd_ne z]; exact s.1.trk b ((mem_set_none hw ea).mpr ⟨m, z⟩)
  · by_cases z1 : n = i
    · subst z1
      rw [List.getElem?_set_self hr2] at e1
      cases e1
      by_cases z2 : n = j
      · exact z2
      · rw [List.getElem?_set_ne z2] at e3; exact (n2 (mem_of_get e3)).elim
    · rw [List.getElem?_set_ne z1] at e1
      by_cases z2 : n = j
      · subst z2
        rw [List.getElem?_set_self hr2] at e3
        cases e3
        exact (n2 (mem_of_get e1)).elim
      · rw [List.getElem?_set_ne z2] at e3; exact wd.nd i j b e1 e3
  · have hn2 : n < Ω2.length := (List.getElem?_eq_some_iff.mp hg2).1
    by_cases z : n = m
    · subst z
      rw [List.getElem?_set_self hn2] at em
      cases em
      refine ⟨a, List.getElem?_set_self hr2, us, upd_same, ?_⟩
      rw [hidE]
      exact RpK.mono s.1.kp (RpK.eqv (hid_lend hw ea).symm rk)
    · rw [List.getElem?_set_ne z] at em
      obtain ⟨b, eb, r⟩ := wd.ob m od em hg
      have ne : b ≠ a := fun q => n2 (by rw [← q]; exact mem_of_get eb)
      refine ⟨b, by rw [List.getElem?_set_ne z]; exact eb, ?_⟩
      cases od with
      | gone => trivial
      | ls ds => obtain ⟨vs, q, r⟩ := r; exact ⟨vs, by rw [upd_ne ne]; exact q, RpL.eqv hidE.symm r⟩
      | dk ds => obtain ⟨vs, q, r⟩ := r; exact ⟨vs, by rw [upd_ne ne]; exact q, RpK.eqv hidE.symm r⟩
      | dt ds => obtain ⟨vs, q, r⟩ := r; exact ⟨vs, by rw [upd_ne ne]; exact q, RpT.eqv hidE.symm r⟩
      | lw ws => obtain ⟨vs, q, r⟩ := r; exact ⟨vs, by rw [upd_ne ne]; exact q, Paired.imp (fun _ _ u => rw_ u) r⟩
      | ins C fs => obtain ⟨dx, vs, q, r⟩ := r; exact ⟨dx, vs, by rw [upd_ne ne]; exact q, Paired.imp (fun _ _ u => ⟨u.1, rw_ u.2⟩) r⟩
  · have hn2 : n < Ω2.length := (List.getElem?_eq_some_iff.mp hg2).1
    by_cases z : n = m
    · subst z; rw [List.getElem?_set_self hn2] at em; cases em
    · rw [List.getElem?_set_ne z] at em ⊢; exact wd.dead m em
  · have q := wd.fr b (List.mem_cons_of_mem _ hb)
    have ne : b ≠ a := fun z => (hw.fr b hb).2 (by rw [z]; exact mem_of_get ea)
    refine ⟨by rw [upd_ne ne]; exact q.1, fun m => ?_⟩
    rcases (mem b).mp m with z | m
    · exact ne z
    · exact q.2 m
end
section
variable {X : Cx} {elt tg : Expr} {ifs : List Expr} {scope : Scope} {own : List (Str × Nat)} {pos ppos spos py : Pos} {Γ Γ0 : Gm} {Ω Ω2 : Om} {g : TG} {is : List Nat} {y z : Str} {w : W} {k : Nat} {P : Post}
/-- over the keys of an owned dict at a name; Γ0: the slots without it -/
theorem sx_lcKO {kvs : List (Key × Dt)} (i j : Nat) {n : Nat} (Γx : Key → Gm) (c : Key → Bool) (f : Key → Dt)
    (hj : Γ[j]? = some (some (.l n))) (hn : Ω[n]? = some (.dk kvs)) (fg : FgG Γ Γ0)
    (hE : EndC (Ω.set n .gone) (.ls (((kvs.map (·.1)).filter c).map f)) w Ω2) (hk : k ≤ Ω.length) (hg2 : Ω2[n]? = some .gone)
    (hc : X.calm = true) (hN : X.N.Nodup) (ok : BlkOk X.N X.env.scope scope own) (hz : kvs.length < sizeLine)
    (hpg : ∀ (s : Shared) (H : Hp) (C : Addr) (cl : List (Str × Addr)) (fp : List Addr), PG (X.blk s H scope (compEnvC scope cl C X.env) fp) tg g)
    (hg : ∀ x ∈ kvs.map (·.1), GX X.K g (wipeG Γ0 (own.map (·.2))) (.d (kD x)) (Γx x) is) (his : ∀ i ∈ is, i ∈ own.map (·.2))
    (ht : ∀ x ∈ kvs.map (·.1), ∀ (s : Shared) (H : Hp) (C : Addr) (cl : List (Str × Addr)) (fp : List Addr), TsX (X.blk s H scope (compEnvC scope cl C X.env) fp) ifs (Γx x) (Ω.set n .gone) (c x))
    (he : ∀ x ∈ kvs.map (·.1), c x = true → ∀ (s : Shared) (H : Hp) (C : Addr) (cl : List (Str × Addr)) (fp : List Addr), PX (X.blk s H scope (compEnvC scope cl C X.env) fp) elt (Γx x) (Ω.set n .gone) (.d (f x)) (Ω.set n .gone))
    (hP : P.nx (Γ.set i (some w)) (Ω2.set n (.dk kvs)))
    (hsw : swapsWith (.ListComp elt [⟨tg, .Name y ppos, ifs, 0⟩] scope pos) (some (.Name z py)) spos.line X.env = pure true) (hzi : X.N[i]? = some z := by rfl) (hyl : X.env.scope.names.lookup z = some .local := by rfl)
    (hy : X.N[j]? = some y := by rfl) (hv : Vis X.env.scope y := by first | exact Or.inl rfl | exact Or.inr (Or.inl rfl) | exact Or.inr (Or.inr rfl)) (hd : (y == ("__debug__" : Str)) = false := by decide) (hcd : (y == ("__classdict__" : Str)) = false := by decide)
    (ok1 : Γ0.all (okS (Ω.set n .gone)) = true := by rfl) (ok2 : (Ω.set n .gone).all (okO (Ω.set n .gone)) = true := by rfl)
    (hs : ∀ x, foldedSetIterable (.Name y ppos) X.env x = pure x := by intro _; rfl) : SX X k (.Assign [.Name z py] (.ListComp elt [⟨tg, .Name y ppos, ifs, 0⟩] scope pos) spos) Γ Ω P := by
  have base := ps_setLc (elt := elt) (pos := pos) hc hN hzi hyl hsw (pi_keys (tg := tg) (pe_var (pos := ppos) hy hv hd hcd)) ok hpg (fun s H C cl fp => PTs.ex (p := fun z : Nat × Key => (kvs.map (·.1))[z.1]? = some z.2) (t := fun z => tTX X.K (Γx z.2) (Ω.set n .gone) (c z.2) (Ω.set n .gone)) fun z hz => ht z.2 (List.mem_of_getElem? hz) s H C cl fp) (fun s H C cl fp => PE.ex (p := fun z : Nat × Key => (kvs.map (·.1))[z.1]? = some z.2 ∧ c z.2 = true) (t := fun z => tX X.K (Γx z.2) (Ω.set n .gone) (.d (f z.2)) (Ω.set n .gone)) fun z hz => he z.2 (List.mem_of_getElem? hz.1) hz.2 s H C cl fp) hs
  refine PS.wk (ps_lock base) fun D σ H ⟨F, ρ, hw, hl, kn, kr, kb, kc⟩ => ?_
  obtain ⟨v, ev, rv⟩ := hl.2 j _ hj
  obtain ⟨a, us, rfl, ea, hq, rk⟩ := own_dk hw hn rv
  have hn1 := (List.getElem?_eq_some_iff.mp hn).1
  refine ⟨a, _, hq, True.intro, fun od => ⟨.ref a, ev, a, od, rfl, .inl ⟨us, upd_same, fun Dl hD => ?_⟩⟩⟩
  have w1 := hw.lend (x := .frz od (.dK us)) ea hn1 ok2
  have n0 : some a ∉ ρ.set n none := fun m => ((mem_set_none hw ea).mp m).2 rfl
  refine lc_readE (kvs.map (·.1)) (fun k => .d (kD k)) Γx c f (fun _ => Ω.set n .gone) (fun _ => Ω.set n .gone) w1 (hl.lend hw ea hn1 fg ok1) (walkX_keys upd_same n0 (rpk_keys rk)) rfl (fun _ _ z => nomatch z) (by rw [List.length_map]; exact hz) hD hg his (fun _ _ _ _ => rfl) fun H2 cw => ?_
  obtain ⟨ρ2, x2, wd, r⟩ := hE.go (w1.ffree hD) hD (w1.fresh hD) cw
  obtain ⟨e2, s2, wd2, r2⟩ := lend_back hw ea hq rk hn x2 wd hg2 r
  exact ⟨e2, kn _ _ _ _ _ (s2.step (by rw [hw.len]; exact hk)) wd2 ((hl.xs s2).set r2 i) hP⟩
end
end DL
/-! D layer, part 14: more built-ins. -/
namespace DL
open PySem PySem.Spec PyProof.Rows L2

/-! ### a list times an int -/
def rRepR : R2 := fun x y H Q => ∃ l k xs, x = .ref l ∧ y = .int k ∧ Rd H l (.lst xs) ∧ 0 ≤ k ∧ k < 2 ^ 63 ∧ xs.length * k.toNat ≤ sizeLine ∧
  ∀ p, H p = none → Q (.ref p) (upd H p (.lst (List.replicate k.toNat xs).flatten))
theorem op_repR {X : Cx} : OpR X (binaryOp .Mult) rRepR := by
  intro pins s σ H x y v u Q I rx ry h
  obtain ⟨l, k, xs, rfl, rfl, hH, h1, h2, hz, q⟩ := h
  cases rx
  obtain ⟨t, rfl⟩ := ry
  obtain ⟨z, its, n, r, e⟩ := hH.ok I.hok
  have hlen : its.toArray.size * k.toNat ≤ sizeLine := by rw [List.size_toArray, ← r.length]; exact hz
  have hcap : ¬ its.toArray.size * k.toNat > (2 ^ 63 - 1) / 8 := fun hh => by
    have : (sizeLine : Nat) ≤ (2 ^ 63 - 1) / 8 := by decide
    omega
  have hfit : ¬ (!Builtin.List.listFitsIndex k) = true := by
    rw [fitsIndex_both (by omega) h2]
    exact Bool.false_ne_true
  have hlong : ¬ Builtin.List.listTooLong (its.toArray.size * k.toNat) = true := by
    rw [notLongL hlen]
    exact Bool.false_ne_true
  have f0 : ∀ m : Nat, List.foldl (fun x1 x2 => x1 ++ x2) #[] (List.replicate m its.toArray) = (List.replicate m its).flatten.toArray := fun m => (foldl_rep its m []).trans (by rw [List.nil_append])
  have hnew : List.foldl (fun x1 x2 => x1 ++ x2) #[] (List.replicate (if its.toArray.isEmpty = true then 0 else k.toNat) its.toArray) = (List.replicate k.toNat its).flatten.toArray := by
    rw [f0]
    cases its with
    | nil => simp
    | cons a r' => rw [if_neg (by simp)]
  refine wpAny_binaryOp_repeat_ref (T := "list") (U := "int") (by decide) ⟨_, e, rfl⟩ (fun s' => typeIs_int s' k t) noFill_list_mul F.fills_int_mul F.slot_int_rmul repeat_list F.slot_int_index.lookup
    (call_meets F.slot_int_rmul (typeIs_int s k t) F.entry_int_rmul (F.args_int_rmul_2 _ _) (int___rmul___int_list k t l its.toArray n) ⟨e, rfl, ⟨_, e, rfl⟩, ?_⟩)
  refine call_meets F.slot_list_mul ⟨_, e, rfl⟩ F.entry_list_mul (F.args_list_mul_2 _ _) (AutoListH.list___mul___list_int_3 l its.toArray n k t hfit hcap hlong) ⟨e, ?_⟩
  rw [hnew]
  exact ⟨.ref _, _, I.lnew (t' := s.toks) (r.rep k.toNat) (by rw [PyProof.Rows.lm_len_rep_flat, Nat.mul_comm]; exact hz), rfl, q _ I.fresh⟩
theorem RpL.rep {K : PySem.W.Frag} {H : Hp} {vs : List V} {ds : List Dt} (r : RpL K H vs ds) : ∀ n : Nat, RpL K H (List.replicate n vs).flatten (List.replicate n ds).flatten
  | 0 => .nil
  | n + 1 => by
    rw [List.replicate_succ, List.replicate_succ, List.flatten_cons, List.flatten_cons]
    exact r.app (RpL.rep r n)
section
variable {X : Cx} {a b c e o : Expr} {es : List Expr} {Γ : Gm} {Ω Ω' Ω1 Ω2 Ω3 : Om} {w wa wb wo : W} {ws : List W} {p p2 pos pos2 apos cpos : Pos} {x y : Dt} {ds : List Dt} {ns : List Int} {n : Nat}
theorem px_rep {k : Int} (ha : PX X a Γ Ω wa Ω1) (hb : PX X b Γ Ω1 (.d (.int k)) Ω2) (hk : 0 ≤ k ∧ k < 2 ^ 63 ∧ ds.length * k.toNat ≤ sizeLine) (hE : EndC Ω2 (.ls (List.replicate k.toNat ds).flatten) w Ω3) (hx : LtOf Ω2 wa ds := by first | exact .d | exact .l rfl) : PX X (.BinOp a .Mult b pos) Γ Ω w Ω3 :=
  px_op op_repR (fun F ρ H v u Q hw rx ry q => by
    obtain rfl := ry.int_inv
    obtain ⟨l, us, rfl, q1, r⟩ := hx.rd hw rx
    refine ⟨l, k, us, rfl, rfl, q1, hk.1, hk.2.1, by rw [r.length]; exact hk.2.2, fun p e => ?_⟩
    cases hE with
    | d h => cases h; exact q.newL hw (r.rep _) e
    | l h => exact q.ownL hw (r.rep _) e) ha hb

/-! ### isinstance -/
def Dt.tyN : Dt → Option String
  | .non => some "NoneType"
  | .bl _ => some "bool"
  | .int _ => some "int"
  | .str _ => some "str"
  | .tup _ => some "tuple"
  | .lst _ => some "list"
  | .rl _ => some "list"
  | .kt _ => some "tuple"
  | .dic _ => some "dict"
  | _ => none
theorem rd_tyL {K : PySem.W.Frag} {H : Hp} {a : Addr} {vs : List V} (h : SqL K H a vs) : TyX K H (.ref a) (.type "list") := by
  rcases h with (h | ⟨o, h⟩) | ⟨o, its, n, h, c, _⟩
  · exact .base (.lst h)
  · exact .base (.frz h)
  · exact .kList h c
theorem rd_tyT {K : PySem.W.Frag} {H : Hp} {a : Addr} {vs : List V} (h : SqT K H a vs) : TyX K H (.ref a) (.type "tuple") := by
  rcases h with (h | ⟨o, h⟩) | ⟨o, its, n, h, c, _⟩
  · exact .base (.tup h)
  · exact .fTuple h
  · exact .kTuple h c
theorem rp_ty {K : PySem.W.Frag} {H : Hp} {v : V} {d : Dt} {T : String} (r : Rp K H v d) (h : d.tyN = some T) : TyX K H v (.type T) := by
  cases r <;> simp only [Dt.tyN, Option.some.injEq, reduceCtorEq] at h <;> subst h
  · exact .base .non
  · exact .base (.bl _)
  · exact .base (.int _)
  · exact .base (.str _)
  · rename_i q _; exact rd_tyT q
  · rename_i q _; exact rd_tyL (.inl q)
  · rename_i q _
    rcases q with q | ⟨o, q⟩
    · exact .base (.dK q)
    · exact .fDict q
  · rename_i q; exact rd_tyL q
  · rename_i q; exact .base (.tup q)
def tAC (K : PySem.W.Frag) (Γ : Gm) (Ω : Om) (w : W) (u : V) (Ω' : Om) : TA := fun σ H Q => ∃ F ρ, Wd K F ρ Ω H ∧ Sl K F ρ Γ σ H ∧ ∀ v ρ' H', XS ρ H ρ' H' → Wd K F ρ' Ω' H' → RpW K F ρ' H' v w → Q [v, u] H'
theorem px_isi {T S : String} {tn : Str} {r : Bool} (ha : PX X a Γ Ω (.d x) Ω1) (hm : X.mg "isinstance" = none) (hmt : X.mg tn = none) (hT : x.tyN = some S) (hk : kitB S T = some r) (hv : bootBuiltins tn = some (.type T)) (hg : Gl X "isinstance" := by rfl) (hgt : Gl X tn := by rfl) (hn : tn ≠ "__name__" := by decide) (hd : (tn == ("__debug__" : Str)) = false := by decide)
    (he : starEach [a, .Name tn p2] X.env = (false, eval a X.env) :: starEach [.Name tn p2] X.env := by rfl) (hs2 : starEach [.Name tn p2] X.env = (false, eval (.Name tn p2) X.env) :: starEach [] X.env := by rfl) (hpl : (backTo pos (starEach [.Name tn p2] X.env)).any (·.1) = false := by rfl) : PX X (.Call (.Name "isinstance" p) [a, .Name tn p2] [] pos) Γ Ω (.d (.bl r)) Ω1 :=
  PE.wk (pe_callB call_isi hg hm PyProof.Rows.boot_isinstance (PA.wk (t' := tAC X.K Γ Ω (.d x) (.ty T) Ω1) (pa_cons ha (pa_cons (pe_bltn hgt hmt hv (v := .ty T) rfl hn hd) pa_nil hs2) he) fun σ H Q ⟨F, ρ, hw, hs, k⟩ => ⟨F, ρ, hw, hs, fun v ρ1 H1 s1 w1 r1 => k v ρ1 H1 s1 w1 r1⟩) (by decide) (by decide) he hpl)
    fun σ H Q ⟨F, ρ, hw, hs, k⟩ => ⟨F, ρ, hw, hs, fun v ρ1 H1 s1 w1 r1 => ⟨v, .ty T, .type S, .type T, r, rfl, .ty T, rp_ty (Rp.mono Kp.hid (show Rp X.K (hid F ρ1 H1) v x from r1)) hT, kit_ty hk, k _ ρ1 H1 s1 w1 (Rp.bl r)⟩⟩

/-! ### a list unpacked -/
theorem gx_unl {K : PySem.W.Frag} {gs : TGs} {Γ' : Gm} {is : List Nat} {n : Nat} (h : GXs K gs Γ (ds.map W.d) Γ' is) (hn : ds.length = n := by rfl) : GX K (gUnl K n gs) Γ (.d (.lst ds)) Γ' is := fun F ρ Ω H v σ Q hw hs r k => by
  have r : Rp K (hid F ρ H) v (.lst ds) := r
  cases r with
  | lst q r => exact ⟨_, _, rfl, .inl (rd_unhid q), by rw [r.length]; exact hn, h F ρ Ω H _ σ Q hw hs (RpWs.of_data r) k⟩

/-! ### sorted -/
theorem eachIs_of {K : PySem.W.Frag} {H : Hp} : ∀ {vs : List V} {us : List Value} {ds : List Dt}, Vals vs us → RpL K H vs ds → PySem.W.EachIs (fun u d => ∃ v, RelV v u ∧ Rp K H v d) us ds
  | _, _, _, .nil, .nil => .nil
  | _, _, _, .cons q t, .cons r s => .cons ⟨_, q, r⟩ (eachIs_of t s)
theorem of_eachIs {K : PySem.W.Frag} {H : Hp} : ∀ {us : List Value} {ds : List Dt}, PySem.W.EachIs (fun u d => ∃ v, RelV v u ∧ Rp K H v d) us ds → ∃ vs, Vals vs us ∧ RpL K H vs ds
  | _, _, .nil => ⟨[], .nil, .nil⟩
  | _, _, .cons ⟨v, q, r⟩ t => by
    obtain ⟨vs, a, b⟩ := of_eachIs t
    exact ⟨v :: vs, .cons q a, .cons r b⟩
def rSortD (K : PySem.W.Frag) : List V → Hp → VK → Prop := fun xs H Q => ∃ (a : Addr) (vs : List V) (ds : List Dt) (h0 : Hp), xs = [.ref a] ∧ SqL K H a vs ∧ Kp h0 H ∧ RpL K h0 vs ds ∧ Dt.plL ds = true ∧ PySem.W.AllAlike (ds.map Dt.py) ∧ PySem.W.Sortable (ds.map Dt.py) ∧ ds.length ≤ sizeLine ∧ (∀ d ∈ ds, d.py.depth ≤ 40) ∧
  ∀ ws p, RpL K h0 ws (ds.mergeSort (PySem.W.dataLe false Dt.py)) → H p = none → Q (.ref p) (upd H p (.lst ws))
theorem plL_mem {ds : List Dt} (h : Dt.plL ds = true) : ∀ d ∈ ds, d.pl = true := by
  induction ds with
  | nil => exact fun d m => nomatch m
  | cons a r ih =>
    intro d m
    rw [Dt.plL, Bool.and_eq_true] at h
    rcases List.mem_cons.mp m with rfl | m
    · exact h.1
    · exact ih h.2 d m
theorem eachIs_reads {pins : List (Addr × Obj)} {s : Shared} {σ : L2.St} {H h0 : Hp} (I : Inv X pins σ H s) (kp : Kp h0 H) : ∀ {us : List Value} {ds : List Dt}, PySem.W.EachIs (fun u d => ∃ v, RelV v u ∧ Rp X.K h0 v d) us ds → (∀ d ∈ ds, d.pl = true) → PySem.W.EachIs (fun v b => ∃ as, Reads s.heap v (Dt.py b) as) us ds
  | _, _, .nil, _ => .nil
  | _, _, .cons ⟨v, q, r⟩ t, h => .cons (Dp.reads I _ v _ ((Rp.mono kp r).dp (h _ (List.mem_cons_self ..))) q) (eachIs_reads I kp t fun d m => h d (List.mem_cons_of_mem _ m))
theorem call_sortD (hu : X.A.units + 64 < cLine) : CallR X (.builtin "sorted") (rSortD X.K) := by
  intro pins s σ H xs us Q I rr h
  obtain ⟨a, vs, ds, h0, rfl, hq, kp, r, hpl, hal, hso, hz, hdp, q⟩ := h
  obtain ⟨u, rfl, ru⟩ := vals1 rr
  obtain rfl : u = Value.ref a := ru
  obtain ⟨its, rv, p', hz'⟩ := I.list hq
  have ei := eachIs_of rv r
  refine PySem.W.sorted_data (enc := Dt.py) p'.isList ei (eachIs_reads I kp ei (plL_mem hpl)) hal hso hz (fun b hb => by have := hdp b hb; omega) fun out hl eo => ?_
  obtain ⟨ws, wv, wr⟩ := of_eachIs eo
  obtain ⟨c, hc⟩ := PyProof.Rows.sortedAll_at s.heap its out.toArray
  have hn : H (s.heap.objs.size + 1) = none := I.hok.fresh (Nat.le_succ _)
  refine ⟨.ref (s.heap.objs.size + 1), upd H (s.heap.objs.size + 1) (.lst ws), I.laid (t' := s.toks) (fun b o e => PyProof.Rows.sortedAll_old e) (Nat.le_succ _) ⟨?_, out, c, wv, hc⟩, rfl, q ws _ wr hn⟩
  rw [wv.length, hl]
  exact hz
theorem px_sortD (hu : X.A.units + 64 < cLine) (ha : AX X [e] Γ Ω [wa] Ω1) (hm : X.mg "sorted" = none) (hp : Dt.plL ds = true) (hal : PySem.W.AllAlike (ds.map Dt.py)) (hso : PySem.W.Sortable (ds.map Dt.py)) (hz : ds.length ≤ sizeLine) (hdp : ∀ d ∈ ds, d.py.depth ≤ 40) (hg : Gl X "sorted" := by rfl) (hx : LsOf Ω1 wa ds := by first | exact .d | exact .l rfl | exact .r)
    (he : starEach [e] X.env = (false, eval e X.env) :: starEach [] X.env := by rfl) (hpl : (backTo pos (starEach [] X.env)).any (·.1) = false := by rfl) : PX X (.Call (.Name "sorted" p) [e] [] pos) Γ Ω (.d (.lst (ds.mergeSort (PySem.W.dataLe false Dt.py)))) Ω1 :=
  px_callB (call_sortD hu) (fun F ρ H vs Q hw rr k => by
    obtain ⟨v, rfl, r⟩ := rr.one
    obtain ⟨b, us, rfl, q, r⟩ := hx.sq hw r
    exact ⟨b, us, ds, _, rfl, q, Kp.hid, r, hp, hal, hso, hz, hdp, fun ws p wr e => k.newL hw wr e⟩) ha PyProof.Rows.boot_sorted hm hg (by decide) (by decide) he hpl

/-! ### sorted of a dict's keys, ints -/
theorem perm_sorted_unique {ys zs : List Int} (p : ys.Perm zs) (a : ys.Pairwise (· ≤ ·)) (b : zs.Pairwise (· ≤ ·)) : ys = zs :=
  p.eq_of_pairwise (fun _ _ _ _ h1 h2 => Int.le_antisymm h1 h2) a b
theorem px_sortDI {kvs : List (Key × Dt)} {ks zs : List Int} (hc : X.calm = true) (ha : AX X [e] Γ Ω [.d (.dic kvs)] Ω1) (hm : X.mg "sorted" = none) (hk : kvs.map (·.1) = ks.map Sum.inl) (h64 : ks.length < 64) (hp : zs.Perm ks) (hs : zs.Pairwise (· ≤ ·)) (hg : Gl X "sorted" := by rfl)
    (he : starEach [e] X.env = (false, eval e X.env) :: starEach [] X.env := by rfl) (hpl : (backTo pos (starEach [] X.env)).any (·.1) = false := by rfl) : PX X (.Call (.Name "sorted" p) [e] [] pos) Γ Ω (.d (.lst (zs.map .int))) Ω1 :=
  px_callB (call_sortedDI hc) (fun F ρ H vs Q hw rr k => by
    obtain ⟨v, rfl, r⟩ := rr.one
    have r : Rp X.K (hid F ρ H) v (.dic kvs) := r
    cases r with
    | dic q r =>
      refine ⟨_, _, ks, rfl, rd_unhid q, (rpk_keys r).trans hk, h64, fun ys p h1 h2 e => ?_⟩
      obtain rfl := perm_sorted_unique (h1.trans hp.symm) h2 hs
      exact k.newL hw (RpL.of_ints _) e) ha PyProof.Rows.boot_sorted hm hg (by decide) (by decide) he hpl

/-! ### list(reversed(..)) -/
end
section
variable {prog : Program} {w : World} {A : Around} {E : Value → Shared → Prop} {s : Shared}
/-- S.__init__(it), it reversed(a list), S a new empty list -/
theorem init_rev {R : Result → Shared → Prop} {it l S : Addr} {items : Array Value} (hh : A.handled = none) (hit : s.heap.IsRevIter it l ((items.size : Int) - 1)) (hl : s.heap.IsList l items) (hne : l ≠ it) (hSi : S ≠ it) (hSl : S ≠ l) (hn : items.size ≤ sizeLine)
    (hS : s.heap.get? S = some { cls := .type "list", data := .seq #[] })
    (hR : ∀ h' tk acc c, (∀ b o, b ≠ S → b ≠ it → s.heap.get? b = some o → h'.get? b = some o) → h'.get? S = some { cls := .type "list", dict := none, data := .seq acc c, slots := #[] } → ItemsOf (fun i v => items[items.size - 1 - i]? = some v) acc items.size → R (.ok (.ret .none)) { s with heap := h', toks := tk }) :
    wpAny (model prog w) A.in1 (Builtin.«list.__init__» ⟨[.ref S, .ref it], []⟩) (fun fin s' => match fin with | .done f => R (.ok f) s' | .again c' => c'.quiet = true ∧ codeAny (model prog w) A c' R s') (fun e s' => R (.error e) s') s := by
  have W0 := (Walks.listRev (prog := prog) (w := w) (A := A.in1) hh it l hne items).toS
  have hSf : S ∉ [it, l] := fun m => (List.mem_cons.mp m).elim hSi fun m => hSl (List.mem_singleton.mp m)
  show wpAny _ _ (do let old ← Builtin.List.listItems (.ref S); Builtin.List.listUpdate (.ref S) (fun _ => #[]); letGo old.toList.reverse; Builtin.List.listExtendWith (.ref S) (.ref it) .none) _ _ s
  refine wpAny_bind ?_
  unfold Builtin.List.listItems
  refine wpAny_bind (wpAny_seqItems hS rfl (wpAny_pure ?_))
  show wpAny _ _ (updateSeq S (fun _ => #[]) >>= fun _ => letGo (#[] : Array Value).toList.reverse >>= fun _ => Builtin.List.listExtendWith (.ref S) (.ref it) .none) _ _ s
  have hS2 := Heap.get?_update_self (Obj.mapSeq (fun _ => (#[] : Array Value))) hS rfl
  have oth : ∀ b o, b ≠ S → s.heap.get? b = some o → (s.heap.update S (Obj.mapSeq (fun _ => (#[] : Array Value)))).get? b = some o := fun b o hb e => (Heap.get?_update_other _ _ (Ne.symm hb)).trans e
  refine wpAny_bind (wpAny_updateSeq hS rfl (wpAny_bind (wpAny_letGo ?_)))
  generalize hG : s.heap.update S (Obj.mapSeq (fun _ => (#[] : Array Value))) = h2 at hS2 oth ⊢
  have hit1 : h2.IsRevIter it l ((items.size : Int) - 1) := hit.at fun o e => oth it o (Ne.symm hSi) e
  have hl1 : h2.IsList l items := hl.at fun o e => oth l o (Ne.symm hSl) e
  have hT : ({ s with heap := h2 } : Shared).TypeIs (.ref it) "list_reverseiterator" := Heap.IsRevIter.typeIs (s := { s with heap := h2 }) hit1
  have hsame : Builtin.List.listSameRef (.ref S) (.ref it) = false := by simp [Builtin.List.listSameRef, hSi]
  unfold Builtin.List.listExtendWith
  refine wpAny_bind (wpAny_typeOf hT ?_)
  rw [if_neg (by rw [hsame]; decide)]
  refine wpAny_bind (wpAny_pyIter_revIter (s := { s with heap := h2 }) hit1 (wpAny_bind (wpAny_holding ?_)))
  unfold Builtin.List.listLengthHint
  refine wpAny_bind (wpAny_specialOf hT RT.nolen_lri ?_)
  show wpAny _ A.in1 (specialOf (Value.ref it) (Str.ofString "__length_hint__") >>= _) _ _ _
  refine wpAny_bind (wpAny_specialOf hT RT.hint_lri ?_)
  generalize hid : ("list_reverseiterator.__length_hint__" : String) = id0
  wp_delta
  rw [show splitId id0 = some ("list_reverseiterator", "__length_hint__") from by subst hid; decide +kernel]
  subst hid
  refine wpAny_bind (wpAny_isInstance (b := true) hT (by rw [isSubtype_type]; kernel_rfl) (wpAny_pure ?_))
  rw [if_neg (by decide)]
  have e0 : ((items.size : Nat) : Int) - 1 - ((0 : Nat) : Int) = (items.size : Int) - 1 := by omega
  refine wpAny_pure ⟨plainId_quiet F.plain_extend_loop _, codeAny_extend_loopS W0 hn _ hSf _ items.size 0 _ _ _ rfl (Nat.zero_le _) ⟨Nat.zero_le _, by rw [e0]; exact hit1, hl1⟩ hS2 (ItemsOf.nil _) fun s' acc' c' hm hS' hacc => ?_⟩
  rw [Moved.eq_with hm]
  exact hR s'.heap s'.toks acc' c' (fun b o hb hbi e => hm.heap b o (fun hmem => (List.mem_cons.mp hmem).elim hb fun hmem => hbi (List.mem_singleton.mp hmem)) (oth b o hb e)) hS' hacc
theorem call_list_rev {it l : Addr} {items : Array Value} {Q : Value → Shared → Prop} (hh : A.handled = none) (hit : s.heap.IsRevIter it l ((items.size : Int) - 1)) (hl : s.heap.IsList l items) (hne : l ≠ it) (hn : items.size ≤ sizeLine)
    (hQ : ∀ h' tk acc c, (∀ b o, b ≠ it → s.heap.get? b = some o → h'.get? b = some o) → h'.get? s.heap.objs.size = some { cls := .type "list", dict := none, data := .seq acc c, slots := #[] } → ItemsOf (fun i v => items[items.size - 1 - i]? = some v) acc items.size → Q (.ref s.heap.objs.size) { s with heap := h', toks := tk }) :
    wpAny (model prog w) A (call (.type "list") [.ref it]) Q E s := by
  obtain ⟨oi, hoi, _⟩ := id hit
  obtain ⟨ol, hol, _⟩ := id hl
  refine callType_codes (Q₁ := fun obj s₁ => obj = .ref s.heap.objs.size ∧ s₁ = { s with heap := s.heap.push { cls := .type "list", data := .seq #[] } }) PySem.F.called_list (PySem.F.typeCall_list_1 _) PySem.F.entry_list_init (code_list_new _ ⟨rfl, rfl⟩) fun obj s₁ h₁ => ?_
  obtain ⟨rfl, rfl⟩ := h₁
  have hS : (s.heap.push { cls := .type "list", data := .seq #[] }).get? s.heap.objs.size = some { cls := .type "list", data := .seq #[] } := Heap.get?_push_size _ rfl
  refine ⟨⟨_, hS, rfl⟩, PySem.F.args_list_init_2 _ _, init_rev (A := A.in1) (s := { s with heap := s.heap.push { cls := .type "list", data := .seq #[] } }) hh (hit.at fun o e => Heap.get?_push_of_some _ e) (hl.push _) hne (Nat.ne_of_gt (Heap.lt_size hoi)) (Nat.ne_of_gt (Heap.lt_size hol)) hn hS fun h' tk acc' c' hk hS' hacc => ?_⟩
  exact ⟨rfl, hQ h' tk acc' c' (fun b o hb e => hk b o (Nat.ne_of_lt (Heap.lt_size e)) hb (Heap.get?_push_of_some _ e)) hS' hacc⟩
end
section
variable {X : Cx} {a b c e o : Expr} {es : List Expr} {Γ : Gm} {Ω Ω' Ω1 Ω2 Ω3 : Om} {w wa wb wo : W} {ws : List W} {p p2 pos pos2 apos cpos : Pos} {x y : Dt} {ds : List Dt} {ns : List Int} {n : Nat}
def tLstRev (K : PySem.W.Frag) (te : TE) : TE := fun σ H Q => te σ H fun v H1 => ∃ (a : Addr) (xs : List V), v = .ref a ∧ SqL K H1 a xs ∧ ∀ q, H1 q = none → Q (.ref q) (upd H1 q (.lst xs.reverse))
theorem pe_lstRev {te : TE} (hc : X.calm = true) (hg : Gl X "list") (hm : X.mg "list" = none) (hg2 : Gl X "reversed") (hm2 : X.mg "reversed" = none) (hte : PE X e te)
    (hs : starEach [e] X.env = (false, eval e X.env) :: starEach [] X.env)
    (hs2 : starEach [.Call (.Name "reversed" p2) [e] [] pos2] X.env = (false, eval (.Call (.Name "reversed" p2) [e] [] pos2) X.env) :: starEach [] X.env) :
    PE X (.Call (.Name "list" p) [.Call (.Name "reversed" p2) [e] [] pos2] [] pos) (tLstRev X.K te) := by
  refine ⟨fun pins s σ H Q I h => ?_⟩
  refine Call_ (ld_blt I hg hm PyProof.Rows.boot_list (PyProof.Rows.callWith_type1 (args_cons (Call_ (ld_blt I hg2 hm2 PyProof.Rows.boot_reversed (PyProof.Rows.callWith_type1 (args_cons (thn (hte.run pins s σ H _ I h) fun u s1 ⟨v, H1, I1, r1, q1⟩ => args_nil ?_) hs) hs rfl))) hs2) hs2 rfl))
  obtain ⟨a, xs, ev, hq, q⟩ := q1
  subst ev
  obtain rfl : u = Value.ref a := r1
  obtain ⟨its, rv, p', hz⟩ := I1.list hq
  refine call_reversed_list p'.isList (args_nil ?_)
  obtain ⟨ol, hol, _⟩ := id p'.isList
  have hne : a ≠ s1.heap.objs.size := Nat.ne_of_lt (Heap.lt_size hol)
  have hn : its.toArray.size ≤ sizeLine := by rw [List.size_toArray, ← rv.length]; exact hz
  refine call_list_rev (s := { s1 with heap := s1.heap.push (revObj a ((its.toArray.size : Int) - 1)) }) (I1.ok.hd hc) ⟨_, Heap.get?_push_size _ rfl, rfl, rfl⟩ (p'.isList.push _) hne hn fun h' tk acc c hk hS hi => ?_
  have hp : s1.heap.objs.size ≤ (s1.heap.push (revObj a ((its.toArray.size : Int) - 1))).objs.size := by rw [Heap.size_push]; exact Nat.le_succ _
  refine ⟨.ref _, upd H1 _ (.lst xs.reverse), I1.laid (t' := tk) (h' := h') (fun b o z => hk b o (Nat.ne_of_lt (Heap.lt_size z)) (Heap.get?_push_of_some _ z)) hp ⟨by rw [List.length_reverse]; exact hz, acc.toList, c, RT.vals_rev rv hi, ?_⟩, rfl, q _ (I1.hok.fresh hp)⟩
  rw [Array.toArray_toList]
  exact hS
theorem px_lstRev (hc : X.calm = true) (ha : PX X e Γ Ω wa Ω1) (hm : X.mg "list" = none) (hm2 : X.mg "reversed" = none) (hE : EndC Ω1 (.ls ds.reverse) w Ω2) (hg : Gl X "list" := by rfl) (hg2 : Gl X "reversed" := by rfl) (hx : LsOf Ω1 wa ds := by first | exact .d | exact .l rfl | exact .r)
    (hs : starEach [e] X.env = (false, eval e X.env) :: starEach [] X.env := by rfl)
    (hs2 : starEach [.Call (.Name "reversed" p2) [e] [] pos2] X.env = (false, eval (.Call (.Name "reversed" p2) [e] [] pos2) X.env) :: starEach [] X.env := by rfl) : PX X (.Call (.Name "list" p) [.Call (.Name "reversed" p2) [e] [] pos2] [] pos) Γ Ω w Ω2 :=
  PE.wk (pe_lstRev hc hg hm hg2 hm2 ha hs hs2) fun σ H Q ⟨F, ρ, hw, hs, k⟩ => ⟨F, ρ, hw, hs, fun v1 ρ1 H1 s1 w1 r1 => by
    obtain ⟨b, us, rfl, q, r⟩ := hx.sq w1 r1
    refine ⟨b, us, rfl, q, fun l el => ?_⟩
    cases hE with
    | d h => cases h; exact (k.go s1).newL w1 r.rev el
    | l h => exact (k.go s1).ownL w1 r.rev el⟩

/-! ### repr -/
def rRepr (K : PySem.W.Frag) : List V → Hp → VK → Prop := fun xs H Q => ∃ (a : Addr) (d : PyData), xs = [.ref a] ∧ Dp K H (.ref a) d ∧ d.showable = true ∧ d.hasDict = false ∧ d.depth ≤ 40 ∧ d.shown.length ≤ sizeLine ∧ Q (.str d.shown) H
theorem call_reprD (hu : X.A.units + 64 < cLine) (hgu : X.A.guards = some []) : CallR X (.builtin "repr") (rRepr X.K) := by
  intro pins s σ H xs us Q I rr h
  obtain ⟨a, d, rfl, hd, hsh, hdi, hde, hz, q⟩ := h
  obtain ⟨u, rfl, ru⟩ := vals1 rr
  obtain ⟨as, rd⟩ := Dp.reads I d _ u hd ru
  obtain rfl : u = Value.ref a := ru
  exact PySem.repr_of_reads' rd hsh (fun z => by rw [hdi] at z; cases z) hgu (by omega) (fun b o e => e) (fun h' u tk hk => ⟨.str d.shown, H, I.kept (t' := tk) hk, ⟨u, rfl⟩, q⟩) hz
theorem px_repr (hu : X.A.units + 64 < cLine) (hgu : X.A.guards = some []) (ha : AX X [e] Γ Ω [.d x] Ω1) (hr : (∃ ds, x = .lst ds) ∨ ∃ ds, x = .tup ds) (hp : x.pl = true) (hsh : x.py.showable = true) (hdi : x.py.hasDict = false) (hde : x.py.depth ≤ 40) (hz : x.py.shown.length ≤ sizeLine) (hm : X.mg "repr" = none) (hg : Gl X "repr" := by rfl)
    (he : starEach [e] X.env = (false, eval e X.env) :: starEach [] X.env := by rfl) (hpl : (backTo pos (starEach [] X.env)).any (·.1) = false := by rfl) : PX X (.Call (.Name "repr" p) [e] [] pos) Γ Ω (.d (.str x.py.shown)) Ω1 :=
  px_callB (call_reprD hu hgu) (fun F ρ H vs Q hw rr k => by
    obtain ⟨v, rfl, r⟩ := rr.one
    have r : Rp X.K (hid F ρ H) v x := r
    have hv : ∃ a, v = .ref a := by
      rcases hr with ⟨ds, rfl⟩ | ⟨ds, rfl⟩ <;> cases r <;> exact ⟨_, rfl⟩
    obtain ⟨a, rfl⟩ := hv
    exact ⟨a, x.py, rfl, (Rp.mono Kp.hid r).dp hp, hsh, hdi, hde, hz, k.val hw (Rp.str _)⟩) ha PyProof.Rows.boot_repr hm hg (by decide) (by decide) he hpl
end
end DL
/-! D layer, part 15: calls whose result is known by what it keeps. -/
namespace DL
open PySem PySem.Spec PyProof.Rows L2

def tXR (K : PySem.W.Frag) (Γ : Gm) (Ω : Om) (R : W → Om → Prop) : TE := fun σ H Q => ∃ F ρ, Wd K F ρ Ω H ∧ Sl K F ρ Γ σ H ∧ ∀ v w Ω' ρ' H', R w Ω' → XS ρ H ρ' H' → Wd K F ρ' Ω' H' → RpW K F ρ' H' v w → Q v H'
/-- e gives some w, the cells some Ω', by R -/
def PXR (X : Cx) (e : Expr) (Γ : Gm) (Ω : Om) (R : W → Om → Prop) : Prop := PE X e (tXR X.K Γ Ω R)
/-- what a caller has behind a call -/
def outR (c : Ctr) (sub : List Nat) (Ω : Om) : W → Om → Prop := fun w Ω2 => ∃ w' Ω', c.R w' Ω' ∧ w = rnW (ren sub Ω.length) w' ∧ Ω2 = putC Ω sub (Ω'.map (rnO (ren sub Ω.length)))
section
variable {X : Cx} {e o : Expr} {es : List Expr} {Γ : Gm} {Ω Ω1 Ω2 Ω3 : Om} {w wo : W} {ws : List W} {p pos apos : Pos} {x m : Str} {j k : Nat} {ps : List Str} {α : Type} {C : α → Ctr} {Cl : Addr} {R R' : W → Om → Prop} {P : Post}
theorem PXR.of (h : PX X e Γ Ω w Ω1) (r : R w Ω1) : PXR X e Γ Ω R := PE.wk h fun σ H Q ⟨F, ρ, hw, hs, k⟩ => ⟨F, ρ, hw, hs, fun v ρ' H' s wd rp => k v w Ω1 ρ' H' r s wd rp⟩
theorem PXR.imp (h : PXR X e Γ Ω R) (r : ∀ w Ω', R w Ω' → R' w Ω') : PXR X e Γ Ω R' := PE.wk h fun σ H Q ⟨F, ρ, hw, hs, k⟩ => ⟨F, ρ, hw, hs, fun v w Ω' ρ' H' q s wd rp => k v w Ω' ρ' H' (r w Ω' q) s wd rp⟩
theorem CallAt.goR {K : PySem.W.Frag} {F : List Addr} {ρ : RO} {H : Hp} {c : Ctr} {sub : List Nat} {ws : List W} {vs : List V} {Q : VK} {E : XK} (h : CallAt c sub Ω ws) (hw : Wd K F ρ Ω H) (hv : RpWs K F ρ H vs ws)
    (q : ∀ v w Ω' ρ' H', outR c sub Ω w Ω' → XS ρ H ρ' H' → Wd K F ρ' Ω' H' → RpW K F ρ' H' v w → Q v H') : spC K c vs H Q E :=
  sp_core sub hw (h.ws_ ▸ hv) h.nd h.len h.wf h.wfc h.cell fun v w' Ω' ρ' H' r s wd rv => q v _ _ ρ' H' ⟨w', Ω', r, rfl, rfl⟩ s wd rv
theorem pxr_call (D : DefOk X.prog X.w X.K X.mg X.base x j ps C) (hr : Room j X.A) (a : α) (sub : List Nat) (ha : AX X (e :: es) Γ Ω ws Ω1) (hc : CallAt (C a) sub Ω1 ws)
    (hg : Gl X x := by rfl) (hdb : (x == ("__debug__" : Str)) = false := by decide) (he : starEach (e :: es) X.env = (false, eval e X.env) :: starEach es X.env := by rfl) (hpl : (backTo pos (starEach es X.env)).any (·.1) = false := by rfl) : PXR X (.Call (.Name x p) (e :: es) [] pos) Γ Ω (outR (C a) sub Ω1) := by
  obtain ⟨f, fd, F, hm, hk, hb⟩ := D.ex
  refine PE.wk (pe_call F hr hg hm hk hb .nil pass0 ha hdb he hpl) fun σ H Q ⟨F', ρ, hw, hs, q⟩ => ⟨F', ρ, hw, hs, fun vs ρ1 H1 s1 w1 r1 => ⟨a, ?_⟩⟩
  rw [List.append_nil]
  exact hc.goR w1 r1 fun v w Ω' ρ' H' r s => q v w Ω' ρ' H' r (s1.trans s)
theorem pxr_meth {pl : Sem Bool} (D : MethOk X.prog X.w X.K X.mg X.base Cl m j ps C) (hr : Room j X.A) (c : Cls X.K Cl) (a : α) (sub : List Nat) (ho : PX X o Γ Ω wo Ω1) (ha : AX X (e :: es) Γ Ω1 ws Ω2) (hi : InsOf Ω1 Cl m wo) (hc : CallAt (C a) sub Ω2 (wo :: ws))
    (hst : starEach (e :: es) X.env = (false, eval e X.env) :: starEach es X.env := by rfl) (hpl : (backTo pos (starEach es X.env)).any (·.1) = false := by rfl)
    (ht : eval (.Call (.Attribute o m apos) (e :: es) [] pos) X.env = (do
      let ov ← eval o X.env
      standAt apos.atName
      let (f, first) ← holding [ov] (getMethod ov m pl)
      callWith pos f first (backTo pos (starEach (e :: es) X.env)) (backToKw pos (keywordEach [] X.env))) := by rfl) : PXR X (.Call (.Attribute o m apos) (e :: es) [] pos) Γ Ω (outR (C a) sub Ω2) := by
  obtain ⟨f, fd, F, hm, hb⟩ := D.ex
  refine PE.wk (pe_meth ho c hm F hr hb .nil pass0 ha hst hpl ht) fun σ H Q ⟨F', ρ, hw, hs, q⟩ => ⟨F', ρ, hw, hs, fun v1 ρ1 H1 s1 w1 r1 => ?_⟩
  obtain ⟨b, dx, fs, rfl, eb, el⟩ := hi.at w1 r1
  refine ⟨b, dx, fs, rfl, eb, el, F', ρ1, w1, hs.xs s1, fun vs ρ2 H2 s2 w2 r2 => ⟨a, ?_⟩⟩
  rw [List.append_nil]
  exact hc.goR w2 (.cons (r1.xs s2) r2) fun v w Ω' ρ' H' r s => q v w Ω' ρ' H' r ((s1.trans s2).trans s)
theorem pxr_meth0 {pl : Sem Bool} (D : MethOk X.prog X.w X.K X.mg X.base Cl m j ps C) (hr : Room j X.A) (c : Cls X.K Cl) (a : α) (sub : List Nat) (ho : PX X o Γ Ω wo Ω1) (hi : InsOf Ω1 Cl m wo) (hc : CallAt (C a) sub Ω1 [wo])
    (ht : eval (.Call (.Attribute o m apos) [] [] pos) X.env = (do
      let ov ← eval o X.env
      standAt apos.atName
      let (f, first) ← holding [ov] (getMethod ov m pl)
      callWith pos f first [] (backToKw pos (keywordEach [] X.env))) := by rfl) : PXR X (.Call (.Attribute o m apos) [] [] pos) Γ Ω (outR (C a) sub Ω1) := by
  obtain ⟨f, fd, F, hm, hb⟩ := D.ex
  refine PE.wk (pe_meth0 ho c hm F hr hb .nil pass0 ht) fun σ H Q ⟨F', ρ, hw, hs, q⟩ => ⟨F', ρ, hw, hs, fun v1 ρ1 H1 s1 w1 r1 => ?_⟩
  obtain ⟨b, dx, fs, rfl, eb, el⟩ := hi.at w1 r1
  refine ⟨b, dx, fs, rfl, eb, el, a, ?_⟩
  exact hc.goR w1 (.cons r1 .nil) fun v w Ω' ρ' H' r s => q v w Ω' ρ' H' r (s1.trans s)
theorem sx_asgR {tg : Expr} {g : TG} (hk : k ≤ Ω.length) (he : PXR X e Γ Ω R) (hpg : PG X tg g) (hP : ∀ w Ω', R w Ω' → ∃ Γ1 is, GX X.K g Γ w Γ1 is ∧ P.nx Γ1 Ω') (hs : swapsWithSole [tg] e pos.line X.env = pure false := by rfl) (hw : swappedStores [tg] e X.env = pure none := by rfl)
    (h1 : (assignEach [tg] X.env).map (·.2) = [assign tg X.env] := by rfl) : SX X k (.Assign [tg] e pos) Γ Ω P :=
  PS.wk (ps_asg he hpg hs hw h1) fun D σ H ⟨F, ρ, hw, hs, kn, kr, kb, kc⟩ => ⟨F, ρ, hw, hs, fun v w Ω' ρ1 H1 r s1 w1 r1 => by
    obtain ⟨Γ1, is, hg, hn⟩ := hP w Ω' r
    exact hg F ρ1 Ω' H1 v σ _ w1 (hs.xs s1) r1 fun σ' l' _ => kn ρ1 σ' H1 Γ1 Ω' (s1.step (by rw [hw.len]; exact hk)) w1 l' hn⟩
theorem sx_exprR (hk : k ≤ Ω.length) (he : PXR X e Γ Ω R) (hP : ∀ w Ω', R w Ω' → P.nx Γ Ω') (hs : swapsWith e none pos.line X.env = pure false := by rfl) : SX X k (.Expr e pos) Γ Ω P :=
  PS.wk (ps_expr he hs) fun D σ H ⟨F, ρ, hw, hs, kn, kr, kb, kc⟩ => ⟨F, ρ, hw, hs, fun v w Ω' ρ1 H1 r s1 w1 r1 => kn ρ1 σ H1 Γ Ω' (s1.step (by rw [hw.len]; exact hk)) w1 (hs.xs s1) (hP w Ω' r)⟩
theorem sx_retR (hk : k ≤ Ω.length) (he : PXR X e Γ Ω R) (hP : ∀ w Ω', R w Ω' → P.rt w Ω') : SX X k (.Return (some e) pos) Γ Ω P :=
  PS.wk (ps_ret he) fun D σ H ⟨F, ρ, hw, hs, kn, kr, kb, kc⟩ => ⟨F, ρ, hw, hs, fun v w Ω' ρ1 H1 r s1 w1 r1 => kr v w ρ1 H1 Ω' (s1.step (by rw [hw.len]; exact hk)) w1 r1 (hP w Ω' r)⟩
end
theorem bx_mid {X : Cx} {k : Nat} {st : Stmt} {rest : List Stmt} {Γ : Gm} {Ω : Om} {P : Post} (Mid : Gm → Om → Prop) (h1 : SX X k st Γ Ω { P with nx := Mid }) (h2 : ∀ Γ' Ω', Mid Γ' Ω' → BX X k rest Γ' Ω' P) : BX X k (st :: rest) Γ Ω P :=
  bx_cons (sx_imp h1 h2 (fun _ _ q => q) (fun _ _ q => q) fun _ _ q => q)
/-- dicts with small numbers as keys -/
def kvD {α : Type} (f : α → Dt) (l : List (Nat × α)) : List (Key × Dt) := l.map fun p => ((.inl (p.1 : Nat) : Key), f p.2)
section
variable {α : Type} {f : α → Dt} {l : List (Nat × α)} {p : Nat}
theorem inl_nat {a b : Nat} : decide ((.inl ((a : Nat) : Int) : Key) = .inl ((b : Nat) : Int)) = decide (a = b) := by
  by_cases h : a = b
  · subst h; simp
  · rw [decide_eq_false h, decide_eq_false (fun e => h (by injection e with e; omega))]
theorem lookD_kv : lookD (kvD f l) (.inl (p : Nat)) = (l.lookup p).map f := by
  induction l with
  | nil => rfl
  | cons a r ih =>
    obtain ⟨k, x⟩ := a
    show lookD (((.inl (k : Nat) : Key), f x) :: kvD f r) _ = _
    rw [lookD_cons, List.lookup_cons]
    by_cases h : k = p
    · subst h; simp
    · rw [if_neg (fun e => h (by injection e with e; omega)), ih]
      have : (p == k) = false := by simp [Ne.symm h]
      rw [this]
theorem lookup_none_iff {k : Nat} : l.lookup k = none ↔ k ∉ l.map (·.1) := by
  induction l with
  | nil => simp
  | cons a r ih =>
    obtain ⟨q, x⟩ := a
    rw [List.lookup_cons]
    by_cases h : k = q
    · subst h; simp
    · have : (k == q) = false := by simp [h]
      rw [this]
      simp only [ih, List.map_cons, List.mem_cons, not_or]
      exact ⟨fun z => ⟨h, z⟩, fun z => z.2⟩
theorem lookup_mem {k : Nat} {x : α} (h : l.lookup k = some x) : (k, x) ∈ l := by
  induction l with
  | nil => simp at h
  | cons a r ih =>
    obtain ⟨q, y⟩ := a
    rw [List.lookup_cons] at h
    by_cases e : k = q
    · subst e
      simp at h
      subst h
      exact List.mem_cons_self ..
    · have : (k == q) = false := by simp [e]
      rw [this] at h
      exact List.mem_cons_of_mem _ (ih h)
theorem isSome_kv : (lookD (kvD f l) (.inl (p : Nat))).isSome = decide (p ∈ l.map (·.1)) := by
  rw [lookD_kv]
  cases h : l.lookup p with
  | none => rw [decide_eq_false (lookup_none_iff.mp h)]; rfl
  | some x => rw [decide_eq_true (List.mem_map.mpr ⟨_, lookup_mem h, rfl⟩)]; rfl
theorem putD_kv {x : α} (h : p ∉ l.map (·.1)) : putD (kvD f l) (.inl (p : Nat)) (f x) = kvD f (l ++ [(p, x)]) := by
  unfold putD
  rw [if_neg]
  · unfold kvD
    rw [List.map_append]
    rfl
  · rw [List.any_eq_true]
    rintro ⟨kv, m, e⟩
    obtain ⟨a, ha, rfl⟩ := List.mem_map.mp m
    have e2 : ((.inl (a.1 : Nat) : Key)) = .inl (p : Nat) := of_decide_eq_true e
    injection e2 with e2
    exact h (List.mem_map.mpr ⟨a, ha, by omega⟩)
theorem kvD_keys : (kvD f l).map (·.1) = l.map fun p => (.inl (p.1 : Nat) : Key) := by
  unfold kvD
  rw [List.map_map]
  rfl
theorem dcD_nodup {β : Type} {kf : β → Nat} {g : β → α} : ∀ (xs : List β) (l : List (Nat × α)), (l.map (·.1) ++ xs.map kf).Nodup → xs.foldl (fun d x => putD d (.inl (kf x : Nat) : Key) (f (g x))) (kvD f l) = kvD f (l ++ xs.map fun x => (kf x, g x))
  | [], l, _ => by rw [List.map_nil, List.append_nil]; rfl
  | x :: xs, l, h => by
    have hn : kf x ∉ l.map (·.1) := fun m => by
      rw [List.map_cons] at h
      exact (List.nodup_append.mp h).2.2 _ m _ (List.mem_cons_self ..) rfl
    rw [List.foldl_cons, putD_kv hn, dcD_nodup xs (l ++ [(kf x, g x)]) (by
      rw [List.map_append, List.append_assoc]
      exact h)]
    rw [List.map_cons, List.append_assoc]
    rfl
theorem dcD_kv {β : Type} {kf : β → Nat} {g : β → α} {xs : List β} (h : (xs.map kf).Nodup) : dcD (fun x => (.inl (kf x : Nat) : Key)) (fun x => f (g x)) xs = kvD f (xs.map fun x => (kf x, g x)) := by
  have q := dcD_nodup (f := f) (g := g) xs [] (by simpa using h)
  exact q
end
/-! ### names as targets, tuples of names -/
section
variable {X : Cx} {pos p1 p2 p3 p4 : Pos} {x y z : Str}
theorem pn (i : Nat) (hN : X.N.Nodup) (hi : X.N[i]? = some x := by rfl) (hx : Loc X.env.scope x := by first | exact Or.inl rfl | exact Or.inr rfl) (hf : X.fn x = true ∨ X.env.scope.names.lookup x = some .local := by first | exact .inl rfl | exact .inr rfl) : PG X (.Name x pos) (gName i) := pg_name hN hi hx hf
theorem pgs_n (i : Nat) {gs : TGs} {es : List Expr} (hN : X.N.Nodup) (hr : PGs X es gs) (hi : X.N[i]? = some x := by rfl) (hx : Loc X.env.scope x := by first | exact Or.inl rfl | exact Or.inr rfl) (hf : X.fn x = true ∨ X.env.scope.names.lookup x = some .local := by first | exact .inl rfl | exact .inr rfl) (hs : (assignEach (.Name x pos :: es) X.env).map (·.2) = assign (.Name x pos) X.env :: (assignEach es X.env).map (·.2) := by rfl) : PGs X (.Name x pos :: es) (gCons (gName i) gs) := pgs_cons (pg_name hN hi hx hf) hr hs
end
section
variable {K : PySem.W.Frag} {Γ : Gm} {w1 w2 w3 : W} {d1 d2 d3 : Dt}
theorem gx2 (i j : Nat) : GX K (gTup K 2 (gCons (gName i) (gCons (gName j) gNil))) Γ (.d (.tup [d1, d2])) ((Γ.set i (some (.d d1))).set j (some (.d d2))) ([i] ++ ([j] ++ [])) := gx_tup (n := 2) (ds := [d1, d2]) (gxs_cons (gx_name i) (gxs_cons (gx_name j) gxs_nil))
theorem gx3 (i j k : Nat) : GX K (gTup K 3 (gCons (gName i) (gCons (gName j) (gCons (gName k) gNil)))) Γ (.d (.tup [d1, d2, d3])) (((Γ.set i (some (.d d1))).set j (some (.d d2))).set k (some (.d d3))) ([i] ++ ([j] ++ ([k] ++ []))) := gx_tup (n := 3) (ds := [d1, d2, d3]) (gxs_cons (gx_name i) (gxs_cons (gx_name j) (gxs_cons (gx_name k) gxs_nil)))
theorem gxl3 (i j k : Nat) : GX K (gUnl K 3 (gCons (gName i) (gCons (gName j) (gCons (gName k) gNil)))) Γ (.d (.lst [d1, d2, d3])) (((Γ.set i (some (.d d1))).set j (some (.d d2))).set k (some (.d d3))) ([i] ++ ([j] ++ ([k] ++ []))) := gx_unl (n := 3) (ds := [d1, d2, d3]) (gxs_cons (gx_name i) (gxs_cons (gx_name j) (gxs_cons (gx_name k) gxs_nil)))
end
/-! ### indexes of small numbers -/
theorem ixN_nat {n i : Nat} (h : i < n) : ixN n (i : Int) = some i := by
  unfold ixN
  rw [if_pos (Int.natCast_nonneg _), if_pos (by omega), Int.toNat_natCast]
theorem atI_nat {α : Type} {ds : List α} {i : Nat} {d : α} (h : ds[i]? = some d) : atI ds (i : Int) = some d := by
  unfold atI
  rw [ixN_nat (List.getElem?_eq_some_iff.mp h).1]
  exact h
theorem atI_map {α : Type} {f : α → Dt} {xs : List α} {i : Nat} {x : α} (h : xs[i]? = some x) : atI (xs.map f) (i : Int) = some (f x) := atI_nat (by rw [List.getElem?_map, h]; rfl)
theorem getD_get {α : Type} {xs : List α} {i : Nat} {d : α} (h : i < xs.length) : xs[i]? = some (xs.getD i d) := by
  rw [List.getD_eq_getElem?_getD, List.getElem?_eq_getElem h]
  rfl
end DL
/-! D layer, part 16: a while whose test is found at each turn. -/
namespace DL
open PySem PySem.Spec PyProof.Rows L2
section
variable {X : Cx} {k : Nat} {Γ Γ1 Γ2 : Gm} {Ω Ω1 Ω2 : Om} {P : Post} {c : Expr} {pos : Pos}
theorem sx_whileE {body : List Stmt} (I : Nat → Gm → Om → Prop) (n : Nat) (h0 : I n Γ Ω) (hk : ∀ m Γ' Ω', I m Γ' Ω' → Ω.length ≤ Ω'.length)
    (hs : ∀ m Γ' Ω', I m Γ' Ω' → ∃ (b : Bool) (Ω1 : Om), TX X c Γ' Ω' b Ω1 ∧ (b = true → BX X Ω.length body Γ' Ω1 { nx := fun Γ2 Ω2 => ∃ m', m' < m ∧ I m' Γ2 Ω2, ct := fun Γ2 Ω2 => ∃ m', m' < m ∧ I m' Γ2 Ω2, bk := P.nx, rt := P.rt }) ∧ (b = false → P.nx Γ' Ω1))
    (hp : PassesOwn (model X.prog X.w) X.A X.env X.xe) (hk0 : k ≤ Ω.length) : SX X k (.While c body [] pos) Γ Ω P := by
  have hc' : PT X c (fun σ H Q => ∃ z : Gm × Om × Bool × Om, TX X c z.1 z.2.1 z.2.2.1 z.2.2.2 ∧ tTX X.K z.1 z.2.1 z.2.2.1 z.2.2.2 σ H Q) := ⟨fun pins s σ H Q I' ⟨z, hz, q⟩ => hz.run pins s σ H Q I' q⟩
  have hb : PSs X body (tExS (fun z : Nat × Gm × Om => BX X Ω.length body z.2.1 z.2.2 { nx := fun Γ2 Ω2 => ∃ m', m' < z.1 ∧ I m' Γ2 Ω2, ct := fun Γ2 Ω2 => ∃ m', m' < z.1 ∧ I m' Γ2 Ω2, bk := P.nx, rt := P.rt }) fun z => tB X.K Ω.length z.2.1 z.2.2 { nx := fun Γ2 Ω2 => ∃ m', m' < z.1 ∧ I m' Γ2 Ω2, ct := fun Γ2 Ω2 => ∃ m', m' < z.1 ∧ I m' Γ2 Ω2, bk := P.nx, rt := P.rt }) := PSs.ex fun z hz => hz
  refine PS.wk (ps_while hp hc' hb) fun D σ H ⟨F, ρ, hw, hl, kn, kr, kb, kc⟩ => ?_
  refine ⟨fun m σ' H' => ∃ ρ' Γ' Ω', Step Ω.length ρ H ρ' H' ∧ Wd X.K F ρ' Ω' H' ∧ Sl X.K F ρ' Γ' σ' H' ∧ I m Γ' Ω', ⟨n, ρ, Γ, Ω, Step.refl hw, hw, hl, h0⟩, fun m σ' H' ⟨ρ', Γ', Ω', s', w', l', i'⟩ => ?_⟩
  obtain ⟨b, Ω1, ht, hy, hn⟩ := hs m Γ' Ω' i'
  refine ⟨(Γ', Ω', b, Ω1), ht, F, ρ', w', l', fun ρ2 H2 s2 w2 => ?_⟩
  have s3 : Step Ω.length ρ H ρ2 H2 := s'.trans (s2.step (by rw [w'.len]; exact hk m Γ' Ω' i'))
  cases b with
  | false => exact (if_neg Bool.false_ne_true).mpr (kn ρ2 σ' H2 Γ' _ (s3.le hk0) w2 (l'.xs s2) (hn rfl))
  | true =>
    refine (if_pos rfl).mpr ⟨fun σ4 H4 => ∃ m', m' < m ∧ ∃ ρ4 Γ4 Ω4, Step Ω.length ρ H ρ4 H4 ∧ Wd X.K F ρ4 Ω4 H4 ∧ Sl X.K F ρ4 Γ4 σ4 H4 ∧ I m' Γ4 Ω4, fun σ4 H4 q => q, (m, Γ', Ω1), hy rfl, F, ρ2, w2, l'.xs s2, ?_, ?_, ?_, ?_⟩
    · exact fun ρ4 σ4 H4 Γ4 Ω4 s4 w4 l4 ⟨m', hm, i4⟩ => ⟨m', hm, ρ4, Γ4, Ω4, s3.trans s4, w4, l4, i4⟩
    · exact fun v w ρ4 H4 Ω4 s4 w4 r4 q => kr v w ρ4 H4 Ω4 ((s3.trans s4).le hk0) w4 r4 q
    · exact fun ρ4 σ4 H4 Γ4 Ω4 s4 w4 l4 q => kn ρ4 σ4 H4 Γ4 Ω4 ((s3.trans s4).le hk0) w4 l4 q
    · exact fun ρ4 σ4 H4 Γ4 Ω4 s4 w4 l4 ⟨m', hm, i4⟩ => ⟨m', hm, ρ4, Γ4, Ω4, s3.trans s4, w4, l4, i4⟩
/-- a while that runs on as long as its name says; the name is None or not, true or not -/
theorem bx_imp {sts : List Stmt} {P' : Post} (h : BX X k sts Γ Ω P) (n : ∀ Γ' Ω', P.nx Γ' Ω' → P'.nx Γ' Ω') (r : ∀ w Ω', P.rt w Ω' → P'.rt w Ω') (b : ∀ Γ' Ω', P.bk Γ' Ω' → P'.bk Γ' Ω') (c : ∀ Γ' Ω', P.ct Γ' Ω' → P'.ct Γ' Ω') : BX X k sts Γ Ω P' :=
  PSs.wk h fun D σ H ⟨F, ρ, hw, hs, kn, kr, kb, kc⟩ => ⟨F, ρ, hw, hs, fun ρ' σ' H' Γ' Ω' s w l q => kn ρ' σ' H' Γ' Ω' s w l (n _ _ q), fun v w ρ' H' Ω' s wd rp q => kr v w ρ' H' Ω' s wd rp (r _ _ q), fun ρ' σ' H' Γ' Ω' s w l q => kb ρ' σ' H' Γ' Ω' s w l (b _ _ q), fun ρ' σ' H' Γ' Ω' s w l q => kc ρ' σ' H' Γ' Ω' s w l (c _ _ q)⟩
theorem tx_din {a b : Expr} {wb : W} {x : Dt} {od : Option Dt} (hu : X.A.units + 1 < cLine) (ha : PX X a Γ Ω (.d x) Ω1) (hb : PX X b Γ Ω1 wb Ω2) (hd : DkOf Ω2 wb x od) (h1 : behindInMarks .In b = false := by rfl) : TX X (.Compare a [.In] [b] pos) Γ Ω od.isSome Ω2 :=
  PT.wk (pt_cmp (pc_din hu ha hb) h1) fun σ H Q ⟨F, ρ, hw, hs, k⟩ => ⟨F, ρ, hw, hs, fun v1 ρ1 H1 s1 w1 r1 => ⟨F, ρ1, w1, hs.xs s1, fun v2 ρ2 H2 s2 w2 r2 => by
    obtain ⟨q, r', rfl, _, g, hh⟩ := hd.get w2 r2 (r1.xs s2)
    rcases hh with ⟨e1, e2⟩ | ⟨d, u, e1, e2, ru⟩
    · subst e1 e2
      exact ⟨q, none, rfl, g, false, rfl, k ρ2 H2 (s1.trans s2) w2⟩
    · subst e1 e2
      exact ⟨q, some u, rfl, g, true, rfl, k ρ2 H2 (s1.trans s2) w2⟩⟩⟩
theorem tx_dnotin {a b : Expr} {wb : W} {x : Dt} {od : Option Dt} (hu : X.A.units + 1 < cLine) (ha : PX X a Γ Ω (.d x) Ω1) (hb : PX X b Γ Ω1 wb Ω2) (hd : DkOf Ω2 wb x od) (h1 : behindInMarks .NotIn b = false := by rfl) : TX X (.Compare a [.NotIn] [b] pos) Γ Ω (!od.isSome) Ω2 :=
  PT.wk (pt_cmp (pc_dnotin hu ha hb) h1) fun σ H Q ⟨F, ρ, hw, hs, k⟩ => ⟨F, ρ, hw, hs, fun v1 ρ1 H1 s1 w1 r1 => ⟨F, ρ1, w1, hs.xs s1, fun v2 ρ2 H2 s2 w2 r2 => by
    obtain ⟨q, r', rfl, _, g, hh⟩ := hd.get w2 r2 (r1.xs s2)
    rcases hh with ⟨e1, e2⟩ | ⟨d, u, e1, e2, ru⟩
    · subst e1 e2
      exact ⟨q, none, rfl, g, true, rfl, k ρ2 H2 (s1.trans s2) w2⟩
    · subst e1 e2
      exact ⟨q, some u, rfl, g, false, rfl, k ρ2 H2 (s1.trans s2) w2⟩⟩⟩
end
theorem sw_trueD {kx vx : Expr} {gs : List Comprehension} {scope : Scope} {pos py : Pos} {y : Str} {l : Nat} {env : Env} (hk : env.scope.kind = .function) (hy : env.scope.names.lookup y = some .local) (hl : (py.line == pos.line) = true)
    (hn : (scope.names.any fun (n, k) => n == y && (k == .local || k == .cell)) = false) : swapsWith (.DictComp kx vx gs scope pos) (some (.Name y py)) l env = pure true := by
  have h1 : env.kindOf y = some .local := hy
  have h2 : env.blockKind = .function := by unfold Env.blockKind; rw [hk]; rfl
  unfold swapsWith
  simp only [h1, h2, hn, Expr.pos, hl]
  rfl
end DL
/-! D layer, part 17: ints in lists, dicts with one value. -/
namespace DL
open PySem PySem.Spec PyProof.Rows L2
theorem eqb_int {a b : Int} : Dt.eqb (.int a) (.int b) = decide (a = b) := rfl
theorem ok_int {a : Int} : (Dt.int a).ok := ⟨rfl, rfl, Nat.le_of_ble_eq_true rfl⟩
theorem ok_ints : ∀ ns : List Int, Dt.plL (ns.map Dt.int) = true ∧ PyData.plainAll (Dt.pyL (ns.map Dt.int)) = true
  | [] => ⟨rfl, rfl⟩
  | n :: ns => by
    obtain ⟨h1, h2⟩ := ok_ints ns
    exact ⟨by rw [List.map_cons, Dt.plL, h1]; rfl, by rw [List.map_cons, Dt.pyL, PyData.plainAll, h2]; rfl⟩
theorem any_int {ns : List Int} {i : Int} : ((ns.map Dt.int).any fun z => z.eqb (.int i)) = decide (i ∈ ns) := by
  rw [List.any_map]
  induction ns with
  | nil => rfl
  | cons n ns ih =>
    rw [List.any_cons, ih]
    show (decide (n = i) || _) = _
    by_cases h : n = i
    · subst h; simp
    · rw [decide_eq_false h, Bool.false_or]
      have : (i ∈ n :: ns) ↔ i ∈ ns := by rw [List.mem_cons]; exact ⟨fun q => q.resolve_left (Ne.symm h), .inr⟩
      simp only [this]
section
variable {X : Cx} {k : Nat} {Γ Γ1 Γ2 : Gm} {Ω Ω1 Ω2 : Om} {a b : Expr} {wb : W} {ns : List Int} {i : Int} {pos : Pos}
theorem tx_inI (hu : X.A.units + 64 < cLine) (ha : PX X a Γ Ω (.d (.int i)) Ω1) (hb : PX X b Γ Ω1 wb Ω2) (hy : DtOf Ω2 wb (.lst (ns.map Dt.int)) := by first | exact .d | exact .l rfl) (hm : behindInMarks .In b = false := by rfl) : TX X (.Compare a [.In] [b] pos) Γ Ω (decide (i ∈ ns)) Ω2 :=
  tx_conv (tx_cmp (op_inP hu) (rx_inP (neg := false) (.inl hy) ok_int (ok_ints ns)) ha hb hm) (by rw [Bool.false_xor, any_int])
theorem tx_notInI (hu : X.A.units + 64 < cLine) (ha : PX X a Γ Ω (.d (.int i)) Ω1) (hb : PX X b Γ Ω1 wb Ω2) (hy : DtOf Ω2 wb (.lst (ns.map Dt.int)) := by first | exact .d | exact .l rfl) (hm : behindInMarks .NotIn b = false := by rfl) : TX X (.Compare a [.NotIn] [b] pos) Γ Ω (!decide (i ∈ ns)) Ω2 :=
  tx_conv (tx_cmp (op_notInP hu) (rx_inP (neg := true) (.inl hy) ok_int (ok_ints ns)) ha hb hm) (by rw [Bool.true_xor, any_int])
end
/-! ### dicts with one value: their keys, each at its first place -/
def dd : List Nat → List Nat → List Nat
  | acc, [] => acc
  | acc, x :: l => dd (if x ∈ acc then acc else acc ++ [x]) l
theorem dd_nodup : ∀ (l acc : List Nat), acc.Nodup → (dd acc l).Nodup
  | [], acc, h => h
  | x :: l, acc, h => by
    unfold dd
    apply dd_nodup l
    split
    · exact h
    · rename_i hn
      exact List.nodup_append.mpr ⟨h, by simp, fun a ha b hb => by simp at hb; subst hb; exact fun e => hn (e ▸ ha)⟩
theorem dd_mem {y : Nat} : ∀ (l acc : List Nat), y ∈ dd acc l ↔ y ∈ acc ∨ y ∈ l
  | [], acc => by simp [dd]
  | x :: l, acc => by
    unfold dd
    rw [dd_mem l]
    split
    · rename_i hx
      rw [List.mem_cons]
      exact ⟨fun h => h.elim .inl fun h => .inr (.inr h), fun h => h.elim .inl fun h => h.elim (fun e => .inl (e ▸ hx)) .inr⟩
    · rw [List.mem_append, List.mem_singleton, List.mem_cons, or_assoc]
theorem putD_const {v : Dt} {l : List Nat} {p : Nat} : putD (kvD (fun _ : Unit => v) (l.map fun q => (q, ()))) (.inl (p : Nat)) v = kvD (fun _ => v) ((if p ∈ l then l else l ++ [p]).map fun q => (q, ())) := by
  by_cases h : p ∈ l
  · rw [if_pos h]
    unfold putD
    rw [if_pos]
    · unfold kvD
      rw [List.map_map, List.map_map, List.map_map]
      apply List.map_congr_left
      intro q _
      show (if (.inl ((q : Nat) : Int) : Key) = .inl (p : Nat) then _ else _) = _
      by_cases e : (.inl ((q : Nat) : Int) : Key) = .inl (p : Nat)
      · rw [if_pos e]; rfl
      · rw [if_neg e]; rfl
    · rw [List.any_eq_true]
      refine ⟨(.inl (p : Nat), v), ?_, decide_eq_true rfl⟩
      unfold kvD
      rw [List.map_map]
      exact List.mem_map.mpr ⟨p, h, rfl⟩
  · rw [if_neg h, putD_kv (f := fun _ : Unit => v) (x := ()) (by rw [List.map_map]; simpa using h), List.map_append]
    rfl
theorem dcD_const_go {β : Type} {kf : β → Nat} {v : Dt} : ∀ (xs : List β) (acc : List Nat), xs.foldl (fun d x => putD d (.inl (kf x : Nat) : Key) v) (kvD (fun _ : Unit => v) (acc.map fun q => (q, ()))) = kvD (fun _ => v) ((dd acc (xs.map kf)).map fun q => (q, ()))
  | [], acc => rfl
  | x :: xs, acc => by
    rw [List.foldl_cons, putD_const, dcD_const_go xs]
    rfl
theorem dcD_const {β : Type} {kf : β → Nat} {v : Dt} {xs : List β} : dcD (fun x => (.inl (kf x : Nat) : Key)) (fun _ => v) xs = kvD (fun _ : Unit => v) ((dd [] (xs.map kf)).map fun q => (q, ())) := dcD_const_go xs []
end DL
/-! The law's call at the caller's own place (no repr is under way there): own words for a head whose law calls repr. -/
namespace DL
open PySem PySem.Spec PyProof.Rows L2

/-- the body of the law's def does its work, wherever the script stands -/
def LawBody (P : Program) (w : World) (K : PySem.W.Frag) (mg : Str → Option Value) (base : Heap) (N : List Str) (qual : Str) (st : Stmt) (f : Addr) (ns : List Int) : Prop :=
  ∀ (cdv : Value) (t : Shared) (G : Hp) (a : Addr), Only G → SqL K G a (ns.map V.int) →
    ∃ r, PSs (cxOf CX0 P w K mg base N qual (defScope st) f cdv callerA [] t G fun _ _ _ => False).nox (defBody st) r ∧ r { nx := fun _ _ => False, rt := fun v _ => v = .bl true } (start N [.ref a]) G
section
variable {P : Program} {w : World} {K : PySem.W.Frag} {mg : Str → Option Value} {nm qual x : Str} {st : Stmt} {f a : Addr} {fd : FuncData} {N : List Str} {vs : List Value} {ns : List Int} {t : Shared}
/-- from an abstract heap that tracks nothing, or the script alone -/
theorem law_at {base : Heap} {G : Hp} (F : Fun K nm qual st f fd) (S : FnScope N [x] (defScope st)) (hbind : BindsTo t fd ⟨[.ref a], []⟩ [(x, .ref a)]) (hroom : Room 0 callerA) (env0 : Env0 P w K mg base callerA [] t G) (only : Only G) (hS : SqL K G a (ns.map V.int)) (hB : LawBody P w K mg base N qual st f ns) :
    codeAny (model P w) callerA (.call (.ref f) ⟨[.ref a], []⟩) (fun r t' => r = .ok (.ret (.bool true)) ∧ OldK t.heap t'.heap ∧ t'.os = t.os ∧ AllBare t'.gens) t := by
  obtain ⟨oc, od, kV, doc, pm, an, cdv, ct, osl, rfl, lk, hcd⟩ := F.ex
  have inK : K.In t.heap := env0.mod.kin.keeps fun b o e => (env0.bs b o e).1
  have noLim : t.heap.NoLimit := env0.mod.nolimit.keeps fun b o e => (env0.bs b o e).1
  have kinds : ∀ y ∈ [x].zip [Value.ref a], (defScope st).names.lookup y.1 = some .local ∨ ((defScope st).names.lookup y.1 = some .cell ∧ ((cellsFrom (t.heap.objs.size + 1) (defScope st).names []).lookup y.1).isSome = true) := by
    rintro ⟨n, v⟩ hy
    exact (S.par n (List.of_mem_zip hy).1).imp id fun q => ⟨q, PySem.W.cellsFrom_some _ _ _ (.inl q)⟩
  refine codeAny_call_function hroom.depth (inK _ _ lk) rfl S.co S.gen rfl (PySem.W.codeRec_of inK hcd) (hbind _ _ _ _ ?_)
  refine wpAny_newFunctionEnv_cells S.kind kinds fun env eenv t1 xc => ?_
  subst eenv
  refine ⟨noLim.keeps xc.toInCall.keep, codeAny_func ?_⟩
  obtain ⟨r, hr, q⟩ := hB cdv t G a only hS
  have start0 : Inv (cxOf CX0 P w K mg base N qual (defScope st) f cdv callerA [] t G fun _ _ _ => False) [] (start N [V.ref a]) G t1 := inv_start S hroom.hd env0 rfl (.cons rfl .nil) xc
  refine wpAny_mono (hr.nox.run [] t1 (start N [V.ref a]) G _ start0 q) (fun flow t2 done => ?_) fun e t2 bad => wpAny_mono bad (fun _ _ no => False.elim no) fun _ _ no => False.elim no
  cases flow with
  | next => obtain ⟨_, _, _, no⟩ := done; exact no.elim
  | brk => obtain ⟨_, _, _, no⟩ := done; exact no.elim
  | cont => obtain ⟨_, _, _, no⟩ := done; exact no.elim
  | ret u =>
    obtain ⟨v, σ2, G2, J, rv, yes⟩ := done
    have yes : v = V.bl true := yes
    subst yes
    obtain rfl : u = Value.bool true := rv
    refine ⟨rfl, OldK.of_keep fun b o old => ?_, J.os, J.bare⟩
    have un := J.base
    cases gb : G b with
    | none => exact un.keep b o old gb (fun z => absurd (show b ∈ ([] : List Addr) from z) (by simp)) (fun z => nomatch z)
    | some ob =>
      rcases only b with z | ⟨ob, xs, z⟩
      · rw [gb] at z; cases z
      · have later := un.frzs b ob _ z
        obtain ⟨e1, _⟩ := env0.hok b _ z
        obtain ⟨e2, _⟩ := J.hok b _ later
        rw [old] at e1; cases e1
        exact e2
/-- the state at the entry, if nothing but the script is tracked -/
theorem entry_here {mb : Str → Option Value} {G : Hp} (inK : K.In t.heap) (hmain : t.heap.Ns mainGlobals mg) (hbuilt : t.heap.Ns builtinsNs mb) (hboot : ∀ y : Str, y ≠ "__name__" → mb y = bootBuiltins y) (hlimit : t.heap.NoLimit) (hgens : t.gens = #[])
    (hscript : t.heap.get? a = some { cls := .type "list", data := .seq vs.toArray }) (gok : HOk P w G t.heap) (one : ∀ b, G b ≠ none → b = a) (notK : G a ≠ none → K.lookup a = none) :
    K.In (hidT t.heap G) ∧ (hidT t.heap G).Ns mainGlobals mg ∧ Env0 P w K mg (hidT t.heap G) callerA [] t G := by
  have seen : ∀ {b : Addr} {o : Obj}, t.heap.get? b = some o → G b = none → (hidT t.heap G).get? b = some o := fun h n => hidT_get h n
  have notScript : ∀ {b : Addr} {o : Obj}, t.heap.get? b = some o → o.data ≠ .seq vs.toArray → G b = none := fun {b o} h ne => by
    cases gb : G b with
    | none => rfl
    | some u =>
      obtain rfl : b = a := one b (by rw [gb]; exact fun z => nomatch z)
      rw [hscript] at h
      cases h
      exact (ne rfl).elim
  have names : ∀ {b : Addr} {m : Str → Option Value}, t.heap.Ns b m → (hidT t.heap G).Ns b m := fun {b m} ⟨o, es, ep, h, hd, rest⟩ => ⟨o, es, ep, seen h (notScript h fun z => by rw [hd] at z; cases z), hd, rest⟩
  have inKG : K.In (hidT t.heap G) := fun b o h => seen (inK b o h) (by
    cases gb : G b with
    | none => rfl
    | some u =>
      have some_b : G b ≠ none := by rw [gb]; exact fun z => nomatch z
      obtain rfl : b = a := one b some_b
      rw [notK some_b] at h
      cases h)
  obtain ⟨mc, l1, l2⟩ := hlimit
  exact ⟨inKG, names hmain, rfl, ⟨inKG, names hmain, ⟨mb, names hbuilt, hboot⟩, mc, names l1, l2⟩, fun b o h => of_hidT h, Nat.le_of_eq (hidT_size _ _), trivial, fun b z => absurd (show b ∈ ([] : List Addr) from z) (by simp), gok, .of_eq hgens⟩
theorem law_here {mb : Str → Option Value} (inK : K.In t.heap) (hmain : t.heap.Ns mainGlobals mg) (hbuilt : t.heap.Ns builtinsNs mb) (hboot : ∀ y : Str, y ≠ "__name__" → mb y = bootBuiltins y) (hlimit : t.heap.NoLimit) (hgens : t.gens = #[])
    (hscript : t.heap.get? a = some { cls := .type "list", data := .seq vs.toArray }) (hints : IntsAre vs ns) (hsize : ns.length ≤ sizeLine) (hroom : Room 0 callerA) (F : Fun K nm qual st f fd) (S : FnScope N [x] (defScope st)) (hbind : BindsTo t fd ⟨[.ref a], []⟩ [(x, .ref a)])
    (hB : ∀ base : Heap, K.In base → base.Ns mainGlobals mg → LawBody P w K mg base N qual st f ns) :
    codeAny (model P w) callerA (.call (.ref f) ⟨[.ref a], []⟩) (fun r t' => r = .ok (.ret (.bool true)) ∧ OldK t.heap t'.heap ∧ t'.os = t.os ∧ AllBare t'.gens) t := by
  have valsV := vals_ints hints
  cases kl : K.lookup a with
  | some o =>
    have same := inK a o kl
    rw [hscript] at same
    cases same
    obtain ⟨b1, b2, env0⟩ := entry_here (P := P) (w := w) (G := fun _ => none) inK hmain hbuilt hboot hlimit hgens hscript (fun b u z => by cases (show (none : Option HO) = some u from z)) (fun b z => absurd rfl z) fun z => absurd rfl z
    exact law_at F S hbind hroom env0 (fun _ => .inl rfl) (.inr ⟨_, vs.toArray, _, kl, rfl, rfl, rfl, by rw [List.size_toArray, hints.length]; exact hsize, by simpa using valsV⟩) (hB _ b1 b2)
  | none =>
    let G : Hp := fun b => if b = a then some (.frz { cls := .type "list", data := .seq vs.toArray } (.lst (ns.map V.int))) else none
    have atA : G a = some (.frz { cls := .type "list", data := .seq vs.toArray } (.lst (ns.map V.int))) := if_pos rfl
    have off : ∀ b, b ≠ a → G b = none := fun b hb => if_neg hb
    have gok : HOk P w G t.heap := fun b u z => by
      by_cases hb : b = a
      · subst hb
        rw [atA] at z
        cases z
        exact ⟨hscript, by rw [List.length_map]; exact hsize, vs, _, valsV, hscript⟩
      · rw [off b hb] at z; cases z
    obtain ⟨b1, b2, env0⟩ := entry_here (P := P) (w := w) inK hmain hbuilt hboot hlimit hgens hscript gok (fun b z => Classical.byContradiction fun hb => z (off b hb)) fun _ => kl
    refine law_at F S hbind hroom env0 (fun b => ?_) (.inl (.inr ⟨_, atA⟩)) (hB _ b1 b2)
    by_cases hb : b = a
    · subst hb; exact .inr ⟨_, _, atA⟩
    · exact .inl (off b hb)
end
/-- the goal that k_head leaves, from the law's body -/
theorem walk_here {l : PySem.W.OpenLaw} {n : Nat} {q : Program} {loose : List Str} {XP : (Str → Option Value) → Heap → Prop} {YP : World → Heap → Prop} {d : DefRec} {K : Params → PySem.W.Frag} {x : Str}
    (most : l.most = some n) (small : n ≤ sizeLine) (plain : d.params.defaults = []) (hroom : Room 0 callerA) (part : ∀ (w : World) (h : Heap), YP w h → (K w.params).In h)
    (law : ∀ (w : World) (mg : Str → Option Value) (fa : Addr) (h : Heap), (K w.params).In h → h.Ns mainGlobals mg → mg d.name = some (.ref fa) →
      ∃ (fd : FuncData) (nm qual : Str) (st : Stmt) (N : List Str), (∀ (s : Shared) (u : Value), BindsTo s fd ⟨[u], []⟩ [(x, u)]) ∧ Fun (K w.params) nm qual st fa fd ∧ FnScope N [x] (defScope st) ∧
        ∀ (ns : List Int), ns.length ≤ n → ∀ base : Heap, (K w.params).In base → base.Ns mainGlobals mg → LawBody l.prog w (K w.params) mg base N qual st fa ns) : PySem.W.WalkO q loose XP YP l.row.toRowW d [] (fun f vs => PySem.call f vs) := by
  refine Att.attach_call most plain fun w s0 t mg mb fa o pm cd doc a vs ns G Y ho hd hcd hmg hobj hints hlen hg => ?_
  have inK := part w _ Y
  obtain ⟨fd, nm, qual, st, N, hb, F, S, hB⟩ := law w mg fa _ inK G.T.g hmg
  exact law_here inK G.T.g G.T.b G.T.builtins G.T.nolimit hg hobj hints (Nat.le_trans hlen small) hroom F S (hb t (.ref a)) (hB ns hlen)
end DL
namespace K50
open PySem PySem.Spec PyProof.Rows L2 DL
def topS (i : Nat) : Stmt := PySem.Challenge.pw_samphire_k50_greatest_flows_and_least_cu.main.body.getD i (.Pass ⟨0, 0, 0, 0⟩)
abbrev sNet : Stmt := topS 1
abbrev sRS : Stmt := inClass sNet 1
abbrev sRD : Stmt := inClass sNet 2
abbrev nRS : List Str := ["self", "place", "used", "arc", "amount"]
theorem scRS : FnScope nRS ["self", "place"] (defScope sRS) := ⟨rfl, rfl, rfl, by decide +kernel, rfl, by decide +kernel, by decide +kernel⟩
theorem scRD : FnScope nRS ["self", "place"] (defScope sRD) := ⟨rfl, rfl, rfl, by decide +kernel, rfl, by decide +kernel, by decide +kernel⟩
theorem hnRS : nRS.Nodup := by decide +kernel

/-- names that stand for built-ins -/
structure Free (mg : Str → Option Value) : Prop where
  fr : ∀ x ∈ (["len", "zip", "sum", "range", "enumerate", "list", "min", "abs", "int", "any", "all", "sorted", "reversed", "isinstance", "tuple", "bool", "str", "repr"] : List Str), mg x = none
def arcD (p : Nat × Nat) : Dt := .tup [.int (p.1 : Nat), .int (p.2 : Nat)]
def netC (Cl : Addr) (s d : List Int) (arcs : List (Nat × Nat)) (fl : List Int) : Om :=
  [.ins Cl [("supplies", .l 1), ("demands", .l 2), ("arcs", .l 3), ("flow", .l 4)], .ls (s.map .int), .ls (d.map .int), .ls (arcs.map arcD), .ls (fl.map .int)]
def usedS (arcs : List (Nat × Nat)) (fl : List Int) (p : Nat) : List Int := ((arcs.zip fl).filter fun q => decide (q.1.1 = p)).map (·.2)
def usedD (arcs : List (Nat × Nat)) (fl : List Int) (p : Nat) : List Int := ((arcs.zip fl).filter fun q => decide (q.1.2 = p)).map (·.2)
def restS (s : List Int) (arcs : List (Nat × Nat)) (fl : List Int) (p : Nat) : Int := s.getD p 0 - (usedS arcs fl p).sum
def restD (d : List Int) (arcs : List (Nat × Nat)) (fl : List Int) (p : Nat) : Int := d.getD p 0 - (usedD arcs fl p).sum
structure RA where
  s : List Int
  d : List Int
  arcs : List (Nat × Nat)
  fl : List Int
  p : Nat
def cRS (Cl : Addr) (a : { a : RA // a.p < a.s.length ∧ a.arcs.length < 100000 }) : Ctr := ⟨[.l 0, .d (.int a.1.p)], netC Cl a.1.s a.1.d a.1.arcs a.1.fl, fun w Ω => w = .d (.int (restS a.1.s a.1.arcs a.1.fl a.1.p)) ∧ Ω = netC Cl a.1.s a.1.d a.1.arcs a.1.fl⟩
def cRD (Cl : Addr) (a : { a : RA // a.p < a.d.length ∧ a.arcs.length < 100000 }) : Ctr := ⟨[.l 0, .d (.int a.1.p)], netC Cl a.1.s a.1.d a.1.arcs a.1.fl, fun w Ω => w = .d (.int (restD a.1.d a.1.arcs a.1.fl a.1.p)) ∧ Ω = netC Cl a.1.s a.1.d a.1.arcs a.1.fl⟩
/-- the class is plain -/
structure NetCl (K : PySem.W.Frag) (Cl : Addr) : Prop where
  c : Cls K Cl
  n : ∀ f ∈ (["supplies", "demands", "arcs", "flow"] : List Str), NoAttr K Cl f
theorem natI {a b : Nat} : decide (((a : Nat) : Int) = ((b : Nat) : Int)) = decide (a = b) := by
  by_cases h : a = b
  · subst h; simp
  · rw [decide_eq_false h, decide_eq_false (by omega)]
theorem lt1 {n : Nat} (h : n < 100000) : n < sizeLine := by have := line63; rw [sizeLine_eq]; omega
section
variable {P : Program} {w : World} {K : PySem.W.Frag} {mg : Str → Option Value} {base : Heap} {qual : Str} {Cl f : Addr} {cdv : Value} {A : Around} {outer : List Env} {s : Shared} {H : Hp} {E : XK}
theorem bodyRS (hm : Free mg) (hc : NetCl K Cl) (a : { a : RA // a.p < a.s.length ∧ a.arcs.length < 100000 }) :
    BX (cxOf CX0 P w K mg base nRS qual (defScope sRS) f cdv A outer s H E).nox (cRS Cl a).cs.length (defBody sRS) (startG nRS (cRS Cl a).ws) (cRS Cl a).cs { nx := fun _ Ω' => (cRS Cl a).R (.d .non) Ω', rt := (cRS Cl a).R } := by
  obtain ⟨⟨s', d', arcs, fl, p⟩, hp, ha⟩ := a
  dsimp only at hp ha
  refine bx_cons (sx_lc 2 (arcs.zip fl) (fun q => .d (.tup [arcD q.1, .int q.2])) (fun q => [some (.l 0), some (.d (.int p)), none, some (.d (arcD q.1)), some (.d (.int q.2))]) (fun q => decide (q.1.1 = p)) (fun q => .int q.2) lc_endD (Nat.le_refl _) rfl hnRS (ix_zip (ax_cons (px_fld (px_var 0) hc.c (hc.n _ (by decide))) (ax_cons (px_fld (px_var 0) hc.c (hc.n _ (by decide))) ax_nil)) (hm.fr _ (by decide)) (.l rfl) (.l rfl)) (blkOk_by (N := nRS) (sc := defScope sRS) (own := [("arc", 3), ("amount", 4)]) (by decide +kernel)) ?_ ?_ ?_
    (fun _ _ _ _ _ => pg_tup (n := 2) rfl (pgs_n 3 hnRS (pgs_n 4 hnRS pgs_nil)))
    (fun q _ => gx2 3 4)
    (by decide)
    (fun q _ _ _ _ _ _ => tsx_one (tx_conv (tx_eq (px_ixT (px_var 3) px_int) (px_var 1)) (by exact natI)))
    (fun q _ _ _ _ _ _ _ => px_var 4)
    (bx_cons (sx_ret (Nat.le_refl _) (px_sub (px_ixL (px_fld (px_var 0) hc.c (hc.n _ (by decide))) (px_var 1) (atI_map (getD_get hp))) (px_sum rfl (ax_cons (px_var 2) ax_nil) (hm.fr _ (by decide)) (ns := usedS arcs fl p) (by rw [usedS, List.map_map]; try rfl))) ⟨rfl, rfl⟩))
    (sw_true rfl rfl rfl (by decide +kernel)))
  · rw [List.zip_map, List.map_map]; rfl
  · intro c hc
    simp only [List.cons_append, List.nil_append, List.mem_cons, List.not_mem_nil, or_false] at hc
    rcases hc with rfl | rfl <;> rfl
  · rw [List.length_zip]; exact lt1 (by omega)
theorem bodyRD (hm : Free mg) (hc : NetCl K Cl) (a : { a : RA // a.p < a.d.length ∧ a.arcs.length < 100000 }) :
    BX (cxOf CX0 P w K mg base nRS qual (defScope sRD) f cdv A outer s H E).nox (cRD Cl a).cs.length (defBody sRD) (startG nRS (cRD Cl a).ws) (cRD Cl a).cs { nx := fun _ Ω' => (cRD Cl a).R (.d .non) Ω', rt := (cRD Cl a).R } := by
  obtain ⟨⟨s', d', arcs, fl, p⟩, hp, ha⟩ := a
  dsimp only at hp ha
  refine bx_cons (sx_lc 2 (arcs.zip fl) (fun q => .d (.tup [arcD q.1, .int q.2])) (fun q => [some (.l 0), some (.d (.int p)), none, some (.d (arcD q.1)), some (.d (.int q.2))]) (fun q => decide (q.1.2 = p)) (fun q => .int q.2) lc_endD (Nat.le_refl _) rfl hnRS (ix_zip (ax_cons (px_fld (px_var 0) hc.c (hc.n _ (by decide))) (ax_cons (px_fld (px_var 0) hc.c (hc.n _ (by decide))) ax_nil)) (hm.fr _ (by decide)) (.l rfl) (.l rfl)) (blkOk_by (N := nRS) (sc := defScope sRD) (own := [("arc", 3), ("amount", 4)]) (by decide +kernel)) ?_ ?_ ?_
    (fun _ _ _ _ _ => pg_tup (n := 2) rfl (pgs_n 3 hnRS (pgs_n 4 hnRS pgs_nil)))
    (fun q _ => gx2 3 4)
    (by decide)
    (fun q _ _ _ _ _ _ => tsx_one (tx_conv (tx_eq (px_ixT (px_var 3) px_int) (px_var 1)) (by exact natI)))
    (fun q _ _ _ _ _ _ _ => px_var 4)
    (bx_cons (sx_ret (Nat.le_refl _) (px_sub (px_ixL (px_fld (px_var 0) hc.c (hc.n _ (by decide))) (px_var 1) (atI_map (getD_get hp))) (px_sum rfl (ax_cons (px_var 2) ax_nil) (hm.fr _ (by decide)) (ns := usedD arcs fl p) (by rw [usedD, List.map_map]; try rfl))) ⟨rfl, rfl⟩))
    (sw_true rfl rfl rfl (by decide +kernel)))
  · rw [List.zip_map, List.map_map]; rfl
  · intro c hc
    simp only [List.cons_append, List.nil_append, List.mem_cons, List.not_mem_nil, or_false] at hc
    rcases hc with rfl | rfl <;> rfl
  · rw [List.length_zip]; exact lt1 (by omega)
end
end K50
namespace K50
open PySem PySem.Spec PyProof.Rows L2 DL
abbrev sRe : Stmt := inClass sNet 3
abbrev nRe : List Str := ["self", "first", "second", "waiting", "at", "side", "place", "number", "arc"]
theorem scRe : FnScope nRe ["self"] (defScope sRe) := ⟨rfl, rfl, rfl, by decide +kernel, rfl, by decide +kernel, by decide +kernel⟩
theorem hnRe : nRe.Nodup := by decide +kernel

theorem len_le : ∀ (n : Nat) (l : List Nat), l.Nodup → (∀ x ∈ l, x < n) → l.length ≤ n
  | 0, l, _, h => by
    cases l with
    | nil => exact Nat.le_refl _
    | cons a r => exact absurd (h a (List.mem_cons_self ..)) (Nat.not_lt_zero _)
  | n + 1, l, hn, h => by
    have q := len_le n (l.erase n) (hn.erase n) fun x hx => by
      have h1 := h x (List.mem_of_mem_erase hx)
      have h2 : x ≠ n := fun e => by
        subst e
        exact (List.Nodup.not_mem_erase hn) hx
      omega
    rw [List.length_erase] at q
    split at q <;> omega
/-! ### what a search has found -/
def optD : Option Nat → Dt
  | none => .non
  | some k => .int (k : Nat)
def natD (k : Nat) : Dt := .int (k : Nat)
/-- x stands ahead of y -/
def Bef (wt : List (Nat × Nat)) (x y : Nat × Nat) : Prop := ∃ j i : Nat, j < i ∧ wt[j]? = some x ∧ wt[i]? = some y
structure BI (s : List Int) (m : Nat) (arcs : List (Nat × Nat)) (fl : List Int) (fs : List (Nat × Option Nat)) (sd wt : List (Nat × Nat)) : Prop where
  kf : (fs.map (·.1)).Nodup
  ks : (sd.map (·.1)).Nodup
  len : wt.length = fs.length + sd.length
  inf : ∀ p ∈ fs.map (·.1), p < s.length
  ins : ∀ q ∈ sd.map (·.1), q < m
  wf : ∀ p, (0, p) ∈ wt ↔ p ∈ fs.map (·.1)
  ws : ∀ q, (1, q) ∈ wt ↔ q ∈ sd.map (·.1)
  wnd : wt.Nodup
  side : ∀ x ∈ wt, x.1 = 0 ∨ x.1 = 1
  pf0 : ∀ p, (p, none) ∈ fs → 0 < restS s arcs fl p
  pf1 : ∀ p k, (p, some k) ∈ fs → ∃ arc : Nat × Nat, arcs[k]? = some arc ∧ arc.1 = p ∧ 0 < fl.getD k 0 ∧ Bef wt (1, arc.2) (0, p)
  ps : ∀ q k, (q, k) ∈ sd → ∃ arc : Nat × Nat, arcs[k]? = some arc ∧ arc.2 = q ∧ Bef wt (0, arc.1) (1, q)
  src : ∀ p, p < s.length → 0 < restS s arcs fl p → p ∈ fs.map (·.1)
/-- x is gone through -/
def Done (arcs : List (Nat × Nat)) (fl : List Int) (fs : List (Nat × Option Nat)) (sd : List (Nat × Nat)) (n : Nat) (x : Nat × Nat) : Prop :=
  ∀ (k : Nat) (arc : Nat × Nat), k < n → arcs[k]? = some arc → (x.1 = 0 → arc.1 = x.2 → arc.2 ∈ sd.map (·.1)) ∧ (x.1 = 1 → arc.2 = x.2 → 0 < fl.getD k 0 → arc.1 ∈ fs.map (·.1))
def Closed (arcs : List (Nat × Nat)) (fl : List Int) (fs : List (Nat × Option Nat)) (sd wt : List (Nat × Nat)) : Prop := ∀ x ∈ wt, Done arcs fl fs sd arcs.length x
theorem Bef.app {wt ν : List (Nat × Nat)} {x y : Nat × Nat} (h : Bef wt x y) : Bef (wt ++ ν) x y := by
  obtain ⟨j, i, h1, h2, h3⟩ := h
  exact ⟨j, i, h1, by rw [List.getElem?_append_left (List.getElem?_eq_some_iff.mp h2).1]; exact h2, by rw [List.getElem?_append_left (List.getElem?_eq_some_iff.mp h3).1]; exact h3⟩
theorem Bef.last {wt : List (Nat × Nat)} {x y : Nat × Nat} (h : x ∈ wt) : Bef (wt ++ [y]) x y := by
  obtain ⟨j, e⟩ := List.getElem?_of_mem h
  have hj := (List.getElem?_eq_some_iff.mp e).1
  exact ⟨j, wt.length, hj, by rw [List.getElem?_append_left hj]; exact e, by rw [List.getElem?_append_right (Nat.le_refl _), Nat.sub_self]; rfl⟩
section
variable {s : List Int} {m : Nat} {arcs : List (Nat × Nat)} {fl : List Int} {fs : List (Nat × Option Nat)} {sd wt : List (Nat × Nat)}
theorem BI.start : BI s m arcs fl (((List.range s.length).filter fun i => decide (0 < restS s arcs fl i)).map fun i => (i, none)) [] (((List.range s.length).filter fun i => decide (0 < restS s arcs fl i)).map fun i => (0, i)) where
  kf := by
    rw [List.map_map, show ((fun x : Nat × Option Nat => x.1) ∘ fun i => (i, none)) = id from rfl, List.map_id]
    exact List.nodup_range.filter _
  ks := List.nodup_nil
  len := by simp
  inf := fun p h => by
    simp only [List.map_map, List.mem_map, List.mem_filter, List.mem_range] at h
    obtain ⟨a, ⟨h1, _⟩, rfl⟩ := h
    exact h1
  ins := fun q h => nomatch h
  wf := fun p => by simp
  ws := fun q => by simp
  wnd := List.Pairwise.map _ (fun a b h e => h (by injection e)) (List.nodup_range.filter _)
  side := fun x h => by
    obtain ⟨a, _, rfl⟩ := List.mem_map.mp h
    exact .inl rfl
  pf0 := fun p h => by
    obtain ⟨a, h0, e⟩ := List.mem_map.mp h
    injection e with e1 e2
    subst e1
    exact of_decide_eq_true (List.mem_filter.mp h0).2
  pf1 := fun p k h => by
    obtain ⟨a, h, e⟩ := List.mem_map.mp h
    injection e with e1 e2
    cases e2
  ps := fun q k h => nomatch h
  src := fun p h1 h2 => by simp [h1, h2]
theorem BI.addS {q k : Nat} {arc : Nat × Nat} (h : BI s m arcs fl fs sd wt) (ea : arcs[k]? = some arc) (e2 : arc.2 = q) (hq : q < m) (hp : arc.1 ∈ fs.map (·.1)) (hn : q ∉ sd.map (·.1)) : BI s m arcs fl fs (sd ++ [(q, k)]) (wt ++ [(1, q)]) where
  kf := h.kf
  ks := by
    rw [List.map_append]
    exact List.nodup_append.mpr ⟨h.ks, by simp, fun a ha b hb => by simp at hb; subst hb; exact fun e => hn (e ▸ ha)⟩
  len := by simp only [List.length_append, List.length_cons, List.length_nil]; have := h.len; omega
  inf := h.inf
  ins := fun x hx => by
    rw [List.map_append] at hx
    rcases List.mem_append.mp hx with hx | hx
    · exact h.ins x hx
    · simp at hx; omega
  wf := fun p => by
    rw [List.mem_append, h.wf p]
    simp
  ws := fun x => by
    rw [List.mem_append, h.ws x, List.map_append, List.mem_append]
    simp
  wnd := List.nodup_append.mpr ⟨h.wnd, by simp, fun a ha b hb => by simp at hb; subst hb; exact fun e => hn ((h.ws q).mp (e ▸ ha))⟩
  side := fun x hx => by
    rcases List.mem_append.mp hx with hx | hx
    · exact h.side x hx
    · simp at hx; subst hx; exact .inr rfl
  pf0 := h.pf0
  pf1 := fun p k' hx => by
    obtain ⟨a, b, c, d, e⟩ := h.pf1 p k' hx
    exact ⟨a, b, c, d, e.app⟩
  ps := fun x k' hx => by
    rcases List.mem_append.mp hx with hx | hx
    · obtain ⟨a, b, c, e⟩ := h.ps x k' hx
      exact ⟨a, b, c, e.app⟩
    · simp at hx
      obtain ⟨rfl, rfl⟩ := hx
      exact ⟨arc, ea, e2, Bef.last ((h.wf _).mpr hp)⟩
  src := h.src
theorem BI.addF {p k : Nat} {arc : Nat × Nat} (h : BI s m arcs fl fs sd wt) (ea : arcs[k]? = some arc) (e1 : arc.1 = p) (hp : p < s.length) (hf : 0 < fl.getD k 0) (hq : arc.2 ∈ sd.map (·.1)) (hn : p ∉ fs.map (·.1)) : BI s m arcs fl (fs ++ [(p, some k)]) sd (wt ++ [(0, p)]) where
  kf := by
    rw [List.map_append]
    exact List.nodup_append.mpr ⟨h.kf, by simp, fun a ha b hb => by simp at hb; subst hb; exact fun e => hn (e ▸ ha)⟩
  ks := h.ks
  len := by simp only [List.length_append, List.length_cons, List.length_nil]; have := h.len; omega
  ins := h.ins
  inf := fun x hx => by
    rw [List.map_append] at hx
    rcases List.mem_append.mp hx with hx | hx
    · exact h.inf x hx
    · simp at hx; omega
  ws := fun p => by
    rw [List.mem_append, h.ws p]
    simp
  wf := fun x => by
    rw [List.mem_append, h.wf x, List.map_append, List.mem_append]
    simp
  wnd := List.nodup_append.mpr ⟨h.wnd, by simp, fun a ha b hb => by simp at hb; subst hb; exact fun e => hn ((h.wf p).mp (e ▸ ha))⟩
  side := fun x hx => by
    rcases List.mem_append.mp hx with hx | hx
    · exact h.side x hx
    · simp at hx; subst hx; exact .inl rfl
  pf0 := fun x hx => by
    rcases List.mem_append.mp hx with hx | hx
    · exact h.pf0 x hx
    · simp at hx
  pf1 := fun x k' hx => by
    rcases List.mem_append.mp hx with hx | hx
    · obtain ⟨a, b, c, d, e⟩ := h.pf1 x k' hx
      exact ⟨a, b, c, d, e.app⟩
    · simp at hx
      obtain ⟨rfl, rfl⟩ := hx
      exact ⟨arc, ea, e1, hf, Bef.last ((h.ws _).mpr hq)⟩
  ps := fun x k' hx => by
    obtain ⟨a, b, c, e⟩ := h.ps x k' hx
    exact ⟨a, b, c, e.app⟩
  src := fun x h1 h2 => by
    rw [List.map_append, List.mem_append]
    exact .inl (h.src x h1 h2)
theorem Done.grow {n : Nat} {x : Nat × Nat} {f2 : List (Nat × Option Nat)} {s2 : List (Nat × Nat)} (h : Done arcs fl fs sd n x) : Done arcs fl (fs ++ f2) (sd ++ s2) n x := fun k arc hk ea => by
  obtain ⟨a, b⟩ := h k arc hk ea
  rw [List.map_append, List.map_append, List.mem_append, List.mem_append]
  exact ⟨fun u v => .inl (a u v), fun u v z => .inl (b u v z)⟩
theorem Done.zero {x : Nat × Nat} : Done arcs fl fs sd 0 x := fun k _ hk => absurd hk (Nat.not_lt_zero _)
theorem Done.succ {n : Nat} {x arc : Nat × Nat} (h : Done arcs fl fs sd n x) (ea : arcs[n]? = some arc) (h1 : x.1 = 0 → arc.1 = x.2 → arc.2 ∈ sd.map (·.1)) (h2 : x.1 = 1 → arc.2 = x.2 → 0 < fl.getD n 0 → arc.1 ∈ fs.map (·.1)) : Done arcs fl fs sd (n + 1) x := fun k arc' hk ea' => by
  by_cases e : k = n
  · subst e
    rw [ea] at ea'
    cases ea'
    exact ⟨h1, h2⟩
  · exact h k arc' (by omega) ea'
theorem BI.bound (h : BI s m arcs fl fs sd wt) : wt.length ≤ s.length + m := by
  have a := len_le _ _ h.kf h.inf
  have b := len_le _ _ h.ks h.ins
  rw [List.length_map] at a b
  have := h.len
  omega
end
end K50
namespace K50
open PySem PySem.Spec PyProof.Rows L2 DL
structure NA where
  s : List Int
  d : List Int
  arcs : List (Nat × Nat)
  fl : List Int
structure NaOk (a : NA) : Prop where
  hs : a.s.length ≤ 1000
  hd : a.d.length ≤ 1000
  ha : a.arcs.length < 100000
  hf : a.fl.length = a.arcs.length
  hin : ∀ p ∈ a.arcs, p.1 < a.s.length ∧ p.2 < a.d.length
def cRe (Cl : Addr) (a : { a : NA // NaOk a }) : Ctr := ⟨[.l 0], netC Cl a.1.s a.1.d a.1.arcs a.1.fl, fun w Ω => ∃ fs sd wt, BI a.1.s a.1.d.length a.1.arcs a.1.fl fs sd wt ∧ Closed a.1.arcs a.1.fl fs sd wt ∧ w = .d (.tup [.dic (kvD optD fs), .dic (kvD natD sd)]) ∧ Ω = netC Cl a.1.s a.1.d a.1.arcs a.1.fl⟩
section
variable {Cl : Addr} {s d : List Int} {arcs : List (Nat × Nat)} {fl fl2 : List Int} {more : Om} {ws : List W} {L : Nat}
theorem ren5 {m : Nat} (h : m < 5) : ren [0, 1, 2, 3, 4] L m = m := by
  match m, h with
  | 0, _ => rfl
  | 1, _ => rfl
  | 2, _ => rfl
  | 3, _ => rfl
  | 4, _ => rfl
theorem netMap : (netC Cl s d arcs fl).map (rnO (ren [0, 1, 2, 3, 4] L)) = netC Cl s d arcs fl := rfl
theorem netPut : putC (netC Cl s d arcs fl ++ more) [0, 1, 2, 3, 4] ((netC Cl s d arcs fl2).map (rnO (ren [0, 1, 2, 3, 4] L))) = netC Cl s d arcs fl2 ++ more := by
  show (netC Cl s d arcs fl2 ++ more) ++ [] = _
  exact List.append_nil _
theorem netAt (c : Ctr) (hc : c.cs = netC Cl s d arcs fl) (hw : c.ws.all (W.wf 5) = true) (hws : ws = c.ws) : CallAt c [0, 1, 2, 3, 4] (netC Cl s d arcs fl ++ more) ws := by
  have e : ∀ w : W, W.wf 5 w = true → rnW (ren [0, 1, 2, 3, 4] (netC Cl s d arcs fl ++ more).length) w = w := fun w h => by
    cases w with
    | d x => rfl
    | l n => exact congrArg W.l (ren5 (of_decide_eq_true h))
  refine ⟨?_, by decide, by rw [hc]; rfl, by rw [hc]; exact hw, by rw [hc]; rfl, fun j n h => ?_⟩
  · rw [hws]
    have : ∀ l : List W, l.all (W.wf 5) = true → l = l.map (rnW (ren [0, 1, 2, 3, 4] (netC Cl s d arcs fl ++ more).length)) := by
      intro l
      induction l with
      | nil => intro _; rfl
      | cons a r ih =>
        intro h
        rw [List.all_cons, Bool.and_eq_true] at h
        rw [List.map_cons, e a h.1, ← ih h.2]
    exact this _ hw
  · rw [hc]
    match j, h with
    | 0, h => cases h; rfl
    | 1, h => cases h; rfl
    | 2, h => cases h; rfl
    | 3, h => cases h; rfl
    | 4, h => cases h; rfl
    | j + 5, h => simp at h
end
section
variable {P : Program} {w : World} {K : PySem.W.Frag} {mg : Str → Option Value} {base : Heap} {qual : Str} {Cl f : Addr} {cdv : Value} {A : Around} {outer : List Env} {s : Shared} {H : Hp} {E : XK}
def reΩ (Cl : Addr) (a : NA) (fs : List (Nat × Option Nat)) (sd wt : List (Nat × Nat)) : Om := netC Cl a.s a.d a.arcs a.fl ++ [.dk (kvD optD fs), .dk (kvD natD sd), .ls (wt.map arcD)]
/-- between two turns of the while -/
def reI (Cl : Addr) (a : NA) (m : Nat) (Γ : Gm) (Ω : Om) : Prop := ∃ (fs : List (Nat × Option Nat)) (sd wt : List (Nat × Nat)) (at_ : Nat) (g1 g2 g3 g4 : Option W), BI a.s a.d.length a.arcs a.fl fs sd wt ∧ at_ ≤ wt.length ∧ m = a.s.length + a.d.length - at_ ∧
  (∀ i x, i < at_ → wt[i]? = some x → Done a.arcs a.fl fs sd a.arcs.length x) ∧ Γ = [some (.l 0), some (.l 5), some (.l 6), some (.l 7), some (.d (.int (at_ : Nat))), g1, g2, g3, g4] ∧ Ω = reΩ Cl a fs sd wt
theorem reStart {a : NA} : dcD (fun i : Nat => (.inl (i : Nat) : Key)) (fun _ => optD none) ((List.range a.s.length).filter fun i => decide (0 < restS a.s a.arcs a.fl i)) = kvD optD (((List.range a.s.length).filter fun i => decide (0 < restS a.s a.arcs a.fl i)).map fun i => (i, none)) :=
  dcD_kv (kf := fun i => i) (g := fun _ => none) (by rw [List.map_id']; exact List.nodup_range.filter _)
theorem reWait {l : List Nat} : ((((kvD optD (l.map fun i => (i, none))).map (·.1)).filter fun _ => true).map fun k => Dt.tup [.int 0, kD k]) = (l.map fun i => (0, i)).map arcD := by
  rw [kvD_keys, List.filter_eq_self.mpr (fun _ _ => rfl), List.map_map, List.map_map, List.map_map]
  rfl
/-- between two turns of the inner for: x is at hand -/
def rfI (Cl : Addr) (a : NA) (at_ : Nat) (x : Nat × Nat) (i : Nat) (Γ : Gm) (Ω : Om) : Prop := ∃ (fs : List (Nat × Option Nat)) (sd wt : List (Nat × Nat)) (g3 g4 : Option W), BI a.s a.d.length a.arcs a.fl fs sd wt ∧ wt[at_]? = some x ∧
  (∀ i x, i < at_ → wt[i]? = some x → Done a.arcs a.fl fs sd a.arcs.length x) ∧ Done a.arcs a.fl fs sd i x ∧ Γ = [some (.l 0), some (.l 5), some (.l 6), some (.l 7), some (.d (.int ((at_ : Nat) + 1))), some (.d (.int (x.1 : Nat))), some (.d (.int (x.2 : Nat))), g3, g4] ∧ Ω = reΩ Cl a fs sd wt
theorem reF1 {a : NA} {fs : List (Nat × Option Nat)} {sd wt : List (Nat × Nat)} : FgO 5 (reΩ Cl a fs sd wt) (netC Cl a.s a.d a.arcs a.fl ++ [.gone, .dk (kvD natD sd)]) := by
  unfold reΩ netC
  simp only [List.cons_append, List.nil_append]
  exact .keep (.keep (.keep (.keep (.keep (.gone (.keep0 .trunc))))))
theorem reF2 {a : NA} {sd : List (Nat × Nat)} : FgO 5 (netC Cl a.s a.d a.arcs a.fl ++ [.gone, .dk (kvD natD sd)]) (netC Cl a.s a.d a.arcs a.fl) := by
  unfold netC
  simp only [List.cons_append, List.nil_append]
  exact .keep (.keep (.keep (.keep (.keep .trunc))))
theorem bodyRe (hm : Free mg) (hc : NetCl K Cl) (hrs : MethOk P w K mg base Cl "rest_of_supply" 1 ["self", "place"] (cRS Cl)) (a : { a : NA // NaOk a }) (hr : Room 1 (A.deeper (envOfC qual (defScope sRe) s.heap.objs.size f cdv))) :
    BX (cxOf CX0 P w K mg base nRe qual (defScope sRe) f cdv A outer s H E).nox (cRe Cl a).cs.length (defBody sRe) (startG nRe (cRe Cl a).ws) (cRe Cl a).cs { nx := fun _ Ω' => (cRe Cl a).R (.d .non) Ω', rt := (cRe Cl a).R } := by
  obtain ⟨a, ok⟩ := a
  have hu : A.units + 3 + 64 < cLine := by have := hr.un; show A.units + 3 + 64 < _; have e : (A.deeper (envOfC qual (defScope sRe) s.heap.objs.size f cdv)).units = A.units + 3 := rfl; omega
  have hlen : -(2 ^ 62) ≤ (((a.s.map Dt.int).length : Nat) : Int) ∧ (((a.s.map Dt.int).length : Nat) : Int) < 2 ^ 62 := by rw [List.length_map]; have := ok.hs; omega
  refine bx_cons (sx_dcE 1 (List.range a.s.length) (fun i => .d (.int (i : Nat))) (fun i => [some (.l 0), none, none, none, none, none, some (.d (.int (i : Nat))), none, none]) (fun i => decide (0 < restS a.s a.arcs a.fl i)) (fun i => .inl (i : Nat)) (fun _ => optD none) (fun _ => netC Cl a.s a.d a.arcs a.fl) (fun _ => netC Cl a.s a.d a.arcs a.fl)
    (EndC.l (fun z => by cases z)) (Nat.le_refl _) rfl hnRe (ix_range (ax_cons (px_len (ax_cons (px_fld (px_var 0) hc.c (hc.n _ (by decide))) ax_nil) (hm.fr _ (by decide))) ax_nil) (hm.fr _ (by decide)) hlen) (blkOk_by (N := nRe) (sc := defScope sRe) (own := [("place", 6)]) (by decide +kernel)) (by rw [List.length_map]; simp) (fun _ _ z => nomatch z) (by rw [List.length_range]; exact lt1 (by have := ok.hs; omega))
    (fun _ _ _ _ _ => pn 6 hnRe) (fun i _ => gx_name 6) (by decide) (fun _ _ _ _ => rfl)
    (fun i x hx _ _ _ _ _ => tse_one (tx_gt (px_meth hrs hr hc.c ⟨⟨a.s, a.d, a.arcs, a.fl, x⟩, (by
      have := List.mem_range.mp (List.mem_of_getElem? hx)
      exact ⟨this, ok.ha⟩)⟩ [0, 1, 2, 3, 4] (px_var 0) (ax_cons (px_var 6) ax_nil) (InsOf.l rfl rfl) (netAt (more := []) _ rfl rfl rfl) (fun w' Ω' hR => by
        obtain ⟨rfl, rfl⟩ := hR
        exact ⟨rfl, netPut (more := [])⟩)) px_int))
    (fun i x hx _ _ _ _ _ _ => px_var 6) (fun i x hx _ _ _ _ _ _ => px_non) ?_ (sw_trueD rfl rfl rfl (by decide +kernel)))
  rw [reStart]
  refine bx_cons (sx_asg (Nat.le_of_ble_eq_true rfl) px_dnew (pn 2 hnRe) (gx_name 2) ?_)
  refine bx_cons (sx_lcKO 3 1 (n := 5) (fun k => [some (.l 0), none, some (.l 6), none, none, none, some (.d (kD k)), none, none]) (fun _ => true) (fun k => .tup [.int 0, kD k]) rfl rfl (.keep (.drop (.keep (.keep (.keep (.keep (.keep (.keep (.keep .nil))))))))) (EndC.l (fun z => by cases z)) (Nat.le_of_ble_eq_true rfl) rfl rfl hnRe (blkOk_by (N := nRe) (sc := defScope sRe) (own := [("place", 6)]) (by decide +kernel)) ?_ (fun _ _ _ _ _ => pn 6 hnRe) (fun i _ => gx_name 6) (by decide)
    (fun _ _ _ _ _ _ _ => tsx_nil) (fun k _ _ _ _ _ _ _ => px_tup (ds := [.int 0, kD k]) (ax_cons px_int (ax_cons (px_var 6) ax_nil))) ?_ (sw_true rfl rfl rfl (by decide +kernel)))
  · exact lt1 (by
      unfold kvD
      rw [List.length_map, List.length_map]
      have h1 : ((List.range a.s.length).filter fun i => decide (0 < restS a.s a.arcs a.fl i)).length ≤ _ := List.length_filter_le _ _
      rw [List.length_range] at h1
      have := ok.hs
      omega)
  rw [reWait]
  refine bx_cons (sx_asg (Nat.le_of_ble_eq_true rfl) px_int (pn 4 hnRe) (gx_name 4) ?_)
  refine bx_mid (fun Γ Ω => ∃ (fs : List (Nat × Option Nat)) (sd wt : List (Nat × Nat)) (at_ : Nat) (g1 g2 g3 g4 : Option W), BI a.s a.d.length a.arcs a.fl fs sd wt ∧ Closed a.arcs a.fl fs sd wt ∧ Γ = [some (.l 0), some (.l 5), some (.l 6), some (.l 7), some (.d (.int (at_ : Nat))), g1, g2, g3, g4] ∧ Ω = reΩ Cl a fs sd wt) (sx_whileE (reI Cl a) (a.s.length + a.d.length) ?_ ?_ ?_ PassesOwn.never (Nat.le_of_ble_eq_true rfl)) ?_
  · exact ⟨_, [], _, 0, _, _, _, _, BI.start, Nat.zero_le _, rfl, fun i x h => absurd h (Nat.not_lt_zero _), rfl, rfl⟩
  · rintro m Γ' Ω' ⟨fs, sd, wt, at_, g1, g2, g3, g4, bi, hle, hm', hdn, rfl, rfl⟩
    exact Nat.le_of_ble_eq_true rfl
  · rintro m Γ' Ω' ⟨fs, sd, wt, at_, g1, g2, g3, g4, bi, hle, hm', hdn, rfl, rfl⟩
    refine ⟨_, _, tx_lt (px_var 4) (px_len (ax_cons (px_var 3) ax_nil) (hm.fr _ (by decide))), fun hb => ?_, fun hb => ?_⟩
    · have hat : at_ < wt.length := by
        have h := of_decide_eq_true hb
        rw [List.length_map] at h
        omega
      have hx : wt[at_]? = some wt[at_] := List.getElem?_eq_getElem hat
      generalize wt[at_] = x at hx
      have hbd := bi.bound
      refine bx_cons (sx_asg (Nat.le_of_ble_eq_true rfl) (px_ixL (px_var 3) (px_var 4) (atI_map hx)) (pg_tup (n := 2) rfl (pgs_n 5 hnRe (pgs_n 6 hnRe pgs_nil))) (gx2 5 6) ?_)
      refine bx_cons (sx_aug (i := 4) (a := (at_ : Nat)) (Nat.le_of_ble_eq_true rfl) ip_add rfl px_int ?_ hnRe)
      refine bx_cons (sx_for a.arcs.zipIdx (fun q => .d (.tup [.int (q.2 : Nat), arcD q.1])) (rfI Cl a at_ x) (fun i y Γ => (Γ.set 7 (some (.d (.int (y.2 : Nat))))).set 8 (some (.d (arcD y.1)))) (Nat.le_of_ble_eq_true rfl) (ix_enum (ax_cons (px_fld (px_var 0) hc.c (hc.n _ (by decide))) ax_nil) (hm.fr _ (by decide)) (.l rfl)) ?_ ?_ ?_
        (pg_tup (n := 2) rfl (pgs_n 7 hnRe (pgs_n 8 hnRe pgs_nil))) (fun _ _ _ _ _ _ => gx2 7 8) ?_ ?_ PassesOwn.never)
      · rw [List.zipIdx_map, List.map_map]; rfl
      · exact ⟨fs, sd, wt, _, _, bi, hx, hdn, Done.zero, rfl, rfl⟩
      · rintro i Γ' Ω' ⟨fs, sd, wt, g3, g4, bi, hx, hdn, hdx, rfl, rfl⟩ c hc
        simp only [List.mem_singleton] at hc
        subst hc
        rfl
      · rintro i ⟨arc, j⟩ Γ' Ω' hy ⟨fs, sd, wt, g3, g4, bi, hx, hdn, hdx, rfl, rfl⟩
        rw [List.getElem?_zipIdx] at hy
        obtain ⟨arc', ea, e2⟩ := Option.map_eq_some_iff.mp hy
        injection e2 with e3 e4
        subst e3
        obtain rfl : i = j := by omega
        have harc := ok.hin arc' (List.mem_of_getElem? ea)
        have hi := (List.getElem?_eq_some_iff.mp ea).1
        have hbd := bi.bound
        have hl := (List.getElem?_eq_some_iff.mp hx).1
        refine bx_mid (fun Γ Ω => ∃ (fs : List (Nat × Option Nat)) (sd wt : List (Nat × Nat)), BI a.s a.d.length a.arcs a.fl fs sd wt ∧ wt[at_]? = some x ∧ (∀ i x, i < at_ → wt[i]? = some x → Done a.arcs a.fl fs sd a.arcs.length x) ∧ Done a.arcs a.fl fs sd i x ∧ (x.1 = 0 → arc'.1 = x.2 → arc'.2 ∈ sd.map (·.1)) ∧
          Γ = [some (.l 0), some (.l 5), some (.l 6), some (.l 7), some (.d (.int ((at_ : Nat) + 1))), some (.d (.int (x.1 : Nat))), some (.d (.int (x.2 : Nat))), some (.d (.int (i : Nat))), some (.d (arcD arc'))] ∧ Ω = reΩ Cl a fs sd wt)
          (sx_if (Nat.le_of_ble_eq_true rfl) (tx_and (tx_eq (px_var 5) px_int) (fun _ => tx_and (tx_eq (px_ixT (px_var 8) px_int) (px_var 6)) (fun _ => tx_and1 (tx_dnotin (by exact (by omega : A.units + 3 + 1 < cLine)) (px_ixT (px_var 8) px_int) (px_var 2) (DkOf.l (k := .inl (arc'.2 : Nat)) rfl))))).tx (fun hc1 => ?_) (fun hc1 => ?_)) ?_
        · rw [Bool.and_eq_true, Bool.and_eq_true, isSome_kv] at hc1
          obtain ⟨c1, c2, c3⟩ := hc1
          have c1 : ((x.1 : Nat) : Int) = 0 := of_decide_eq_true c1
          have c2 : ((arc'.1 : Nat) : Int) = ((x.2 : Nat) : Int) := of_decide_eq_true c2
          have c3 : arc'.2 ∉ sd.map (·.1) := by simpa using c3
          have hp : arc'.1 ∈ fs.map (·.1) := (bi.wf _).mp (by
            have e : (0, arc'.1) = x := Prod.ext (by simp; omega) (by simp; omega)
            rw [e]
            exact List.mem_of_getElem? hx)
          refine bx_cons (sx_dput (by exact (by omega : A.units + 3 + 1 < cLine)) (Nat.le_of_ble_eq_true rfl) (px_var 7) (px_var 2) (px_ixT (px_var 8) px_int) (DpOf.k (q := .inl (arc'.2 : Nat)) rfl) (lt1 (by
            unfold kvD
            rw [List.length_map]
            have := bi.len
            have := ok.hs
            have := ok.hd
            omega)) (bx_cons (sx_expr (Nat.le_of_ble_eq_true rfl) (px_append (ds := wt.map arcD) rfl rfl (lt1 (by
            rw [List.length_map]
            have := ok.hs
            have := ok.hd
            omega)) (px_var 3) (ax_cons (px_tup (ds := [.int 1, .int (arc'.2 : Nat)]) (ax_cons px_int (ax_cons (px_ixT (px_var 8) px_int) ax_nil))) ax_nil)) (bx_nil ⟨fs, sd ++ [(arc'.2, i)], wt ++ [(1, arc'.2)], bi.addS ea rfl harc.2 hp c3, ?_, fun i' x' hi' hx' => ?_, ?_, fun _ _ => ?_, rfl, ?_⟩))))
          · rw [List.getElem?_append_left hl]; exact hx
          · rw [List.getElem?_append_left (by omega)] at hx'
            have := (hdn i' x' hi' hx').grow (f2 := []) (s2 := [(arc'.2, i)])
            rwa [List.append_nil] at this
          · have := hdx.grow (f2 := []) (s2 := [(arc'.2, i)])
            rwa [List.append_nil] at this
          · simp
          · have e1 := putD_kv (f := natD) (l := sd) (x := i) c3
            have e2 : (wt ++ [(1, arc'.2)]).map arcD = wt.map arcD ++ [.tup [.int 1, .int (arc'.2 : Nat)]] := by rw [List.map_append]; rfl
            unfold reΩ
            rw [← e1, e2]
            rfl
        · refine bx_nil ⟨fs, sd, wt, bi, hx, hdn, hdx, fun h1 h2 => ?_, rfl, rfl⟩
          rw [isSome_kv] at hc1
          have e1 : Dt.scEq (.int (x.1 : Nat)) (.int 0) = true := decide_eq_true (by omega)
          have e2 : Dt.scEq (.int (arc'.1 : Nat)) (.int (x.2 : Nat)) = true := decide_eq_true (by omega)
          rw [e1, e2] at hc1
          simpa using hc1
        · rintro Γ' Ω' ⟨fs, sd, wt, bi, hx, hdn, hdx, hd1, rfl, rfl⟩
          have hbd := bi.bound
          have hl := (List.getElem?_eq_some_iff.mp hx).1
          refine bx_cons (sx_if (Nat.le_of_ble_eq_true rfl) (tx_and (tx_eq (px_var 5) px_int) (fun _ => tx_and (tx_eq (px_ixT (px_var 8) px_int) (px_var 6)) (fun _ => tx_and (tx_gt (px_ixL (px_fld (px_var 0) hc.c (hc.n _ (by decide))) (px_var 7) (atI_map (getD_get (d := 0) (by rw [ok.hf]; exact hi)))) px_int) (fun _ => tx_and1 (tx_dnotin (by exact (by omega : A.units + 3 + 1 < cLine)) (px_ixT (px_var 8) px_int) (px_var 1) (DkOf.l (k := .inl (arc'.1 : Nat)) rfl)))))).tx (fun hc1 => ?_) (fun hc1 => ?_))
          · rw [Bool.and_eq_true, Bool.and_eq_true, Bool.and_eq_true, isSome_kv] at hc1
            obtain ⟨c1, c2, c3, c4⟩ := hc1
            have c1 : ((x.1 : Nat) : Int) = 1 := of_decide_eq_true c1
            have c2 : ((arc'.2 : Nat) : Int) = ((x.2 : Nat) : Int) := of_decide_eq_true c2
            have c3 : 0 < a.fl.getD i 0 := of_decide_eq_true c3
            have c4 : arc'.1 ∉ fs.map (·.1) := by simpa using c4
            have hp : arc'.2 ∈ sd.map (·.1) := (bi.ws _).mp (by
              have e : (1, arc'.2) = x := Prod.ext (by simp; omega) (by simp; omega)
              rw [e]
              exact List.mem_of_getElem? hx)
            refine bx_cons (sx_dput (by exact (by omega : A.units + 3 + 1 < cLine)) (Nat.le_of_ble_eq_true rfl) (px_var 7) (px_var 1) (px_ixT (px_var 8) px_int) (DpOf.k (q := .inl (arc'.1 : Nat)) rfl) (lt1 (by
              unfold kvD
              rw [List.length_map]
              have := bi.len
              have := ok.hs
              have := ok.hd
              omega)) (bx_cons (sx_expr (Nat.le_of_ble_eq_true rfl) (px_append (ds := wt.map arcD) rfl rfl (lt1 (by
              rw [List.length_map]
              have := ok.hs
              have := ok.hd
              omega)) (px_var 3) (ax_cons (px_tup (ds := [.int 0, .int (arc'.1 : Nat)]) (ax_cons px_int (ax_cons (px_ixT (px_var 8) px_int) ax_nil))) ax_nil)) (bx_nil (bx_nil ⟨fs ++ [(arc'.1, some i)], sd, wt ++ [(0, arc'.1)], _, _, bi.addF ea rfl harc.1 c3 hp c4, ?_, fun i' x' hi' hx' => ?_, ?_, rfl, ?_⟩)))))
            · rw [List.getElem?_append_left hl]; exact hx
            · rw [List.getElem?_append_left (by omega)] at hx'
              have := (hdn i' x' hi' hx').grow (f2 := [(arc'.1, some i)]) (s2 := [])
              rwa [List.append_nil] at this
            · refine Done.succ ?_ ea (fun h1 _ => ?_) fun _ _ _ => by simp
              · have := hdx.grow (f2 := [(arc'.1, some i)]) (s2 := [])
                rwa [List.append_nil] at this
              · omega
            · have e1 := putD_kv (f := optD) (l := fs) (x := some i) c4
              have e2 : (wt ++ [(0, arc'.1)]).map arcD = wt.map arcD ++ [.tup [.int 0, .int (arc'.1 : Nat)]] := by rw [List.map_append]; rfl
              unfold reΩ
              rw [← e1, e2]
              rfl
          · refine bx_nil (bx_nil ⟨fs, sd, wt, _, _, bi, hx, hdn, Done.succ hdx ea hd1 fun h1 h2 h3 => ?_, rfl, rfl⟩)
            rw [isSome_kv] at hc1
            have e1 : Dt.scEq (.int (x.1 : Nat)) (.int 1) = true := decide_eq_true (by omega)
            have e2 : Dt.scEq (.int (arc'.2 : Nat)) (.int (x.2 : Nat)) = true := decide_eq_true (by omega)
            rw [e1, e2, decide_eq_true h3] at hc1
            simpa using hc1
      · rintro Γ' Ω' ⟨fs, sd, wt, g3, g4, bi, hx, hdn, hdx, rfl, rfl⟩
        rw [List.length_zipIdx] at hdx
        have hb2 := bi.bound
        have hl := (List.getElem?_eq_some_iff.mp hx).1
        refine bx_nil ⟨_, ?_, fs, sd, wt, at_ + 1, some (.d (.int (x.1 : Nat))), some (.d (.int (x.2 : Nat))), g3, g4, bi, hl, rfl, fun i y hi hy => ?_, rfl, rfl⟩
        · omega
        · by_cases e : i = at_
          · subst e; rw [hx] at hy; cases hy; exact hdx
          · exact hdn i y (by omega) hy
    · refine ⟨fs, sd, wt, at_, g1, g2, g3, g4, bi, fun x hx => ?_, rfl, rfl⟩
      obtain ⟨i, e⟩ := List.getElem?_of_mem hx
      have h1 := (List.getElem?_eq_some_iff.mp e).1
      have h2 := of_decide_eq_false hb
      rw [List.length_map] at h2
      exact hdn i x (by omega) e
  · rintro Γ' Ω' ⟨fs, sd, wt, at_, g1, g2, g3, g4, bi, cl, rfl, rfl⟩
    refine bx_frz 1 5 (od := .dk (kvD optD fs)) (x := .dic (kvD optD fs)) (Ω2 := netC Cl a.s a.d a.arcs a.fl ++ [OD.gone, OD.dk (kvD natD sd)]) rfl rfl .dk (Nat.le_refl _) (.keep (.keep (.keep (.drop (.keep (.drop (.drop (.drop (.drop .nil))))))))) reF1 (.inl rfl) ?_
    refine bx_frz 2 6 (od := .dk (kvD natD sd)) (x := .dic (kvD natD sd)) (Ω2 := netC Cl a.s a.d a.arcs a.fl) rfl rfl .dk (Nat.le_of_ble_eq_true rfl) (.keep (.keep (.keep (.keep (.keep (.keep (.keep (.keep (.keep .nil))))))))) reF2 (.inr (Nat.le_of_ble_eq_true rfl)) ?_
    exact bx_cons (sx_ret (Nat.le_refl _) (px_tup (ds := [.dic (kvD optD fs), .dic (kvD natD sd)]) (ax_cons (px_var 1) (ax_cons (px_var 2) ax_nil))) ⟨fs, sd, wt, bi, cl, rfl, rfl⟩)
end
end K50
namespace K50
open PySem PySem.Spec PyProof.Rows L2 DL

/-! ### flows: sums over arcs -/
def sumC (c : Nat × Nat → Bool) (arcs : List (Nat × Nat)) (fl : List Int) : Int := (((arcs.zip fl).filter fun q => c q.1).map (·.2)).sum
def bump (fl : List Int) (k : Nat) (δ : Int) : List Int := fl.set k (fl.getD k 0 + δ)
theorem bump_length {fl : List Int} {k : Nat} {δ : Int} : (bump fl k δ).length = fl.length := List.length_set ..
theorem bump_get {fl : List Int} {k : Nat} {δ : Int} {j : Nat} (h : k < fl.length) : (bump fl k δ).getD j 0 = fl.getD j 0 + if j = k then δ else 0 := by
  unfold bump
  rw [List.getD_eq_getElem?_getD, List.getD_eq_getElem?_getD, List.getElem?_set]
  by_cases e : k = j
  · subst e
    rw [if_pos rfl, if_pos h, if_pos rfl, Option.getD_some, List.getD_eq_getElem?_getD]
  · rw [if_neg e, if_neg (Ne.symm e), ← List.getD_eq_getElem?_getD, Int.add_zero]
theorem sumC_cons {c : Nat × Nat → Bool} {p : Nat × Nat} {x : Int} {arcs : List (Nat × Nat)} {fl : List Int} : sumC c (p :: arcs) (x :: fl) = (if c p then x else 0) + sumC c arcs fl := by
  unfold sumC
  rw [List.zip_cons_cons, List.filter_cons]
  by_cases h : c p = true
  · rw [if_pos h, if_pos h, List.map_cons, List.sum_cons]
  · rw [if_neg h, if_neg h, Int.zero_add]
theorem sumC_bump {c : Nat × Nat → Bool} {δ : Int} {p : Nat × Nat} : ∀ {arcs : List (Nat × Nat)} {fl : List Int} {k : Nat}, fl.length = arcs.length → arcs[k]? = some p → sumC c arcs (bump fl k δ) = sumC c arcs fl + if c p then δ else 0
  | [], _, k, _, h => by simp at h
  | a :: arcs, [], k, hl, _ => by simp at hl
  | a :: arcs, x :: fl, 0, hl, h => by
    simp at h
    subst h
    show sumC c (a :: arcs) ((x + δ) :: fl) = _
    rw [sumC_cons, sumC_cons]
    split <;> omega
  | a :: arcs, x :: fl, k + 1, hl, h => by
    have ih := sumC_bump (c := c) (δ := δ) (arcs := arcs) (fl := fl) (k := k) (by simpa using hl) (by simpa using h)
    have e : bump (x :: fl) (k + 1) δ = x :: bump fl k δ := by
      unfold bump
      rw [List.getD_cons_succ, List.set_cons_succ]
    rw [e, sumC_cons, sumC_cons, ih]
    omega
theorem sumC_true {arcs : List (Nat × Nat)} {fl : List Int} (h : fl.length = arcs.length) : sumC (fun _ => true) arcs fl = fl.sum := by
  unfold sumC
  rw [List.filter_eq_self.mpr (fun _ _ => rfl), List.map_snd_zip (by omega)]
theorem usedS_sum {arcs : List (Nat × Nat)} {fl : List Int} {p : Nat} : (usedS arcs fl p).sum = sumC (fun a => decide (a.1 = p)) arcs fl := rfl
theorem usedD_sum {arcs : List (Nat × Nat)} {fl : List Int} {p : Nat} : (usedD arcs fl p).sum = sumC (fun a => decide (a.2 = p)) arcs fl := rfl
structure FlowOk (s d : List Int) (arcs : List (Nat × Nat)) (fl : List Int) : Prop where
  len : fl.length = arcs.length
  nn : ∀ k, 0 ≤ fl.getD k 0
  oS : ∀ p, p < s.length → 0 ≤ restS s arcs fl p
  oD : ∀ q, q < d.length → 0 ≤ restD d arcs fl q
def apS (t : Int) (fl : List Int) (steps : List (Nat × Int)) : List Int := steps.foldl (fun f st => bump f st.1 (st.2 * t)) fl
theorem apS_snoc {t : Int} {fl : List Int} {steps : List (Nat × Int)} {st : Nat × Int} : apS t fl (steps ++ [st]) = bump (apS t fl steps) st.1 (st.2 * t) := by
  unfold apS
  rw [List.foldl_append]
  rfl
/-- what the steps so far do, at each amount up to most; the way stands at the demand q -/
structure AI (s d : List Int) (arcs : List (Nat × Nat)) (fl : List Int) (wt : List (Nat × Nat)) (place q : Nat) (most : Int) (steps : List (Nat × Int)) (r : Nat) : Prop where
  at_ : wt[r]? = some (1, q)
  pos : 1 ≤ most
  le : most ≤ restD d arcs fl place
  rng : ∀ st ∈ steps, st.1 < arcs.length ∧ (st.2 = 1 ∨ st.2 = -1)
  neg : ∀ st ∈ steps, st.2 < 0 → ∃ i arc, r < i ∧ arcs[st.1]? = some arc ∧ wt[i]? = some (0, arc.1)
  len : ∀ t, (apS t fl steps).length = fl.length
  nn : ∀ t, 0 ≤ t → t ≤ most → ∀ k, 0 ≤ (apS t fl steps).getD k 0
  ge : ∀ t, 0 ≤ t → t ≤ most → ∀ k, (∀ st ∈ steps, st.1 = k → 0 ≤ st.2) → fl.getD k 0 ≤ (apS t fl steps).getD k 0
  uS : ∀ t p, sumC (fun a => decide (a.1 = p)) arcs (apS t fl steps) = sumC (fun a => decide (a.1 = p)) arcs fl
  uD : ∀ t x, sumC (fun a => decide (a.2 = x)) arcs (apS t fl steps) = sumC (fun a => decide (a.2 = x)) arcs fl + (if x = place then t else 0) - (if x = q then t else 0)
  sum : ∀ t, sumC (fun _ => true) arcs (apS t fl steps) = sumC (fun _ => true) arcs fl
/-- the steps are all there -/
def AF (s d : List Int) (arcs : List (Nat × Nat)) (fl : List Int) (most : Int) (steps : List (Nat × Int)) : Prop := 1 ≤ most ∧ (∀ st ∈ steps, st.1 < arcs.length ∧ (st.2 = 1 ∨ st.2 = -1)) ∧ FlowOk s d arcs (apS most fl steps) ∧ (apS most fl steps).sum = fl.sum + most
section
variable {s d : List Int} {m : Nat} {arcs : List (Nat × Nat)} {fl : List Int} {fs : List (Nat × Option Nat)} {sd wt : List (Nat × Nat)} {place q r k : Nat} {most : Int} {steps : List (Nat × Int)}
theorem nodup_idx {α : Type} {l : List α} (h : l.Nodup) {i j : Nat} {x : α} (e1 : l[i]? = some x) (e2 : l[j]? = some x) : i = j := by
  have hi := (List.getElem?_eq_some_iff.mp e1).1
  have hj := (List.getElem?_eq_some_iff.mp e2).1
  have a1 : l[i] = x := by rw [List.getElem?_eq_getElem hi] at e1; exact Option.some.inj e1
  have a2 : l[j] = x := by rw [List.getElem?_eq_getElem hj] at e2; exact Option.some.inj e2
  exact (List.getElem_inj h).mp (a1.trans a2.symm)
theorem AI.start (bi : BI s m arcs fl fs sd wt) (fo : FlowOk s d arcs fl) (hr : wt[r]? = some (1, place)) (h : 0 < restD d arcs fl place) : AI s d arcs fl wt place place (restD d arcs fl place) [] r where
  at_ := hr
  pos := h
  le := Int.le_refl _
  rng := fun _ z => nomatch z
  neg := fun _ z => nomatch z
  len := fun _ => rfl
  nn := fun t _ _ k => fo.nn k
  ge := fun _ _ _ _ _ => Int.le_refl _
  uS := fun _ _ => rfl
  uD := fun t x => by
    show sumC _ arcs fl = _ + _ - _
    omega
  sum := fun _ => rfl
/-- the arc into q taken: its supply, and where that stands -/
theorem AI.supply (bi : BI s m arcs fl fs sd wt) (ai : AI s d arcs fl wt place q most steps r) (hk : (q, k) ∈ sd) : ∃ arc j, arcs[k]? = some arc ∧ arc.2 = q ∧ j < r ∧ wt[j]? = some (0, arc.1) := by
  obtain ⟨arc, ea, e2, j, i, hji, ej, ei⟩ := bi.ps q k hk
  have : i = r := nodup_idx bi.wnd ei ai.at_
  subst this
  exact ⟨arc, j, ea, e2, hji, ej⟩
theorem AI.mid (ai : AI s d arcs fl wt place q most steps r) (fo : FlowOk s d arcs fl) {arc : Nat × Nat} (ea : arcs[k]? = some arc) (e2 : arc.2 = q) (t : Int) :
    (apS t fl (steps ++ [(k, 1)])).length = fl.length ∧ (∀ j, (apS t fl (steps ++ [(k, 1)])).getD j 0 = (apS t fl steps).getD j 0 + if j = k then t else 0) ∧
    (∀ p, sumC (fun a => decide (a.1 = p)) arcs (apS t fl (steps ++ [(k, 1)])) = sumC (fun a => decide (a.1 = p)) arcs fl + if p = arc.1 then t else 0) ∧
    (∀ x, sumC (fun a => decide (a.2 = x)) arcs (apS t fl (steps ++ [(k, 1)])) = sumC (fun a => decide (a.2 = x)) arcs fl + if x = place then t else 0) ∧
    sumC (fun _ => true) arcs (apS t fl (steps ++ [(k, 1)])) = sumC (fun _ => true) arcs fl + t := by
  have hl := ai.len t
  have hkl : k < fl.length := by rw [fo.len]; exact (List.getElem?_eq_some_iff.mp ea).1
  have b := fun c => sumC_bump (c := c) (δ := 1 * t) (arcs := arcs) (fl := apS t fl steps) (k := k) (p := arc) (hl.trans fo.len) ea
  rw [apS_snoc]
  refine ⟨bump_length.trans hl, fun j => ?_, fun p => ?_, fun x => ?_, ?_⟩
  · rw [bump_get (by rw [hl]; exact hkl), Int.one_mul]
  · rw [b, ai.uS]
    simp only [Int.one_mul, decide_eq_true_eq]
    by_cases h1 : p = arc.1
    · rw [if_pos h1, if_pos h1.symm]
    · rw [if_neg h1, if_neg (Ne.symm h1)]
  · rw [b, ai.uD]
    simp only [Int.one_mul, decide_eq_true_eq]
    subst e2
    by_cases h1 : x = arc.2
    · rw [if_pos h1, if_pos h1.symm]; omega
    · rw [if_neg h1, if_neg (Ne.symm h1)]; omega
  · rw [b, ai.sum]
    simp
/-- the way ends at a supply with a rest -/
theorem AI.last (bi : BI s m arcs fl fs sd wt) (ai : AI s d arcs fl wt place q most steps r) (fo : FlowOk s d arcs fl) {arc : Nat × Nat} (ea : arcs[k]? = some arc) (e2 : arc.2 = q) (hn : (arc.1, none) ∈ fs) (hpl : place < d.length) :
    AF s d arcs fl (min most (restS s arcs fl arc.1)) (steps ++ [(k, 1)]) := by
  have h0 := bi.pf0 _ hn
  have hp := ai.pos
  have hle := ai.le
  have hkl := (List.getElem?_eq_some_iff.mp ea).1
  generalize ht : min most (restS s arcs fl arc.1) = t
  have t1 : 1 ≤ t := by omega
  have t2 : t ≤ most := by omega
  have t3 : t ≤ restS s arcs fl arc.1 := by omega
  obtain ⟨m1, m2, m3, m4, m5⟩ := ai.mid fo ea e2 t
  refine ⟨t1, fun st hst => ?_, ⟨m1.trans fo.len, fun j => ?_, fun p hp => ?_, fun x hx => ?_⟩, ?_⟩
  · rcases List.mem_append.mp hst with h | h
    · exact ai.rng st h
    · rw [List.mem_singleton] at h; subst h; exact ⟨hkl, .inl rfl⟩
  · rw [m2]
    have := ai.nn t (by omega) t2 j
    split <;> omega
  · have o := fo.oS p hp
    unfold restS at o t3 ⊢
    rw [usedS_sum] at o t3 ⊢
    rw [m3]
    by_cases e : p = arc.1
    · subst e; rw [if_pos rfl]; omega
    · rw [if_neg e]; omega
  · have o := fo.oD x hx
    have t4 : t ≤ restD d arcs fl place := Int.le_trans t2 hle
    unfold restD at o t4 ⊢
    rw [usedD_sum] at o t4 ⊢
    rw [m4]
    by_cases e : x = place
    · subst e; rw [if_pos rfl]; omega
    · rw [if_neg e]; omega
  · rw [← sumC_true (m1.trans fo.len), m5, sumC_true fo.len]
/-- the way goes on at the arc that brought the supply -/
theorem AI.next (bi : BI s m arcs fl fs sd wt) (ai : AI s d arcs fl wt place q most steps r) (fo : FlowOk s d arcs fl) {arc : Nat × Nat} {k2 j : Nat} (ea : arcs[k]? = some arc) (e2 : arc.2 = q) (hj : j < r) (ej : wt[j]? = some (0, arc.1)) (hn : (arc.1, some k2) ∈ fs) :
    ∃ arc2 r2, arcs[k2]? = some arc2 ∧ r2 < r ∧ AI s d arcs fl wt place arc2.2 (min most (fl.getD k2 0)) (steps ++ [(k, 1)] ++ [(k2, -1)]) r2 := by
  obtain ⟨arc2, ea2, e1, hf, r2, i, hri, er, ei⟩ := bi.pf1 _ _ hn
  have : i = j := nodup_idx bi.wnd ei ej
  subst this
  have hkl := (List.getElem?_eq_some_iff.mp ea).1
  have hkl2 := (List.getElem?_eq_some_iff.mp ea2).1
  have hp := ai.pos
  have hle := ai.le
  have len1 : ∀ t, (apS t fl (steps ++ [(k, 1)])).length = fl.length := fun t => (ai.mid fo ea e2 t).1
  have b := fun c t => sumC_bump (c := c) (δ := -1 * t) (arcs := arcs) (fl := apS t fl (steps ++ [(k, 1)])) (k := k2) (p := arc2) ((len1 t).trans fo.len) ea2
  have nopos : ∀ st ∈ steps, st.1 = k2 → 0 ≤ st.2 := fun st hst e => by
    rcases Int.lt_or_le st.2 0 with h | h
    · obtain ⟨i2, arc3, h1, h2, h3⟩ := ai.neg st hst h
      rw [e, ea2] at h2
      cases h2
      rw [e1] at h3
      have : i2 = i := nodup_idx bi.wnd h3 ej
      omega
    · exact h
  have get2 : ∀ t j, (apS t fl (steps ++ [(k, 1)] ++ [(k2, -1)])).getD j 0 = (apS t fl steps).getD j 0 + (if j = k then t else 0) + if j = k2 then -t else 0 := fun t j => by
    rw [apS_snoc, bump_get (by rw [len1, fo.len]; exact hkl2), (ai.mid fo ea e2 t).2.1]
    simp
  refine ⟨arc2, r2, ea2, by omega, er, by omega, by omega, fun st hst => ?_, fun st hst hlt => ?_, fun t => ?_, fun t h0 h1 x => ?_, fun t h0 h1 x hx => ?_, fun t p => ?_, fun t x => ?_, fun t => ?_⟩
  · rcases List.mem_append.mp hst with h | h
    · rcases List.mem_append.mp h with h | h
      · exact ai.rng st h
      · rw [List.mem_singleton] at h; subst h; exact ⟨hkl, .inl rfl⟩
    · rw [List.mem_singleton] at h; subst h; exact ⟨hkl2, .inr rfl⟩
  · rcases List.mem_append.mp hst with h | h
    · rcases List.mem_append.mp h with h | h
      · obtain ⟨i2, arc3, h1, h2, h3⟩ := ai.neg st h hlt
        exact ⟨i2, arc3, by omega, h2, h3⟩
      · rw [List.mem_singleton] at h; subst h; exact absurd hlt (show ¬ (1 : Int) < 0 by decide)
    · rw [List.mem_singleton] at h; subst h
      exact ⟨i, arc2, hri, ea2, by rw [e1]; exact ei⟩
  · rw [apS_snoc, bump_length, len1]
  · rw [get2]
    have a1 := ai.nn t h0 (by omega) x
    by_cases e : x = k2
    · have a2 := ai.ge t h0 (by omega) k2 nopos
      subst e
      rw [if_pos rfl]
      split <;> omega
    · rw [if_neg e]
      split <;> omega
  · rw [get2]
    have ne : x ≠ k2 := fun e => by
      have := hx (k2, -1) (by simp) e.symm
      exact absurd this (show ¬ (0 : Int) ≤ -1 by decide)
    have a2 := ai.ge t h0 (by omega) x fun st hst => hx st (by simp [hst])
    rw [if_neg ne]
    split <;> omega
  · rw [apS_snoc, b, (ai.mid fo ea e2 t).2.2.1]
    simp only [decide_eq_true_eq, e1]
    by_cases h : p = arc.1
    · rw [if_pos h, if_pos h.symm]; omega
    · rw [if_neg h, if_neg (Ne.symm h)]; omega
  · rw [apS_snoc, b, (ai.mid fo ea e2 t).2.2.2.1]
    simp only [decide_eq_true_eq]
    by_cases h : x = arc2.2
    · rw [if_pos h, if_pos h.symm]; omega
    · rw [if_neg h, if_neg (Ne.symm h)]; omega
  · rw [apS_snoc, b, (ai.mid fo ea e2 t).2.2.2.2]
    simp
    omega
end
end K50
namespace K50
open PySem PySem.Spec PyProof.Rows L2 DL
abbrev sAu : Stmt := inClass sNet 4
abbrev nAu : List Str := ["self", "first", "second", "place", "steps", "most", "number", "supply", "step", "sign"]
theorem scAu : FnScope nAu ["self", "first", "second", "place"] (defScope sAu) := ⟨rfl, rfl, rfl, by decide +kernel, rfl, by decide +kernel, by decide +kernel⟩
theorem hnAu : nAu.Nodup := by decide +kernel
def stD (st : Nat × Int) : Dt := .tup [.int (st.1 : Nat), .int st.2]
structure AA where
  a : NA
  fs : List (Nat × Option Nat)
  sd : List (Nat × Nat)
  wt : List (Nat × Nat)
  place : Nat
structure AAOk (x : AA) : Prop where
  ok : NaOk x.a
  fo : FlowOk x.a.s x.a.d x.a.arcs x.a.fl
  bi : BI x.a.s x.a.d.length x.a.arcs x.a.fl x.fs x.sd x.wt
  pl : x.place ∈ x.sd.map (·.1)
  pos : 0 < restD x.a.d x.a.arcs x.a.fl x.place
def cAu (Cl : Addr) (x : { x : AA // AAOk x }) : Ctr := ⟨[.l 0, .d (.dic (kvD optD x.1.fs)), .d (.dic (kvD natD x.1.sd)), .d (.int (x.1.place : Nat))], netC Cl x.1.a.s x.1.a.d x.1.a.arcs x.1.a.fl,
  fun w Ω => w = .d .non ∧ ∃ fl, FlowOk x.1.a.s x.1.a.d x.1.a.arcs fl ∧ x.1.a.fl.sum + 1 ≤ fl.sum ∧ Ω = netC Cl x.1.a.s x.1.a.d x.1.a.arcs fl⟩
def auΓ (fs : List (Nat × Option Nat)) (sd : List (Nat × Nat)) (place : Nat) (most : Int) (num : Dt) (g7 g8 g9 : Option W) : Gm := [some (.l 0), some (.d (.dic (kvD optD fs))), some (.d (.dic (kvD natD sd))), some (.d (.int (place : Nat))), some (.l 5), some (.d (.int most)), some (.d num), g7, g8, g9]
/-- between two turns of the while -/
def auI (Cl : Addr) (x : AA) (m : Nat) (Γ : Gm) (Ω : Om) : Prop := ∃ (most : Int) (steps : List (Nat × Int)) (g7 g8 g9 : Option W), steps.length ≤ 2 * x.wt.length ∧ Ω = netC Cl x.a.s x.a.d x.a.arcs x.a.fl ++ [.ls (steps.map stD)] ∧
  ((∃ q k r, AI x.a.s x.a.d x.a.arcs x.a.fl x.wt x.place q most steps r ∧ (q, k) ∈ x.sd ∧ steps.length + 2 * r + 2 ≤ 2 * x.wt.length ∧ m = r + 1 ∧ Γ = auΓ x.fs x.sd x.place most (natD k) g7 g8 g9) ∨
   (AF x.a.s x.a.d x.a.arcs x.a.fl most steps ∧ m = 0 ∧ Γ = auΓ x.fs x.sd x.place most .non g7 g8 g9))
theorem lookup_ex {α : Type} {l : List (Nat × α)} {p : Nat} (h : p ∈ l.map (·.1)) : ∃ x, l.lookup p = some x ∧ (p, x) ∈ l := by
  cases e : l.lookup p with
  | none => exact absurd h (lookup_none_iff.mp e)
  | some x => exact ⟨x, rfl, lookup_mem e⟩
theorem min_if {a b : Int} : (if b < a then b else a) = min a b := by split <;> omega
section
variable {P : Program} {w : World} {K : PySem.W.Frag} {mg : Str → Option Value} {base : Heap} {qual : Str} {Cl f : Addr} {cdv : Value} {A : Around} {outer : List Env} {s : Shared} {H : Hp} {E : XK}
theorem bodyAu (hm : Free mg) (hc : NetCl K Cl) (hrs : MethOk P w K mg base Cl "rest_of_supply" 1 ["self", "place"] (cRS Cl)) (hrd : MethOk P w K mg base Cl "rest_of_demand" 1 ["self", "place"] (cRD Cl)) (x : { x : AA // AAOk x }) (hr : Room 1 (A.deeper (envOfC qual (defScope sAu) s.heap.objs.size f cdv))) :
    BX (cxOf CX0 P w K mg base nAu qual (defScope sAu) f cdv A outer s H E).nox (cAu Cl x).cs.length (defBody sAu) (startG nAu (cAu Cl x).ws) (cAu Cl x).cs { nx := fun _ Ω' => (cAu Cl x).R (.d .non) Ω', rt := (cAu Cl x).R } := by
  obtain ⟨x, hx⟩ := x
  have hu : A.units + 3 + 64 < cLine := by have := hr.un; show A.units + 3 + 64 < _; have e : (A.deeper (envOfC qual (defScope sAu) s.heap.objs.size f cdv)).units = A.units + 3 := rfl; omega
  have hu1 : A.units + 3 + 1 < cLine := by omega
  have hbd := hx.bi.bound
  have hpl := hx.bi.ins _ hx.pl
  obtain ⟨k0, ek0, mk0⟩ := lookup_ex hx.pl
  obtain ⟨r0, er0⟩ := List.getElem?_of_mem ((hx.bi.ws _).mpr hx.pl)
  have hr0 := (List.getElem?_eq_some_iff.mp er0).1
  refine bx_cons (sx_asg (Nat.le_refl _) (px_lstO (ds := []) ax_nil) (pn 4 hnAu) (gx_name 4) ?_)
  refine bx_cons (sx_asg (Nat.le_of_ble_eq_true rfl) (px_meth hrd hr hc.c ⟨⟨x.a.s, x.a.d, x.a.arcs, x.a.fl, x.place⟩, hpl, hx.ok.ha⟩ [0, 1, 2, 3, 4] (px_var 0) (ax_cons (px_var 3) ax_nil) (InsOf.l rfl rfl) (netAt (more := [.ls []]) _ rfl rfl rfl) (fun w' Ω' hR => by
      obtain ⟨rfl, rfl⟩ := hR
      exact ⟨rfl, netPut (more := [.ls []])⟩)) (pn 5 hnAu) (gx_name 5) ?_)
  refine bx_cons (sx_asg (Nat.le_of_ble_eq_true rfl) (px_dget (z := natD k0) hu1 (px_var 2) (px_var 3) (DkOf.d (k := .inl (x.place : Nat))) (by rw [lookD_kv, ek0]; rfl)) (pn 6 hnAu) (gx_name 6) ?_)
  refine bx_mid (fun Γ Ω => ∃ (most : Int) (steps : List (Nat × Int)) (g7 g8 g9 : Option W), steps.length ≤ 2 * x.wt.length ∧ Ω = netC Cl x.a.s x.a.d x.a.arcs x.a.fl ++ [.ls (steps.map stD)] ∧ AF x.a.s x.a.d x.a.arcs x.a.fl most steps ∧ Γ = auΓ x.fs x.sd x.place most .non g7 g8 g9)
    (sx_whileE (auI Cl x) (r0 + 1) ?_ ?_ ?_ PassesOwn.never (Nat.le_of_ble_eq_true rfl)) ?_
  · exact ⟨_, [], _, _, _, Nat.zero_le _, rfl, .inl ⟨x.place, k0, r0, AI.start hx.bi hx.fo er0 hx.pos, mk0, by rw [List.length_nil]; omega, rfl, rfl⟩⟩
  · rintro m Γ' Ω' ⟨most, steps, g7, g8, g9, hsl, rfl, _⟩
    exact Nat.le_of_ble_eq_true rfl
  · rintro m Γ' Ω' ⟨most, steps, g7, g8, g9, hsl, rfl, h | ⟨af, hm0, rfl⟩⟩
    · obtain ⟨q, k, r, ai, mk, hst, rfl, rfl⟩ := h
      obtain ⟨arc, j, ea, e2, hj, ej⟩ := ai.supply hx.bi mk
      have hin := hx.ok.hin arc (List.mem_of_getElem? ea)
      have hp := (hx.bi.wf arc.1).mp (List.mem_of_getElem? ej)
      obtain ⟨o, eo, mo⟩ := lookup_ex hp
      refine ⟨_, _, tx_notN (w := .d (natD k)) (px_var 6) px_non, fun _ => ?_, fun hb => by cases hb⟩
      refine bx_cons (sx_expr (Nat.le_of_ble_eq_true rfl) (px_append (ds := steps.map stD) rfl rfl (lt1 (by rw [List.length_map]; have := hx.ok.hs; have := hx.ok.hd; omega)) (px_var 4) (ax_cons (px_tup (ds := [natD k, .int 1]) (ax_cons (px_var 6) (ax_cons px_int ax_nil))) ax_nil)) ?_)
      change BX _ _ _ _ (netC Cl x.a.s x.a.d x.a.arcs x.a.fl ++ [OD.ls (steps.map stD ++ [Dt.tup [natD k, Dt.int 1]])]) _
      refine bx_cons (sx_asg (Nat.le_of_ble_eq_true rfl) (px_ixT (px_ixL (px_fld (px_var 0) hc.c (hc.n _ (by decide))) (px_var 6) (atI_map (f := arcD) ea)) px_int) (pn 7 hnAu) (gx_name 7) ?_)
      refine bx_cons (sx_asg (Nat.le_of_ble_eq_true rfl) (px_dget (z := optD o) hu1 (px_var 1) (px_var 7) (DkOf.d (k := .inl (arc.1 : Nat))) (by rw [lookD_kv, eo]; rfl)) (pn 6 hnAu) (gx_name 6) ?_)
      have e1 : (steps ++ [(k, (1 : Int))]).map stD = steps.map stD ++ [.tup [natD k, .int 1]] := by rw [List.map_append]; rfl
      cases o with
      | none =>
        refine bx_cons (sx_if (Nat.le_of_ble_eq_true rfl) (tx_isN (px_var 6) px_non) (fun _ => ?_) (fun hb => by cases hb))
        refine bx_cons (sx_asg (Nat.le_of_ble_eq_true rfl) (px_min2 rfl (ax_cons (px_var 5) (ax_cons (px_meth hrs hr hc.c ⟨⟨x.a.s, x.a.d, x.a.arcs, x.a.fl, arc.1⟩, hin.1, hx.ok.ha⟩ [0, 1, 2, 3, 4] (px_var 0) (ax_cons (px_var 7) ax_nil) (InsOf.l rfl rfl) (netAt (more := [OD.ls (steps.map stD ++ [Dt.tup [natD k, Dt.int 1]])]) _ rfl rfl rfl) (fun w' Ω' hR => by
          obtain ⟨rfl, rfl⟩ := hR
          exact ⟨rfl, netPut (more := [OD.ls (steps.map stD ++ [Dt.tup [natD k, Dt.int 1]])])⟩)) ax_nil)) (hm.fr _ (by decide))) (pn 5 hnAu) (gx_name 5) ?_)
        rw [min_if]
        refine bx_nil (bx_nil ⟨0, by omega, _, steps ++ [(k, 1)], _, _, _, ?_, ?_, .inr ⟨ai.last hx.bi hx.fo ea e2 mo hpl, rfl, rfl⟩⟩)
        · rw [List.length_append, List.length_singleton]; omega
        · rw [e1]
      | some k2 =>
        obtain ⟨arc2, r2, ea2, hr2, ai2⟩ := ai.next hx.bi hx.fo ea e2 hj ej mo
        have hq2 := (hx.bi.ws _).mp (List.mem_of_getElem? ai2.at_)
        obtain ⟨k3, ek3, mk3⟩ := lookup_ex hq2
        have hk2 := (List.getElem?_eq_some_iff.mp ea2).1
        refine bx_cons (sx_if (Nat.le_of_ble_eq_true rfl) (tx_isN (px_var 6) px_non) (fun hb => by cases hb) (fun _ => ?_))
        refine bx_cons (sx_asg (Nat.le_of_ble_eq_true rfl) (px_min2 rfl (ax_cons (px_var 5) (ax_cons (px_ixL (px_fld (px_var 0) hc.c (hc.n _ (by decide))) (px_var 6) (atI_map (getD_get (d := 0) (by rw [hx.ok.hf]; exact hk2)))) ax_nil)) (hm.fr _ (by decide))) (pn 5 hnAu) (gx_name 5) ?_)
        rw [min_if]
        refine bx_cons (sx_expr (Nat.le_of_ble_eq_true rfl) (px_append (ds := steps.map stD ++ [.tup [natD k, .int 1]]) rfl rfl (lt1 (by rw [List.length_append, List.length_map, List.length_singleton]; have := hx.ok.hs; have := hx.ok.hd; omega)) (px_var 4) (ax_cons (px_tup (ds := [natD k2, .int (-1)]) (ax_cons (px_var 6) (ax_cons (px_neg px_int) ax_nil))) ax_nil)) ?_)
        refine bx_cons (sx_asg (Nat.le_of_ble_eq_true rfl) (px_dget (z := natD k3) hu1 (px_var 2) (px_ixT (px_ixL (px_fld (px_var 0) hc.c (hc.n _ (by decide))) (px_var 6) (atI_map (f := arcD) ea2)) px_int) (DkOf.d (k := .inl (arc2.2 : Nat))) (by rw [lookD_kv, ek3]; rfl)) (pn 6 hnAu) (gx_name 6) ?_)
        have e3 : (steps ++ [(k, (1 : Int))] ++ [(k2, (-1 : Int))]).map stD = steps.map stD ++ [.tup [natD k, .int 1]] ++ [.tup [natD k2, .int (-1)]] := by rw [List.map_append, e1]; rfl
        refine bx_nil (bx_nil ⟨r2 + 1, by omega, _, _, _, _, _, ?_, ?_, .inl ⟨arc2.2, k3, r2, ai2, mk3, ?_, rfl, rfl⟩⟩)
        · simp only [List.length_append, List.length_singleton]; omega
        · rw [e3]; rfl
        · simp only [List.length_append, List.length_singleton]; omega
    · exact ⟨_, _, tx_notN (w := .d .non) (px_var 6) px_non, fun hb => (by cases hb), fun _ => ⟨most, steps, g7, g8, g9, hsl, rfl, af, rfl⟩⟩
  · rintro Γ' Ω' ⟨most, steps, g7, g8, g9, hsl, rfl, ⟨af1, af2, af3, af4⟩, rfl⟩
    refine bx_cons (sx_for steps (fun st => .d (stD st)) (fun i Γ Ω => ∃ g8 g9, Γ = auΓ x.fs x.sd x.place most .non g7 g8 g9 ∧ Ω = netC Cl x.a.s x.a.d x.a.arcs (apS most x.a.fl (steps.take i)) ++ [.ls (steps.map stD)]) (fun i y Γ => (Γ.set 8 (some (.d (.int (y.1 : Nat))))).set 9 (some (.d (.int y.2)))) (Nat.le_of_ble_eq_true rfl) (ix_ls (px_var 4) (.l rfl)) ?_ ⟨g8, g9, rfl, rfl⟩ ?_
      (pg_tup (n := 2) rfl (pgs_n 8 hnAu (pgs_n 9 hnAu pgs_nil))) (fun _ _ _ _ _ _ => gx2 8 9) ?_ ?_ PassesOwn.never)
    · rw [List.map_map]; rfl
    · rintro i Γ' Ω' ⟨g8, g9, rfl, rfl⟩ c hc
      simp only [List.mem_singleton] at hc
      subst hc
      rfl
    · rintro i ⟨k, sg⟩ Γ' Ω' hy ⟨g8, g9, rfl, rfl⟩
      have hk0 := af2 _ (List.mem_of_getElem? hy)
      dsimp only at hk0
      obtain ⟨hk, hsg⟩ := hk0
      have hlen : ∀ n, (apS most x.a.fl (steps.take n)).length = x.a.fl.length := fun n => by
        unfold apS
        generalize steps.take n = l
        clear hy
        generalize x.a.fl = f0
        induction l generalizing f0 with
        | nil => rfl
        | cons a r ih => rw [List.foldl_cons, ih, bump_length]
      have e3 : apS most x.a.fl (steps.take (i + 1)) = bump (apS most x.a.fl (steps.take i)) k (sg * most) := by
        rw [List.take_add_one, hy]
        exact apS_snoc
      have hk1 : k < (apS most x.a.fl (steps.take i)).length := by rw [hlen, hx.ok.hf]; exact hk
      refine bx_cons (sx_augL (j := k) (ds := (apS most x.a.fl (steps.take i)).map .int) (a := (apS most x.a.fl (steps.take i)).getD k 0) (b := sg * most) (Nat.le_of_ble_eq_true rfl) ip_add (px_fld (px_var 0) hc.c (hc.n _ (by decide))) (px_var 8) (px_mul ?_ (px_var 9) (px_var 5)) rfl rfl ?_ (bx_nil ⟨_, _, rfl, ?_⟩))
      · exact .inl (by rcases hsg with rfl | rfl <;> decide)
      · rw [List.getElem?_map, getD_get hk1 (d := 0)]; rfl
      · rw [e3]
        have e4 : (bump (apS most x.a.fl (steps.take i)) k (sg * most)).map Dt.int = ((apS most x.a.fl (steps.take i)).map Dt.int).set k (.int ((apS most x.a.fl (steps.take i)).getD k 0 + sg * most)) := by
          unfold bump
          rw [List.map_set]
        unfold netC
        rw [e4]
        rfl
    · rintro Γ' Ω' ⟨g8, g9, rfl, rfl⟩
      rw [List.take_length]
      refine bx_nilF (Γ2 := [none, none, none, none, none, none, none, none, none, none]) (Ω2 := netC Cl x.a.s x.a.d x.a.arcs (apS most x.a.fl steps)) (.drop (.drop (.drop (.drop (.drop (.drop (.drop (.drop (.drop (.drop .nil)))))))))) ?_ ⟨rfl, apS most x.a.fl steps, af3, (by show x.a.fl.sum + 1 ≤ (apS most x.a.fl steps).sum; omega), rfl⟩
      unfold netC
      simp only [List.cons_append, List.nil_append]
      exact .keep (.keep (.keep (.keep (.keep .trunc))))
end
end K50
namespace K50
open PySem PySem.Spec PyProof.Rows L2 DL
abbrev sIn : Stmt := inClass sNet 0
abbrev nIn : List Str := ["self", "supplies", "demands", "arcs"]
theorem scIn : FnScope nIn ["self", "supplies", "demands", "arcs"] (defScope sIn) := ⟨rfl, rfl, rfl, by decide +kernel, rfl, by decide +kernel, by decide +kernel⟩
theorem hnIn : nIn.Nodup := by decide +kernel
structure GA where
  s : List Int
  d : List Int
  arcs : List (Nat × Nat)
def zeros (arcs : List (Nat × Nat)) : List Int := List.replicate arcs.length 0
def cIn (Cl : Addr) (a : { a : GA // a.arcs.length < 100000 }) : Ctr := ⟨[.l 0, .d (.lst (a.1.s.map .int)), .d (.lst (a.1.d.map .int)), .d (.lst (a.1.arcs.map arcD))], [.ins Cl []], fun w Ω => w = .d .non ∧ Ω = netC Cl a.1.s a.1.d a.1.arcs (zeros a.1.arcs)⟩
abbrev sGr : Stmt := inClass sNet 5
abbrev nGr : List Str := ["self", "first", "second", "place"]
theorem scGr : FnScope nGr ["self"] (defScope sGr) := ⟨rfl, rfl, rfl, by decide +kernel, rfl, by decide +kernel, by decide +kernel⟩
theorem hnGr : nGr.Nodup := by decide +kernel
def Opt (a : NA) (fl : List Int) : Prop := ∃ fs sd wt, BI a.s a.d.length a.arcs fl fs sd wt ∧ Closed a.arcs fl fs sd wt ∧ ∀ q ∈ sd.map (·.1), restD a.d a.arcs fl q ≤ 0
def cGr (Cl : Addr) (a : { a : NA // NaOk a ∧ FlowOk a.s a.d a.arcs a.fl }) : Ctr := ⟨[.l 0], netC Cl a.1.s a.1.d a.1.arcs a.1.fl, fun w Ω =>
  (w = .d (.bl true) ∧ ∃ fl, FlowOk a.1.s a.1.d a.1.arcs fl ∧ a.1.fl.sum + 1 ≤ fl.sum ∧ Ω = netC Cl a.1.s a.1.d a.1.arcs fl) ∨
  (w = .d (.bl false) ∧ Opt a.1 a.1.fl ∧ Ω = netC Cl a.1.s a.1.d a.1.arcs a.1.fl)⟩
theorem flat_zeros {n : Nat} : (List.replicate n [Dt.int 0]).flatten = (List.replicate n (0 : Int)).map Dt.int := by
  induction n with
  | zero => rfl
  | succ n ih => rw [List.replicate_succ, List.flatten_cons, ih, List.replicate_succ, List.map_cons]; rfl
section
variable {P : Program} {w : World} {K : PySem.W.Frag} {mg : Str → Option Value} {base : Heap} {qual : Str} {Cl f : Addr} {cdv : Value} {A : Around} {outer : List Env} {s : Shared} {H : Hp} {E : XK}
theorem bodyIn (hm : Free mg) (hc : NetCl K Cl) (a : { a : GA // a.arcs.length < 100000 }) :
    BX (cxOf CX0 P w K mg base nIn qual (defScope sIn) f cdv A outer s H E).nox (cIn Cl a).cs.length (defBody sIn) (startG nIn (cIn Cl a).ws) (cIn Cl a).cs { nx := fun _ Ω' => (cIn Cl a).R (.d .non) Ω', rt := (cIn Cl a).R } := by
  obtain ⟨⟨s', d', arcs⟩, ha⟩ := a
  dsimp only at ha
  have hL : 0 ≤ (((arcs.map arcD).length : Nat) : Int) ∧ (((arcs.map arcD).length : Nat) : Int) < 2 ^ 63 ∧ [Dt.int 0].length * (((arcs.map arcD).length : Nat) : Int).toNat ≤ sizeLine := by
    have := lt1 ha
    rw [List.length_map, Int.toNat_natCast, List.length_singleton]
    omega
  refine bx_cons (sx_fld (n := 0) (fs := []) (Nat.le_refl _) (px_listO (ax_cons (px_var 1) ax_nil) (hm.fr _ (by decide))) (px_var 0) rfl hc.c (hc.n _ (by decide)) (by decide) ?_)
  refine bx_cons (sx_fld (n := 0) (fs := [("supplies", .l 1)]) (Nat.le_of_ble_eq_true rfl) (px_listO (ax_cons (px_var 2) ax_nil) (hm.fr _ (by decide))) (px_var 0) rfl hc.c (hc.n _ (by decide)) (by decide) ?_)
  refine bx_cons (sx_fld (n := 0) (fs := [("supplies", .l 1), ("demands", .l 2)]) (Nat.le_of_ble_eq_true rfl) (px_listO (ax_cons (px_var 3) ax_nil) (hm.fr _ (by decide))) (px_var 0) rfl hc.c (hc.n _ (by decide)) (by decide) ?_)
  refine bx_cons (sx_fld (n := 0) (fs := [("supplies", .l 1), ("demands", .l 2), ("arcs", .l 3)]) (Nat.le_of_ble_eq_true rfl) (px_rep (ds := [.int 0]) (px_lst (ds := [.int 0]) (ax_cons px_int ax_nil)) (px_len (ax_cons (px_var 3) ax_nil) (hm.fr _ (by decide))) hL (EndC.l (fun z => by cases z))) (px_var 0) rfl hc.c (hc.n _ (by decide)) (by decide) (bx_nil ⟨rfl, ?_⟩))
  rw [flat_zeros, List.length_map, Int.toNat_natCast]
  rfl
theorem bodyGr (hm : Free mg) (hc : NetCl K Cl) (hrd : MethOk P w K mg base Cl "rest_of_demand" 1 ["self", "place"] (cRD Cl)) (hre : MethOk P w K mg base Cl "reached" 2 ["self"] (cRe Cl)) (hau : MethOk P w K mg base Cl "augment" 2 ["self", "first", "second", "place"] (cAu Cl))
    (a : { a : NA // NaOk a ∧ FlowOk a.s a.d a.arcs a.fl }) (hr : Room 2 (A.deeper (envOfC qual (defScope sGr) s.heap.objs.size f cdv))) :
    BX (cxOf CX0 P w K mg base nGr qual (defScope sGr) f cdv A outer s H E).nox (cGr Cl a).cs.length (defBody sGr) (startG nGr (cGr Cl a).ws) (cGr Cl a).cs { nx := fun _ Ω' => (cGr Cl a).R (.d .non) Ω', rt := (cGr Cl a).R } := by
  obtain ⟨a, ok, fo⟩ := a
  refine bx_cons (sx_asgR (Nat.le_refl _) (pxr_meth0 hre hr hc.c ⟨a, ok⟩ [0, 1, 2, 3, 4] (px_var 0) (InsOf.l rfl rfl) (netAt (more := []) _ rfl rfl rfl)) (pg_tup (n := 2) rfl (pgs_n 1 hnGr (pgs_n 2 hnGr pgs_nil))) ?_)
  rintro w Ω' ⟨w', Ω0, ⟨fs, sd, wt, bi, cl, rfl, rfl⟩, rfl, rfl⟩
  refine ⟨_, _, gx2 1 2, ?_⟩
  have ep : putC (netC Cl a.s a.d a.arcs a.fl ++ []) [0, 1, 2, 3, 4] ((netC Cl a.s a.d a.arcs a.fl).map (rnO (ren [0, 1, 2, 3, 4] (netC Cl a.s a.d a.arcs a.fl ++ []).length))) = netC Cl a.s a.d a.arcs a.fl ++ [] := netPut
  show BX _ _ _ _ (putC (netC Cl a.s a.d a.arcs a.fl ++ []) [0, 1, 2, 3, 4] ((netC Cl a.s a.d a.arcs a.fl).map (rnO (ren [0, 1, 2, 3, 4] (netC Cl a.s a.d a.arcs a.fl ++ []).length)))) _
  rw [ep, List.append_nil]
  refine bx_cons (sx_forK 2 (fun i Γ Ω => ∃ g, Γ = [some (.l 0), some (.d (.dic (kvD optD fs))), some (.d (.dic (kvD natD sd))), g] ∧ Ω = netC Cl a.s a.d a.arcs a.fl ∧ ∀ j q, j < i → (sd.map (·.1))[j]? = some q → restD a.d a.arcs a.fl q ≤ 0) (fun i x Γ => Γ.set 3 (some (.d (kD x)))) rfl (Nat.le_refl _) ⟨none, rfl, rfl, fun j q h => absurd h (Nat.not_lt_zero _)⟩
    (pn 3 hnGr) (fun _ _ _ _ _ _ => gx_name 3) ?_ ?_ PassesOwn.never)
  · rintro i x Γ' Ω' hx ⟨g, rfl, rfl, hd⟩
    rw [kvD_keys, List.getElem?_map] at hx
    obtain ⟨⟨q, k⟩, eq, rfl⟩ := Option.map_eq_some_iff.mp hx
    have hq : q ∈ sd.map (·.1) := List.mem_map.mpr ⟨_, List.mem_of_getElem? eq, rfl⟩
    refine bx_cons (sx_if (Nat.le_refl _) (tx_gt (px_meth hrd (hr.mono (by decide)) hc.c ⟨⟨a.s, a.d, a.arcs, a.fl, q⟩, bi.ins q hq, ok.ha⟩ [0, 1, 2, 3, 4] (px_var 0) (ax_cons (px_var 3) ax_nil) (InsOf.l rfl rfl) (netAt (more := []) _ rfl rfl rfl) (fun w' Ω' hR => by
      obtain ⟨rfl, rfl⟩ := hR
      exact ⟨rfl, netPut (more := [])⟩)) px_int) (fun hb => ?_) (fun hb => ?_))
    · have hb := of_decide_eq_true hb
      refine bx_cons (sx_exprR (Nat.le_refl _) (pxr_meth hau hr hc.c ⟨⟨a, fs, sd, wt, q⟩, ok, fo, bi, hq, hb⟩ [0, 1, 2, 3, 4] (px_var 0) (ax_cons (px_var 1) (ax_cons (px_var 2) (ax_cons (px_var 3) ax_nil))) (InsOf.l rfl rfl) (netAt (more := []) _ rfl rfl rfl)) ?_)
      rintro w Ω' ⟨w', Ω0, ⟨rfl, fl, fo2, hs, rfl⟩, rfl, rfl⟩
      have ep2 : putC (netC Cl a.s a.d a.arcs a.fl ++ []) [0, 1, 2, 3, 4] ((netC Cl a.s a.d a.arcs fl).map (rnO (ren [0, 1, 2, 3, 4] (netC Cl a.s a.d a.arcs a.fl ++ []).length))) = netC Cl a.s a.d a.arcs fl ++ [] := netPut
      show BX _ _ _ _ (putC (netC Cl a.s a.d a.arcs a.fl ++ []) [0, 1, 2, 3, 4] ((netC Cl a.s a.d a.arcs fl).map (rnO (ren [0, 1, 2, 3, 4] (netC Cl a.s a.d a.arcs a.fl ++ []).length)))) _
      rw [ep2, List.append_nil]
      exact bx_cons (sx_ret (Nat.le_refl _) px_bl (.inl ⟨rfl, fl, fo2, hs, rfl⟩))
    · have hb : restD a.d a.arcs a.fl q ≤ 0 := Int.not_lt.mp (of_decide_eq_false hb)
      refine bx_nil (bx_nil ⟨_, rfl, rfl, fun j q' hj eq' => ?_⟩)
      by_cases e : j = i
      · subst e
        rw [List.getElem?_map, eq] at eq'
        cases eq'
        exact hb
      · exact hd j q' (by omega) eq'
  · rintro Γ' Ω' ⟨g, rfl, rfl, hd⟩
    refine bx_cons (sx_ret (Nat.le_refl _) px_bl (.inr ⟨rfl, ⟨fs, sd, wt, bi, cl, fun q hq => ?_⟩, rfl⟩))
    obtain ⟨j, ej⟩ := List.getElem?_of_mem hq
    have hj := (List.getElem?_eq_some_iff.mp ej).1
    rw [List.length_map] at hj
    exact hd j q (by unfold kvD; rw [List.length_map]; exact hj) ej
end
end K50
namespace K50
open PySem PySem.Spec PyProof.Rows L2 DL

/-! ### cuts bound flows -/
def nearC (arcs : List (Nat × Nat)) (Y : List Nat) (q : Nat) : Bool := arcs.any fun a => decide (a.1 ∈ Y) && decide (a.2 = q)
def cutV (s d : List Int) (arcs : List (Nat × Nat)) (Y : List Nat) : Int :=
  (((List.range s.length).filter fun p => decide (p ∉ Y)).map fun p => s.getD p 0).sum + (((List.range d.length).filter fun q => nearC arcs Y q).map fun q => d.getD q 0).sum
theorem sum_map_add {α : Type} {f g : α → Int} : ∀ l : List α, (l.map fun x => f x + g x).sum = (l.map f).sum + (l.map g).sum
  | [] => rfl
  | a :: l => by rw [List.map_cons, List.sum_cons, sum_map_add l, List.map_cons, List.map_cons, List.sum_cons, List.sum_cons]; omega
theorem sum_map_le {α : Type} {f g : α → Int} : ∀ l : List α, (∀ x ∈ l, f x ≤ g x) → (l.map f).sum ≤ (l.map g).sum
  | [], _ => Int.le_refl _
  | a :: l, h => by
    have := sum_map_le l fun x hx => h x (List.mem_cons_of_mem _ hx)
    have := h a (List.mem_cons_self ..)
    rw [List.map_cons, List.map_cons, List.sum_cons, List.sum_cons]
    omega
theorem sum_map_eq_of_ge {α : Type} {f g : α → Int} : ∀ l : List α, (∀ x ∈ l, f x ≤ g x) → (l.map g).sum ≤ (l.map f).sum → ∀ x ∈ l, f x = g x
  | [], _, _, x, hx => nomatch hx
  | a :: l, h, hs, x, hx => by
    have h1 := sum_map_le l fun x hx => h x (List.mem_cons_of_mem _ hx)
    have h2 := h a (List.mem_cons_self ..)
    rw [List.map_cons, List.map_cons, List.sum_cons, List.sum_cons] at hs
    rcases List.mem_cons.mp hx with rfl | hx
    · omega
    · exact sum_map_eq_of_ge l (fun x hx => h x (List.mem_cons_of_mem _ hx)) (by omega) x hx
theorem sum_map_zero {α : Type} : ∀ l : List α, (l.map fun _ => (0 : Int)).sum = 0
  | [] => rfl
  | a :: l => by rw [List.map_cons, List.sum_cons, sum_map_zero l]; rfl
theorem sum_ite {x : Int} {k : Nat} : ∀ l : List Nat, l.Nodup → (l.map fun p => if k = p then x else 0).sum = if k ∈ l then x else 0
  | [], _ => rfl
  | a :: l, h => by
    obtain ⟨h1, h2⟩ := List.nodup_cons.mp h
    rw [List.map_cons, List.sum_cons, sum_ite l h2]
    by_cases e : k = a
    · subst e
      rw [if_pos rfl, if_neg h1, if_pos (List.mem_cons_self ..)]
      omega
    · rw [if_neg e]
      by_cases m : k ∈ l
      · rw [if_pos m, if_pos (List.mem_cons_of_mem _ m)]; omega
      · rw [if_neg m, if_neg (fun q => (List.mem_cons.mp q).elim e m)]; rfl
/-- arcs counted place by place -/
theorem sum_part {n : Nat} {c : Nat → Bool} {g : Nat × Nat → Nat} : ∀ {arcs : List (Nat × Nat)} {fl : List Int}, (∀ a ∈ arcs, g a < n) → (((List.range n).filter c).map fun p => sumC (fun a => decide (g a = p)) arcs fl).sum = sumC (fun a => c (g a)) arcs fl
  | [], fl, _ => by
    have e : ∀ c, sumC c [] fl = 0 := fun c => by unfold sumC; rw [List.zip_nil_left]; rfl
    simp only [e]
    exact sum_map_zero _
  | a :: arcs, [], _ => by
    have e : ∀ c, sumC c (a :: arcs) [] = 0 := fun c => by unfold sumC; rw [List.zip_nil_right]; rfl
    simp only [e]
    exact sum_map_zero _
  | a :: arcs, x :: fl, h => by
    have ih := sum_part (c := c) (g := g) (arcs := arcs) (fl := fl) fun b hb => h b (List.mem_cons_of_mem _ hb)
    simp only [sumC_cons, decide_eq_true_eq]
    rw [sum_map_add, ih, sum_ite _ (List.nodup_range.filter _)]
    congr 1
    have hr := h a (List.mem_cons_self ..)
    by_cases e : c (g a) = true
    · rw [if_pos e, if_pos (List.mem_filter.mpr ⟨List.mem_range.mpr hr, e⟩)]
    · rw [if_neg e, if_neg (fun m => e (List.mem_filter.mp m).2)]
theorem sumC_nn {c : Nat × Nat → Bool} : ∀ {arcs : List (Nat × Nat)} {fl : List Int}, (∀ k, 0 ≤ fl.getD k 0) → 0 ≤ sumC c arcs fl
  | [], fl, _ => by unfold sumC; rw [List.zip_nil_left]; exact Int.le_refl _
  | a :: arcs, [], _ => by unfold sumC; rw [List.zip_nil_right]; exact Int.le_refl _
  | a :: arcs, x :: fl, h => by
    have h0 : 0 ≤ x := h 0
    have ih := sumC_nn (c := c) (arcs := arcs) (fl := fl) fun k => by have := h (k + 1); rwa [List.getD_cons_succ] at this
    rw [sumC_cons]
    split <;> omega
theorem sumC_split {c e : Nat × Nat → Bool} : ∀ {arcs : List (Nat × Nat)} {fl : List Int}, (∀ a ∈ arcs, c a = true → e a = true) → sumC e arcs fl = sumC c arcs fl + sumC (fun a => e a && !c a) arcs fl
  | [], fl, _ => by unfold sumC; rw [List.zip_nil_left]; rfl
  | a :: arcs, [], _ => by unfold sumC; rw [List.zip_nil_right]; rfl
  | a :: arcs, x :: fl, h => by
    have ih := sumC_split (c := c) (e := e) (arcs := arcs) (fl := fl) fun b hb => h b (List.mem_cons_of_mem _ hb)
    have h0 := h a (List.mem_cons_self ..)
    rw [sumC_cons, sumC_cons, sumC_cons, ih]
    cases hc : c a with
    | true => rw [h0 hc]; simp; omega
    | false => cases e a <;> simp <;> omega
theorem sumC_get {c : Nat × Nat → Bool} : ∀ {arcs : List (Nat × Nat)} {fl : List Int} {k : Nat} {a : Nat × Nat}, (∀ k, 0 ≤ fl.getD k 0) → arcs[k]? = some a → c a = true → fl.getD k 0 ≤ sumC c arcs fl
  | [], fl, k, a, _, h, _ => by simp at h
  | b :: arcs, [], k, a, _, _, _ => by
    unfold sumC
    rw [List.zip_nil_right]
    simp
  | b :: arcs, x :: fl, 0, a, hn, h, hc => by
    simp at h
    subst h
    have ih := sumC_nn (c := c) (arcs := arcs) (fl := fl) fun k => by have := hn (k + 1); rwa [List.getD_cons_succ] at this
    rw [sumC_cons, if_pos hc, List.getD_cons_zero]
    omega
  | b :: arcs, x :: fl, k + 1, a, hn, h, hc => by
    have h0 : 0 ≤ x := hn 0
    have ih := sumC_get (c := c) (arcs := arcs) (fl := fl) (k := k) (a := a) (fun k => by have := hn (k + 1); rwa [List.getD_cons_succ] at this) (by simpa using h) hc
    rw [sumC_cons, List.getD_cons_succ]
    split <;> omega
theorem sumC_zero {c : Nat × Nat → Bool} : ∀ {arcs : List (Nat × Nat)} {fl : List Int}, (∀ k a, arcs[k]? = some a → c a = true → fl.getD k 0 = 0) → sumC c arcs fl = 0
  | [], fl, _ => by unfold sumC; rw [List.zip_nil_left]; rfl
  | a :: arcs, [], _ => by unfold sumC; rw [List.zip_nil_right]; rfl
  | a :: arcs, x :: fl, h => by
    have ih := sumC_zero (c := c) (arcs := arcs) (fl := fl) fun k b e hc => by have := h (k + 1) b (by simpa using e) hc; rwa [List.getD_cons_succ] at this
    have h0 := h 0 a rfl
    rw [List.getD_cons_zero] at h0
    rw [sumC_cons, ih]
    by_cases e : c a = true
    · rw [if_pos e, h0 e]; rfl
    · rw [if_neg e]; rfl
section
variable {s d : List Int} {arcs : List (Nat × Nat)} {fl : List Int} {Y : List Nat} {fs fs2 : List (Nat × Option Nat)} {sd wt sd2 wt2 : List (Nat × Nat)}
theorem near_of {a : Nat × Nat} (h : a ∈ arcs) (hy : a.1 ∈ Y) : nearC arcs Y a.2 = true := List.any_eq_true.mpr ⟨a, h, by simp [hy]⟩
theorem of_near {q : Nat} (h : nearC arcs Y q = true) : ∃ a ∈ arcs, a.1 ∈ Y ∧ a.2 = q := by
  obtain ⟨a, ha, e⟩ := List.any_eq_true.mp h
  rw [Bool.and_eq_true] at e
  exact ⟨a, ha, of_decide_eq_true e.1, of_decide_eq_true e.2⟩
theorem two_parts (ok : ∀ p ∈ arcs, p.1 < s.length ∧ p.2 < d.length) (fo : FlowOk s d arcs fl) (Y : List Nat) :
    fl.sum = (((List.range s.length).filter fun p => decide (p ∉ Y)).map fun p => (usedS arcs fl p).sum).sum + ((((List.range d.length).filter fun q => nearC arcs Y q).map fun q => (usedD arcs fl q).sum).sum - sumC (fun a => nearC arcs Y a.2 && !decide (a.1 ∈ Y)) arcs fl) := by
  have h1 := sum_part (c := fun p => decide (p ∉ Y)) (g := fun a => a.1) (arcs := arcs) (fl := fl) (n := s.length) fun a ha => (ok a ha).1
  have h2 := sum_part (c := fun q => nearC arcs Y q) (g := fun a => a.2) (arcs := arcs) (fl := fl) (n := d.length) fun a ha => (ok a ha).2
  simp only [usedS_sum, usedD_sum]
  rw [h1, h2, ← sumC_true fo.len]
  have h3 := sumC_split (c := fun a : Nat × Nat => decide (a.1 ∉ Y)) (e := fun _ => true) (arcs := arcs) (fl := fl) fun _ _ _ => rfl
  have h4 := sumC_split (c := fun a : Nat × Nat => decide (a.1 ∈ Y)) (e := fun a => nearC arcs Y a.2) (arcs := arcs) (fl := fl) fun a ha h => near_of ha (of_decide_eq_true h)
  have e : (fun a : Nat × Nat => true && !decide (a.1 ∉ Y)) = fun a => decide (a.1 ∈ Y) := by
    funext a
    by_cases h : a.1 ∈ Y <;> simp [h]
  rw [e] at h3
  omega
theorem weak (ok : ∀ p ∈ arcs, p.1 < s.length ∧ p.2 < d.length) (fo : FlowOk s d arcs fl) (Y : List Nat) : fl.sum ≤ cutV s d arcs Y := by
  have h := two_parts ok fo Y
  have h0 := sumC_nn (c := fun a => nearC arcs Y a.2 && !decide (a.1 ∈ Y)) (arcs := arcs) fo.nn
  have h1 := sum_map_le (f := fun p => (usedS arcs fl p).sum) (g := fun p => s.getD p 0) ((List.range s.length).filter fun p => decide (p ∉ Y)) fun p hp => by
    have := fo.oS p (List.mem_range.mp (List.mem_filter.mp hp).1)
    unfold restS at this
    omega
  have h2 := sum_map_le (f := fun p => (usedD arcs fl p).sum) (g := fun p => d.getD p 0) ((List.range d.length).filter fun q => nearC arcs Y q) fun p hp => by
    have := fo.oD p (List.mem_range.mp (List.mem_filter.mp hp).1)
    unfold restD at this
    omega
  unfold cutV
  omega
/-- a cut that is met holds all that a search finds -/
theorem tight (ok : ∀ p ∈ arcs, p.1 < s.length ∧ p.2 < d.length) (fo : FlowOk s d arcs fl) (bi : BI s d.length arcs fl fs sd wt) (Y : List Nat) (e : cutV s d arcs Y ≤ fl.sum) : ∀ p ∈ fs.map (·.1), p ∈ Y := by
  have h := two_parts ok fo Y
  have h0 := sumC_nn (c := fun a => nearC arcs Y a.2 && !decide (a.1 ∈ Y)) (arcs := arcs) fo.nn
  have l1 : ∀ p ∈ (List.range s.length).filter fun p => decide (p ∉ Y), (usedS arcs fl p).sum ≤ s.getD p 0 := fun p hp => by
    have := fo.oS p (List.mem_range.mp (List.mem_filter.mp hp).1)
    unfold restS at this
    omega
  have l2 : ∀ p ∈ (List.range d.length).filter fun q => nearC arcs Y q, (usedD arcs fl p).sum ≤ d.getD p 0 := fun p hp => by
    have := fo.oD p (List.mem_range.mp (List.mem_filter.mp hp).1)
    unfold restD at this
    omega
  have h1 := sum_map_le _ l1
  have h2 := sum_map_le _ l2
  unfold cutV at e
  have z1 := sum_map_eq_of_ge _ l1 (by omega)
  have z0 : sumC (fun a => nearC arcs Y a.2 && !decide (a.1 ∈ Y)) arcs fl = 0 := by omega
  have key : ∀ (i : Nat), ∀ x, wt[i]? = some x → (x.1 = 0 → x.2 ∈ Y) ∧ (x.1 = 1 → nearC arcs Y x.2 = true) := by
    intro i
    induction i using Nat.strongRecOn with
    | ind i ih =>
      rintro ⟨sx, px⟩ ex
      refine ⟨fun h0' => ?_, fun h1' => ?_⟩
      · dsimp only at h0'
        subst h0'
        have hp := (bi.wf px).mp (List.mem_of_getElem? ex)
        obtain ⟨o, eo, mo⟩ := lookup_ex hp
        have hlt := bi.inf px hp
        by_cases hy : px ∈ Y
        · exact hy
        · exfalso
          cases o with
          | none =>
            have q := bi.pf0 px mo
            have q2 := z1 px (List.mem_filter.mpr ⟨List.mem_range.mpr hlt, decide_eq_true hy⟩)
            unfold restS at q
            omega
          | some k =>
            obtain ⟨arc, ea, e1, hf, j, i2, hji, ej, ei⟩ := bi.pf1 px k mo
            have : i2 = i := nodup_idx bi.wnd ei ex
            subst this
            have hn := (ih j hji _ ej).2 rfl
            have g := sumC_get (c := fun a => nearC arcs Y a.2 && !decide (a.1 ∈ Y)) fo.nn ea (by
              rw [Bool.and_eq_true]
              exact ⟨hn, by rw [e1]; simp [hy]⟩)
            omega
      · dsimp only at h1'
        subst h1'
        have hq := (bi.ws px).mp (List.mem_of_getElem? ex)
        obtain ⟨k, ek, mk⟩ := lookup_ex hq
        obtain ⟨arc, ea, e2, j, i2, hji, ej, ei⟩ := bi.ps px k mk
        have : i2 = i := nodup_idx bi.wnd ei ex
        subst this
        have hy := (ih j hji _ ej).1 rfl
        have := near_of (List.mem_of_getElem? ea) hy
        rw [e2] at this
        exact this
  intro p hp
  obtain ⟨i, ei⟩ := List.getElem?_of_mem ((bi.wf p).mpr hp)
  exact (key i _ ei).1 rfl
/-- two searches find the same -/
theorem same_found (bi : BI s d.length arcs fl fs sd wt) (cl : Closed arcs fl fs sd wt) (bi2 : BI s d.length arcs fl fs2 sd2 wt2) : ∀ q ∈ sd2.map (·.1), q ∈ sd.map (·.1) := by
  have key : ∀ (i : Nat), ∀ x, wt2[i]? = some x → (x.1 = 0 → x.2 ∈ fs.map (·.1)) ∧ (x.1 = 1 → x.2 ∈ sd.map (·.1)) := by
    intro i
    induction i using Nat.strongRecOn with
    | ind i ih =>
      rintro ⟨sx, px⟩ ex
      refine ⟨fun h0' => ?_, fun h1' => ?_⟩
      · dsimp only at h0'
        subst h0'
        have hp := (bi2.wf px).mp (List.mem_of_getElem? ex)
        obtain ⟨o, eo, mo⟩ := lookup_ex hp
        cases o with
        | none => exact bi.src px (bi2.inf px hp) (bi2.pf0 px mo)
        | some k =>
          obtain ⟨arc, ea, e1, hf, j, i2, hji, ej, ei⟩ := bi2.pf1 px k mo
          have : i2 = i := nodup_idx bi2.wnd ei ex
          subst this
          have hn := (ih j hji _ ej).2 rfl
          have := (cl _ ((bi.ws _).mpr hn) k arc (List.getElem?_eq_some_iff.mp ea).1 ea).2 rfl rfl hf
          rw [e1] at this
          exact this
      · dsimp only at h1'
        subst h1'
        have hq := (bi2.ws px).mp (List.mem_of_getElem? ex)
        obtain ⟨k, ek, mk⟩ := lookup_ex hq
        obtain ⟨arc, ea, e2, j, i2, hji, ej, ei⟩ := bi2.ps px k mk
        have : i2 = i := nodup_idx bi2.wnd ei ex
        subst this
        have hy := (ih j hji _ ej).1 rfl
        have := (cl _ ((bi.wf _).mpr hy) k arc (List.getElem?_eq_some_iff.mp ea).1 ea).1 rfl rfl
        rw [e2] at this
        exact this
  intro q hq
  obtain ⟨i, ei⟩ := List.getElem?_of_mem ((bi2.ws q).mpr hq)
  exact (key i _ ei).2 rfl
/-- where nothing grows, what is found is a cut that is met -/
theorem strong (ok : ∀ p ∈ arcs, p.1 < s.length ∧ p.2 < d.length) (fo : FlowOk s d arcs fl) (bi : BI s d.length arcs fl fs sd wt) (cl : Closed arcs fl fs sd wt) (he : ∀ q ∈ sd.map (·.1), restD d arcs fl q ≤ 0) (Y : List Nat) (hY : ∀ p, p ∈ Y ↔ p ∈ fs.map (·.1)) : cutV s d arcs Y ≤ fl.sum := by
  have h := two_parts ok fo Y
  have nsd : ∀ q, nearC arcs Y q = true → q ∈ sd.map (·.1) := fun q hq => by
    obtain ⟨a, ha, h1, rfl⟩ := of_near hq
    obtain ⟨k, ek⟩ := List.getElem?_of_mem ha
    exact (cl _ ((bi.wf _).mpr ((hY _).mp h1)) k a (List.getElem?_eq_some_iff.mp ek).1 ek).1 rfl rfl
  have z0 : sumC (fun a => nearC arcs Y a.2 && !decide (a.1 ∈ Y)) arcs fl = 0 := sumC_zero fun k a ea hc => by
    rw [Bool.and_eq_true] at hc
    have hq := nsd a.2 hc.1
    have hn : a.1 ∉ Y := by simpa using hc.2
    rcases Int.lt_or_le 0 (fl.getD k 0) with g | g
    · exact absurd ((hY _).mpr ((cl _ ((bi.ws _).mpr hq) k a (List.getElem?_eq_some_iff.mp ea).1 ea).2 rfl rfl g)) hn
    · have := fo.nn k
      omega
  have h1 := sum_map_le (f := fun p => s.getD p 0) (g := fun p => (usedS arcs fl p).sum) ((List.range s.length).filter fun p => decide (p ∉ Y)) fun p hp => by
    obtain ⟨m1, m2⟩ := List.mem_filter.mp hp
    rcases Int.lt_or_le 0 (restS s arcs fl p) with g | g
    · exact absurd ((hY _).mpr (bi.src p (List.mem_range.mp m1) g)) (of_decide_eq_true m2)
    · unfold restS at g
      omega
  have h2 := sum_map_le (f := fun p => d.getD p 0) (g := fun p => (usedD arcs fl p).sum) ((List.range d.length).filter fun q => nearC arcs Y q) fun p hp => by
    have := he p (nsd p (List.mem_filter.mp hp).2)
    unfold restD at this
    omega
  unfold cutV
  omega
end
end K50
namespace K50
open PySem PySem.Spec PyProof.Rows L2 DL
abbrev sGf : Stmt := topS 2
abbrev nGf : List Str := ["supplies", "demands", "arcs", "network", "growing", "first", "second"]
theorem scGf : FnScope nGf ["supplies", "demands", "arcs"] (defScope sGf) := ⟨rfl, rfl, rfl, by decide +kernel, rfl, by decide +kernel, by decide +kernel⟩
theorem hnGf : nGf.Nodup := by decide +kernel
structure GAOk (a : GA) : Prop where
  hs : a.s.length < 64
  hd : a.d.length < 64
  ha : a.arcs.length < 100000
  hin : ∀ p ∈ a.arcs, p.1 < a.s.length ∧ p.2 < a.d.length
  ns : ∀ p, 0 ≤ a.s.getD p 0
  nd : ∀ p, 0 ≤ a.d.getD p 0
structure GfOk (s d : List Int) (arcs : List (Nat × Nat)) (fl : List Int) (zs : List Nat) : Prop where
  fo : FlowOk s d arcs fl
  met : cutV s d arcs zs ≤ fl.sum
  least : ∀ Y, cutV s d arcs Y ≤ fl.sum → ∀ p ∈ zs, p ∈ Y
  asc : zs.Pairwise (· < ·)
  rng : ∀ p ∈ zs, p < s.length
def cGf (a : { a : GA // GAOk a }) : Ctr := ⟨[.d (.lst (a.1.s.map .int)), .d (.lst (a.1.d.map .int)), .d (.lst (a.1.arcs.map arcD))], [], fun w Ω => Ω = [] ∧ ∃ fl zs, GfOk a.1.s a.1.d a.1.arcs fl zs ∧ w = .d (.tup [.int fl.sum, .lst (fl.map .int), .lst (zs.map natD)])⟩
theorem zeros_get {arcs : List (Nat × Nat)} (k : Nat) : (zeros arcs).getD k 0 = 0 := by
  unfold zeros
  rw [List.getD_eq_getElem?_getD, List.getElem?_replicate]
  split <;> rfl
theorem zeros_ok {a : GA} (ok : GAOk a) : FlowOk a.s a.d a.arcs (zeros a.arcs) where
  len := List.length_replicate
  nn := fun k => by rw [zeros_get]; exact Int.le_refl _
  oS := fun p _ => by
    unfold restS
    rw [usedS_sum, sumC_zero fun k a _ _ => zeros_get k]
    have := ok.ns p
    omega
  oD := fun p _ => by
    unfold restD
    rw [usedD_sum, sumC_zero fun k a _ _ => zeros_get k]
    have := ok.nd p
    omega
theorem GAOk.na {a : GA} (ok : GAOk a) {fl : List Int} (fo : FlowOk a.s a.d a.arcs fl) : NaOk ⟨a.s, a.d, a.arcs, fl⟩ where
  hs := by have := ok.hs; show a.s.length ≤ 1000; omega
  hd := by have := ok.hd; show a.d.length ≤ 1000; omega
  ha := ok.ha
  hf := fo.len
  hin := ok.hin
/-- the keys of what is found, ascending -/
def ascN (l : List Nat) : List Nat := l.mergeSort fun a b => decide (a ≤ b)
theorem ascN_perm (l : List Nat) : (ascN l).Perm l := List.mergeSort_perm l _
theorem ascN_le (l : List Nat) : (ascN l).Pairwise (· ≤ ·) := by
  have h := List.pairwise_mergeSort (le := fun a b : Nat => decide (a ≤ b)) (fun a b c h1 h2 => by simp at *; omega) (fun a b => by simp; omega) l
  exact h.imp fun h => of_decide_eq_true h
theorem ascN_lt {l : List Nat} (h : l.Nodup) : (ascN l).Pairwise (· < ·) := by
  have h1 := ascN_le l
  have h2 : (ascN l).Nodup := (ascN_perm l).nodup_iff.mpr h
  exact (h1.and h2).imp fun ⟨a, b⟩ => Nat.lt_of_le_of_ne a b
def gfI (Cl : Addr) (a : GA) (m : Nat) (Γ : Gm) (Ω : Om) : Prop := ∃ (fl : List Int) (b : Bool), FlowOk a.s a.d a.arcs fl ∧ Γ = [some (.d (.lst (a.s.map .int))), some (.d (.lst (a.d.map .int))), some (.d (.lst (a.arcs.map arcD))), some (.l 0), some (.d (.bl b)), none, none] ∧ Ω = netC Cl a.s a.d a.arcs fl ∧
  ((b = true ∧ m = (cutV a.s a.d a.arcs [] - fl.sum).toNat + 1) ∨ (b = false ∧ m = 0 ∧ Opt ⟨a.s, a.d, a.arcs, fl⟩ fl))
theorem makeAt {Cl : Addr} {a : { a : GA // a.arcs.length < 100000 }} : CallAt (cIn Cl a) (([] : Om).length :: []) (([] : Om) ++ [OD.ins Cl []]) (W.l ([] : Om).length :: [.d (.lst (a.1.s.map .int)), .d (.lst (a.1.d.map .int)), .d (.lst (a.1.arcs.map arcD))]) :=
  ⟨rfl, by decide, rfl, rfl, rfl, fun j n h => match j, h with
    | 0, h => by cases h; rfl
    | j + 1, h => by simp at h⟩
section
variable {P : Program} {w : World} {K : PySem.W.Frag} {mg : Str → Option Value} {base : Heap} {qual : Str} {Cl f : Addr} {cdv : Value} {A : Around} {outer : List Env} {s : Shared} {H : Hp} {E : XK}
theorem bodyGf (hm : Free mg) (hc : NetCl K Cl) (hin : MakeOk P w K mg base "Network" Cl 1 ["self", "supplies", "demands", "arcs"] (cIn Cl)) (hre : MethOk P w K mg base Cl "reached" 2 ["self"] (cRe Cl)) (hgr : MethOk P w K mg base Cl "grow" 3 ["self"] (cGr Cl))
    (a : { a : GA // GAOk a }) (hr : Room 3 (A.deeper (envOfC qual (defScope sGf) s.heap.objs.size f cdv))) :
    BX (cxOf CX0 P w K mg base nGf qual (defScope sGf) f cdv A outer s H E).nox (cGf a).cs.length (defBody sGf) (startG nGf (cGf a).ws) (cGf a).cs { nx := fun _ Ω' => (cGf a).R (.d .non) Ω', rt := (cGf a).R } := by
  obtain ⟨a, ok⟩ := a
  refine bx_cons (sx_asg (Nat.le_refl _) (px_make hin (hr.mono (by decide)) ⟨a, ok.ha⟩ [] (ax_cons (px_var 0) (ax_cons (px_var 1) (ax_cons (px_var 2) ax_nil))) makeAt (fun w' Ω' hR => ⟨hR.1, by rw [hR.2]; try rfl⟩) (fun n hn => by
    simp only [List.mem_cons, List.not_mem_nil, or_false] at hn
    rcases hn with rfl | rfl | rfl <;> rfl)) (pn 3 hnGf) (gx_name 3) ?_)
  change BX _ _ _ _ (netC Cl a.s a.d a.arcs (zeros a.arcs)) _
  refine bx_cons (sx_asg (Nat.zero_le _) px_bl (pn 4 hnGf) (gx_name 4) ?_)
  refine bx_mid (fun Γ Ω => ∃ fl, FlowOk a.s a.d a.arcs fl ∧ Opt ⟨a.s, a.d, a.arcs, fl⟩ fl ∧ Γ = [some (.d (.lst (a.s.map .int))), some (.d (.lst (a.d.map .int))), some (.d (.lst (a.arcs.map arcD))), some (.l 0), some (.d (.bl false)), none, none] ∧ Ω = netC Cl a.s a.d a.arcs fl)
    (sx_whileE (gfI Cl a) ((cutV a.s a.d a.arcs [] - (zeros a.arcs).sum).toNat + 1) ⟨_, true, zeros_ok ok, rfl, rfl, .inl ⟨rfl, rfl⟩⟩ ?_ ?_ PassesOwn.never (Nat.zero_le _)) ?_
  · rintro m Γ' Ω' ⟨fl, b, fo, rfl, rfl, _⟩
    exact Nat.le_refl _
  · rintro m Γ' Ω' ⟨fl, b, fo, rfl, rfl, h⟩
    refine ⟨b, _, tx_val (px_var 4), fun hb => ?_, fun hb => ?_⟩
    · rcases h with ⟨_, rfl⟩ | ⟨h, _⟩
      · refine bx_cons (sx_asgR (Nat.le_refl _) (pxr_meth0 hgr hr hc.c ⟨⟨a.s, a.d, a.arcs, fl⟩, ok.na fo, fo⟩ [0, 1, 2, 3, 4] (px_var 3) (InsOf.l rfl rfl) (netAt (more := []) _ rfl rfl rfl)) (pn 4 hnGf) ?_)
        rintro w Ω' ⟨w', Ω0, hR, rfl, rfl⟩
        have ep : ∀ fl2, putC (netC Cl a.s a.d a.arcs fl ++ []) [0, 1, 2, 3, 4] ((netC Cl a.s a.d a.arcs fl2).map (rnO (ren [0, 1, 2, 3, 4] (netC Cl a.s a.d a.arcs fl ++ []).length))) = netC Cl a.s a.d a.arcs fl2 := fun fl2 => by
          rw [netPut, List.append_nil]
        have w0 := weak ok.hin fo []
        rcases hR with ⟨rfl, fl2, fo2, hs, rfl⟩ | ⟨rfl, op, rfl⟩
        · refine ⟨_, _, gx_name 4, bx_nil ⟨_, ?_, fl2, true, fo2, rfl, ep fl2, .inl ⟨rfl, rfl⟩⟩⟩
          have w2 := weak ok.hin fo2 []
          have hs : fl.sum + 1 ≤ fl2.sum := hs
          omega
        · exact ⟨_, _, gx_name 4, bx_nil ⟨0, by omega, fl, false, fo, rfl, ep fl, .inr ⟨rfl, rfl, op⟩⟩⟩
      · rw [hb] at h; cases h
    · rcases h with ⟨h, _⟩ | ⟨rfl, _, op⟩
      · rw [hb] at h; cases h
      · exact ⟨fl, fo, op, rfl, rfl⟩
  · rintro Γ' Ω' ⟨fl, fo, ⟨fs, sd, wt, bi, cl, he⟩, rfl, rfl⟩
    refine bx_cons (sx_asgR (Nat.zero_le _) (pxr_meth0 hre (hr.mono (by decide)) hc.c ⟨⟨a.s, a.d, a.arcs, fl⟩, ok.na fo⟩ [0, 1, 2, 3, 4] (px_var 3) (InsOf.l rfl rfl) (netAt (more := []) _ rfl rfl rfl)) (pg_tup (n := 2) rfl (pgs_n 5 hnGf (pgs_n 6 hnGf pgs_nil))) ?_)
    rintro w Ω' ⟨w', Ω0, ⟨fs2, sd2, wt2, bi2, cl2, rfl, rfl⟩, rfl, rfl⟩
    refine ⟨_, _, gx2 5 6, ?_⟩
    have ep : putC (netC Cl a.s a.d a.arcs fl ++ []) [0, 1, 2, 3, 4] ((netC Cl a.s a.d a.arcs fl).map (rnO (ren [0, 1, 2, 3, 4] (netC Cl a.s a.d a.arcs fl ++ []).length))) = netC Cl a.s a.d a.arcs fl := by rw [netPut, List.append_nil]
    show BX _ _ _ _ (putC (netC Cl a.s a.d a.arcs fl ++ []) [0, 1, 2, 3, 4] ((netC Cl a.s a.d a.arcs fl).map (rnO (ren [0, 1, 2, 3, 4] (netC Cl a.s a.d a.arcs fl ++ []).length)))) _
    rw [ep]
    have hp := ascN_perm (fs2.map (·.1))
    have he2 : ∀ q ∈ sd2.map (·.1), restD a.d a.arcs fl q ≤ 0 := fun q hq => he q (same_found bi cl bi2 q hq)
    have hY : ∀ p, p ∈ ascN (fs2.map (·.1)) ↔ p ∈ fs2.map (·.1) := fun p => hp.mem_iff
    have hlen : (fs2.map (·.1)).length ≤ a.s.length := len_le _ _ bi2.kf bi2.inf
    refine bx_cons (sx_retD (x := .tup [.int fl.sum, .lst (fl.map .int), .lst (((ascN (fs2.map (·.1))).map fun p => ((p : Nat) : Int)).map .int)]) (Ω2 := []) (Nat.zero_le _) (px_tup (ds := [.int fl.sum, .lst (fl.map .int), .lst (((ascN (fs2.map (·.1))).map fun p => ((p : Nat) : Int)).map .int)])
      (ax_cons (px_sum rfl (ax_cons (px_fld (px_var 3) hc.c (hc.n _ (by decide))) ax_nil) (hm.fr _ (by decide)) rfl) (ax_cons (px_list (ax_cons (px_fld (px_var 3) hc.c (hc.n _ (by decide))) ax_nil) (hm.fr _ (by decide)))
        (ax_cons (px_sortDI (ks := (fs2.map (·.1)).map fun p => ((p : Nat) : Int)) rfl (ax_cons (px_var 5) ax_nil) (hm.fr _ (by decide)) ?_ ?_ (hp.map _) ?_) ax_nil)))) .trunc ⟨rfl, fl, ascN (fs2.map (·.1)), ⟨fo, strong ok.hin fo bi2 cl2 he2 _ hY, fun Y h p hp' => tight ok.hin fo bi2 Y h p ((hY p).mp hp'), ascN_lt bi2.kf, fun p hp' => bi2.inf p ((hY p).mp hp')⟩, ?_⟩)
    · rw [kvD_keys, List.map_map, List.map_map]; rfl
    · rw [List.length_map]; have := ok.hs; omega
    · exact List.Pairwise.map _ (fun a b h => by omega) (ascN_le _)
    · rw [List.map_map]; rfl
end
end K50
namespace K50
open PySem PySem.Spec PyProof.Rows L2 DL
abbrev sIf : Stmt := topS 3
abbrev nIf : List Str := ["supplies", "demands", "arcs", "flow", "network", "amount", "place"]
theorem scIf : FnScope nIf ["supplies", "demands", "arcs", "flow"] (defScope sIf) := ⟨rfl, rfl, rfl, by decide +kernel, rfl, by decide +kernel, by decide +kernel⟩
theorem hnIf : nIf.Nodup := by decide +kernel
abbrev sCb : Stmt := topS 4
abbrev nCb : List Str := ["supplies", "demands", "arcs", "cut", "joined", "outside", "arc", "place", "supply"]
theorem scCb : FnScope nCb ["supplies", "demands", "arcs", "cut"] (defScope sCb) := ⟨rfl, rfl, rfl, by decide +kernel, rfl, by decide +kernel, by decide +kernel⟩
theorem hnCb : nCb.Nodup := by decide +kernel
/-- is_flow's answer -/
def isFl (s d : List Int) (arcs : List (Nat × Nat)) (fl : List Int) : Bool :=
  decide (fl.length = arcs.length) && fl.all (fun x => decide (0 ≤ x)) && (List.range s.length).all (fun p => decide (0 ≤ restS s arcs fl p)) && (List.range d.length).all fun q => decide (0 ≤ restD d arcs fl q)
structure IA where
  a : GA
  fl : List Int
structure IAOk (x : IA) : Prop where
  ok : GAOk x.a
  hl : x.fl.length < 100000
def cIf (x : { x : IA // IAOk x }) : Ctr := ⟨[.d (.lst (x.1.a.s.map .int)), .d (.lst (x.1.a.d.map .int)), .d (.lst (x.1.a.arcs.map arcD)), .d (.lst (x.1.fl.map .int))], [], fun w Ω => w = .d (.bl (isFl x.1.a.s x.1.a.d x.1.a.arcs x.1.fl)) ∧ Ω = []⟩
def net5 (Cl : Addr) (s d : List Int) (arcs : List (Nat × Nat)) (z fl : List Int) : Om :=
  [.ins Cl [("supplies", .l 1), ("demands", .l 2), ("arcs", .l 3), ("flow", .l 5)], .ls (s.map .int), .ls (d.map .int), .ls (arcs.map arcD), .ls (z.map .int), .ls (fl.map .int)]
theorem net5Put {Cl : Addr} {s d : List Int} {arcs : List (Nat × Nat)} {z fl : List Int} : putC (net5 Cl s d arcs z fl) [0, 1, 2, 3, 5] ((netC Cl s d arcs fl).map (rnO (ren [0, 1, 2, 3, 5] (net5 Cl s d arcs z fl).length))) = net5 Cl s d arcs z fl := by
  show net5 Cl s d arcs z fl ++ [] = _
  exact List.append_nil _
theorem net5AtS {Cl : Addr} {z : List Int} {a : { a : RA // a.p < a.s.length ∧ a.arcs.length < 100000 }} : CallAt (cRS Cl a) [0, 1, 2, 3, 5] (net5 Cl a.1.s a.1.d a.1.arcs z a.1.fl) [.l 0, .d (.int (a.1.p : Nat))] :=
  ⟨rfl, by decide, rfl, rfl, rfl, fun j n h => match j, h with
    | 0, h => by cases h; rfl
    | 1, h => by cases h; rfl
    | 2, h => by cases h; rfl
    | 3, h => by cases h; rfl
    | 4, h => by cases h; rfl
    | j + 5, h => by simp at h⟩
theorem net5AtD {Cl : Addr} {z : List Int} {a : { a : RA // a.p < a.d.length ∧ a.arcs.length < 100000 }} : CallAt (cRD Cl a) [0, 1, 2, 3, 5] (net5 Cl a.1.s a.1.d a.1.arcs z a.1.fl) [.l 0, .d (.int (a.1.p : Nat))] :=
  ⟨rfl, by decide, rfl, rfl, rfl, fun j n h => match j, h with
    | 0, h => by cases h; rfl
    | 1, h => by cases h; rfl
    | 2, h => by cases h; rfl
    | 3, h => by cases h; rfl
    | 4, h => by cases h; rfl
    | j + 5, h => by simp at h⟩
theorem all_any {α : Type} {l : List α} {c : α → Bool} : ((l.map fun x => !c x).any id) = !l.all c := by
  induction l with
  | nil => rfl
  | cons a l ih => rw [List.map_cons, List.any_cons, ih, List.all_cons, Bool.not_and]; rfl
theorem all_id {α : Type} {l : List α} {c : α → Bool} : ((l.map c).all id) = l.all c := by
  rw [List.all_map]; rfl
theorem neg_ge {i : Int} : decide (i < 0) = !decide (0 ≤ i) := by
  by_cases h : 0 ≤ i
  · rw [decide_eq_true h, decide_eq_false (by omega)]; rfl
  · rw [decide_eq_false h, decide_eq_true (by omega)]; rfl
section
variable {P : Program} {w : World} {K : PySem.W.Frag} {mg : Str → Option Value} {base : Heap} {qual : Str} {Cl f : Addr} {cdv : Value} {A : Around} {outer : List Env} {s : Shared} {H : Hp} {E : XK}
theorem filt_true {α : Type} {l : List α} : l.filter (fun _ => true) = l := List.filter_eq_self.mpr fun _ _ => rfl
theorem bodyIf (hm : Free mg) (hc : NetCl K Cl) (hin : MakeOk P w K mg base "Network" Cl 1 ["self", "supplies", "demands", "arcs"] (cIn Cl)) (hrs : MethOk P w K mg base Cl "rest_of_supply" 1 ["self", "place"] (cRS Cl)) (hrd : MethOk P w K mg base Cl "rest_of_demand" 1 ["self", "place"] (cRD Cl))
    (x : { x : IA // IAOk x }) (hr : Room 2 (A.deeper (envOfC qual (defScope sIf) s.heap.objs.size f cdv))) :
    BX (cxOf CX0 P w K mg base nIf qual (defScope sIf) f cdv A outer s H E).nox (cIf x).cs.length (defBody sIf) (startG nIf (cIf x).ws) (cIf x).cs { nx := fun _ Ω' => (cIf x).R (.d .non) Ω', rt := (cIf x).R } := by
  obtain ⟨⟨a, fl⟩, ok, hl⟩ := x
  dsimp only at ok hl
  have hru : ∀ n : List Int, n.length < 64 → -(2 ^ 62) ≤ (((n.map Dt.int).length : Nat) : Int) ∧ (((n.map Dt.int).length : Nat) : Int) < 2 ^ 62 := fun n h => by rw [List.length_map]; omega
  refine bx_cons (sx_if (Nat.le_refl _) (tx_or (tx_ne (px_len (ax_cons (px_var 3) ax_nil) (hm.fr _ (by decide))) (px_len (ax_cons (px_var 2) ax_nil) (hm.fr _ (by decide)))) (fun _ => tx_or1 (tx_val (px_any (hx := LsOf.d) rfl (bs := fl.map fun x => decide (x < 0)) (ax_cons
    (px_lc fl (fun x => .d (.int x)) (fun x => [some (.d (.lst (a.s.map .int))), some (.d (.lst (a.d.map .int))), some (.d (.lst (a.arcs.map arcD))), some (.d (.lst (fl.map .int))), none, some (.d (.int x)), none]) (fun _ => true) (fun x => .bl (decide (x < 0))) rfl hnIf (ix_ls (px_var 3) .d) (blkOk_by (N := nIf) (sc := defScope sIf) (own := [("amount", 5)]) (by decide +kernel)) (by rw [List.map_map]; rfl) (fun _ z => nomatch z) (lt1 hl)
      (fun _ _ _ _ _ => pn 5 hnIf) (fun x _ => gx_name 5) (by decide) (fun _ _ _ _ _ _ _ => tsx_nil) (fun x _ _ _ _ _ _ _ => px_lt (px_var 5) px_int)) ax_nil) (hm.fr _ (by decide)) (by rw [filt_true, List.map_map]; rfl))))).tx (fun hb => ?_) (fun hb => ?_))
  · refine bx_cons (sx_ret (Nat.le_refl _) px_bl ⟨?_, rfl⟩)
    rw [List.length_map, List.length_map] at hb
    simp only [neg_ge] at hb
    rw [all_any] at hb
    show W.d (.bl false) = W.d (.bl (isFl _ _ _ _))
    congr 2
    unfold isFl
    rcases Bool.or_eq_true_iff.mp hb with h | h
    · have : ¬ fl.length = a.arcs.length := fun e => by
        rw [e] at h
        have : Dt.scEq (.int (a.arcs.length : Nat)) (.int (a.arcs.length : Nat)) = true := decide_eq_true rfl
        rw [this] at h
        cases h
      rw [decide_eq_false this]
      simp
    · have : fl.all (fun x => decide (0 ≤ x)) = false := by simpa using h
      rw [this]
      simp
  · rw [List.length_map, List.length_map] at hb
    simp only [neg_ge] at hb
    rw [all_any] at hb
    obtain ⟨h1, h2⟩ := Bool.or_eq_false_iff.mp hb
    have e1 : decide (fl.length = a.arcs.length) = true := decide_eq_true (by
      have h3 : Dt.scEq (.int (fl.length : Nat)) (.int (a.arcs.length : Nat)) = true := by simpa using h1
      have h4 : ((fl.length : Nat) : Int) = (a.arcs.length : Nat) := of_decide_eq_true h3
      omega)
    have e2 : fl.all (fun x => decide (0 ≤ x)) = true := by simpa using h2
    refine bx_nil ?_
    refine bx_cons (sx_asg (Nat.le_refl _) (px_make hin hr ⟨a, ok.ha⟩ [] (ax_cons (px_var 0) (ax_cons (px_var 1) (ax_cons (px_var 2) ax_nil))) makeAt (fun w' Ω' hR => ⟨hR.1, by rw [hR.2]; try rfl⟩) (fun n hn => by
      simp only [List.mem_cons, List.not_mem_nil, or_false] at hn
      rcases hn with rfl | rfl | rfl <;> rfl)) (pn 4 hnIf) (gx_name 4) ?_)
    change BX _ _ _ _ (netC Cl a.s a.d a.arcs (zeros a.arcs)) _
    refine bx_cons (sx_fld (n := 0) (fs := [("supplies", .l 1), ("demands", .l 2), ("arcs", .l 3), ("flow", .l 4)]) (Nat.zero_le _) (px_listO (ax_cons (px_var 3) ax_nil) (hm.fr _ (by decide))) (px_var 4) rfl hc.c (hc.n _ (by decide)) (by decide) ?_)
    change BX _ _ _ _ (net5 Cl a.s a.d a.arcs (zeros a.arcs) fl) _
    refine bx_cons (sx_if (Nat.zero_le _) (tx_val (px_any (hx := LsOf.d) rfl (bs := (List.range a.s.length).map fun p => decide (restS a.s a.arcs fl p < 0)) (ax_cons
      (px_lc (List.range a.s.length) (fun p => .d (.int (p : Nat))) (fun p => [some (.d (.lst (a.s.map .int))), some (.d (.lst (a.d.map .int))), some (.d (.lst (a.arcs.map arcD))), some (.d (.lst (fl.map .int))), some (.l 0), none, some (.d (.int (p : Nat)))]) (fun _ => true) (fun p => .bl (decide (restS a.s a.arcs fl p < 0))) rfl hnIf (ix_range (ax_cons (px_len (ax_cons (px_var 0) ax_nil) (hm.fr _ (by decide))) ax_nil) (hm.fr _ (by decide)) (hru a.s ok.hs)) (blkOk_by (N := nIf) (sc := defScope sIf) (own := [("place", 6)]) (by decide +kernel)) (by rw [List.length_map]; simp) (fun _ z => nomatch z) (by rw [List.length_range]; exact lt1 (by have := ok.hs; omega))
        (fun _ _ _ _ _ => pn 6 hnIf) (fun x _ => gx_name 6) (by decide) (fun _ _ _ _ _ _ _ => tsx_nil) (fun p hp _ _ _ _ _ _ => px_lt (px_meth hrs (hr.mono (by decide)) hc.c ⟨⟨a.s, a.d, a.arcs, fl, p⟩, List.mem_range.mp hp, ok.ha⟩ [0, 1, 2, 3, 5] (px_var 4) (ax_cons (px_var 6) ax_nil) (InsOf.l rfl rfl) net5AtS (fun w' Ω' hR => by
          obtain ⟨rfl, rfl⟩ := hR
          exact ⟨rfl, net5Put⟩)) px_int)) ax_nil) (hm.fr _ (by decide)) (by rw [filt_true, List.map_map]; rfl))) (fun hb => ?_) (fun hb => ?_))
    · simp only [neg_ge] at hb
      rw [all_any] at hb
      have e3 : (List.range a.s.length).all (fun p => decide (0 ≤ restS a.s a.arcs fl p)) = false := by simpa using hb
      refine bx_cons (sx_retD (Ω2 := []) (Nat.zero_le _) px_bl .trunc ⟨?_, rfl⟩)
      show W.d (.bl false) = W.d (.bl (isFl _ _ _ _))
      congr 2
      unfold isFl
      rw [e3]
      simp
    · simp only [neg_ge] at hb
      rw [all_any] at hb
      have e3 : (List.range a.s.length).all (fun p => decide (0 ≤ restS a.s a.arcs fl p)) = true := by simpa using hb
      refine bx_nil (bx_cons (sx_retD (Ω2 := []) (Nat.zero_le _) (px_all (hx := LsOf.d) rfl (bs := (List.range a.d.length).map fun p => decide (0 ≤ restD a.d a.arcs fl p)) (ax_cons
        (px_lc (List.range a.d.length) (fun p => .d (.int (p : Nat))) (fun p => [some (.d (.lst (a.s.map .int))), some (.d (.lst (a.d.map .int))), some (.d (.lst (a.arcs.map arcD))), some (.d (.lst (fl.map .int))), some (.l 0), none, some (.d (.int (p : Nat)))]) (fun _ => true) (fun p => .bl (decide (0 ≤ restD a.d a.arcs fl p))) rfl hnIf (ix_range (ax_cons (px_len (ax_cons (px_var 1) ax_nil) (hm.fr _ (by decide))) ax_nil) (hm.fr _ (by decide)) (hru a.d ok.hd)) (blkOk_by (N := nIf) (sc := defScope sIf) (own := [("place", 6)]) (by decide +kernel)) (by rw [List.length_map]; simp) (fun _ z => nomatch z) (by rw [List.length_range]; exact lt1 (by have := ok.hd; omega))
          (fun _ _ _ _ _ => pn 6 hnIf) (fun x _ => gx_name 6) (by decide) (fun _ _ _ _ _ _ _ => tsx_nil) (fun p hp _ _ _ _ _ _ => px_ge (px_meth hrd (hr.mono (by decide)) hc.c ⟨⟨a.s, a.d, a.arcs, fl, p⟩, List.mem_range.mp hp, ok.ha⟩ [0, 1, 2, 3, 5] (px_var 4) (ax_cons (px_var 6) ax_nil) (InsOf.l rfl rfl) net5AtD (fun w' Ω' hR => by
            obtain ⟨rfl, rfl⟩ := hR
            exact ⟨rfl, net5Put⟩)) px_int)) ax_nil) (hm.fr _ (by decide)) (by rw [filt_true, List.map_map]; rfl)) .trunc ⟨?_, rfl⟩))
      rw [all_id]
      congr 2
      show _ = isFl _ _ _ _
      unfold isFl
      rw [e1, e2, e3]
      simp
end
end K50
namespace K50
open PySem PySem.Spec PyProof.Rows L2 DL
def nI (Y : List Nat) : List Int := Y.map fun p => ((p : Nat) : Int)
theorem mem_nI {Y : List Nat} {p : Nat} : decide (((p : Nat) : Int) ∈ nI Y) = decide (p ∈ Y) := by
  have : ((p : Nat) : Int) ∈ nI Y ↔ p ∈ Y := by
    unfold nI
    rw [List.mem_map]
    exact ⟨fun ⟨a, h, e⟩ => by
      have : a = p := by omega
      exact this ▸ h, fun h => ⟨p, h, rfl⟩⟩
  simp only [this]
structure CA where
  a : GA
  Y : List Nat
def cCb (x : { x : CA // GAOk x.a }) : Ctr := ⟨[.d (.lst (x.1.a.s.map .int)), .d (.lst (x.1.a.d.map .int)), .d (.lst (x.1.a.arcs.map arcD)), .d (.lst ((nI x.1.Y).map .int))], [], fun w Ω => w = .d (.int (cutV x.1.a.s x.1.a.d x.1.a.arcs x.1.Y)) ∧ Ω = []⟩
theorem zipIdx_range {s : List Int} : s.zipIdx = (List.range s.length).map fun i => (s.getD i 0, i) := by
  apply List.ext_getElem?
  intro i
  rw [List.getElem?_zipIdx, List.getElem?_map]
  by_cases h : i < s.length
  · rw [List.getElem?_eq_getElem h, List.getElem?_range h, Option.map_some, Option.map_some, Nat.zero_add, List.getD_eq_getElem?_getD, List.getElem?_eq_getElem h]
    rfl
  · rw [List.getElem?_eq_none (by omega), List.getElem?_eq_none (by rw [List.length_range]; omega)]
    rfl
theorem outside_sum {s : List Int} {Y : List Nat} : ((s.zipIdx.filter fun q => !decide (q.2 ∈ Y)).map (·.1)).sum = (((List.range s.length).filter fun p => decide (p ∉ Y)).map fun p => s.getD p 0).sum := by
  rw [zipIdx_range, List.filter_map, List.map_map]
  congr 2
  apply List.filter_congr
  intro p _
  show (!decide (p ∈ Y)) = _
  by_cases h : p ∈ Y <;> simp [h]
theorem perm_sum {l m : List Int} (p : l.Perm m) : l.sum = m.sum := by
  induction p with
  | nil => rfl
  | cons a _ ih => rw [List.sum_cons, List.sum_cons, ih]
  | swap a b l => rw [List.sum_cons, List.sum_cons, List.sum_cons, List.sum_cons]; omega
  | trans _ _ h1 h2 => exact h1.trans h2
theorem joined_sum {d : List Int} {arcs : List (Nat × Nat)} {Y : List Nat} (h : ∀ p ∈ arcs, p.2 < d.length) : ((dd [] ((arcs.filter fun a => decide (a.1 ∈ Y)).map (·.2))).map fun q => d.getD q 0).sum = (((List.range d.length).filter fun q => nearC arcs Y q).map fun q => d.getD q 0).sum := by
  apply perm_sum
  apply List.Perm.map
  refine (List.perm_ext_iff_of_nodup (dd_nodup _ _ List.nodup_nil) (List.nodup_range.filter _)).mpr fun q => ?_
  rw [dd_mem, List.mem_filter, List.mem_range, List.mem_map]
  constructor
  · rintro (z | ⟨a, ha, rfl⟩)
    · exact nomatch z
    · obtain ⟨m, y⟩ := List.mem_filter.mp ha
      exact ⟨h a m, near_of m (of_decide_eq_true y)⟩
  · rintro ⟨_, hq⟩
    obtain ⟨a, ha, hy, rfl⟩ := of_near hq
    exact .inr ⟨a, List.mem_filter.mpr ⟨ha, decide_eq_true hy⟩, rfl⟩
def keyN : Key → Nat
  | .inl i => i.toNat
  | .inr _ => 0
section
variable {P : Program} {w : World} {K : PySem.W.Frag} {mg : Str → Option Value} {base : Heap} {qual : Str} {Cl f : Addr} {cdv : Value} {A : Around} {outer : List Env} {s : Shared} {H : Hp} {E : XK}
theorem bodyCb (hm : Free mg) (x : { x : CA // GAOk x.a }) (hr : Room 0 (A.deeper (envOfC qual (defScope sCb) s.heap.objs.size f cdv))) :
    BX (cxOf CX0 P w K mg base nCb qual (defScope sCb) f cdv A outer s H E).nox (cCb x).cs.length (defBody sCb) (startG nCb (cCb x).ws) (cCb x).cs { nx := fun _ Ω' => (cCb x).R (.d .non) Ω', rt := (cCb x).R } := by
  obtain ⟨⟨a, Y⟩, ok⟩ := x
  dsimp only at ok
  have hu : A.units + 3 + 64 < cLine := by have := hr.un; have e : (A.deeper (envOfC qual (defScope sCb) s.heap.objs.size f cdv)).units = A.units + 3 := rfl; omega
  refine bx_cons (sx_dcE 4 a.arcs (fun p => .d (arcD p)) (fun p => [some (.d (.lst (a.s.map .int))), some (.d (.lst (a.d.map .int))), some (.d (.lst (a.arcs.map arcD))), some (.d (.lst ((nI Y).map .int))), none, none, some (.d (arcD p)), none, none]) (fun p => decide (p.1 ∈ Y)) (fun p => .inl (p.2 : Nat)) (fun _ => .bl true) (fun _ => []) (fun _ => []) (EndC.d .dk) (Nat.le_refl _) rfl hnCb (ix_ls (px_var 2) .d) (blkOk_by (N := nCb) (sc := defScope sCb) (own := [("arc", 6)]) (by decide +kernel)) (by rw [List.map_map]; rfl) (fun _ _ z => nomatch z) (lt1 ok.ha)
    (fun _ _ _ _ _ => pn 6 hnCb) (fun i _ => gx_name 6) (by decide) (fun _ _ _ _ => rfl)
    (fun i p hx _ _ _ _ _ => tse_one (tx_conv (tx_inI (ns := nI Y) (by exact hu) (px_ixT (px_var 6) px_int) (px_var 3)) mem_nI))
    (fun i p hx _ _ _ _ _ _ => px_ixT (px_var 6) px_int) (fun i p hx _ _ _ _ _ _ => px_bl) ?_ (sw_trueD rfl rfl rfl (by decide +kernel)))
  rw [dcD_const (kf := fun p : Nat × Nat => p.2)]
  refine bx_cons (sx_lc 5 a.s.zipIdx (fun q => .d (.tup [.int (q.2 : Nat), .int q.1])) (fun q => [some (.d (.lst (a.s.map .int))), some (.d (.lst (a.d.map .int))), some (.d (.lst (a.arcs.map arcD))), some (.d (.lst ((nI Y).map .int))), some (.d (.dic (kvD (fun _ : Unit => Dt.bl true) ((dd [] ((a.arcs.filter fun p => decide (p.1 ∈ Y)).map (·.2))).map fun q => (q, ()))))), none, none, some (.d (.int (q.2 : Nat))), some (.d (.int q.1))]) (fun q => !decide (q.2 ∈ Y)) (fun q => .int q.1) lc_endD (Nat.le_refl _) rfl hnCb (ix_enum (ax_cons (px_var 0) ax_nil) (hm.fr _ (by decide)) .d) (blkOk_by (N := nCb) (sc := defScope sCb) (own := [("place", 7), ("supply", 8)]) (by decide +kernel)) (by rw [List.zipIdx_map, List.map_map]; rfl) (fun _ z => nomatch z) (by rw [List.length_zipIdx]; exact lt1 (by have := ok.hs; omega))
    (fun _ _ _ _ _ => pg_tup (n := 2) rfl (pgs_n 7 hnCb (pgs_n 8 hnCb pgs_nil))) (fun q _ => gx2 7 8) (by decide)
    (fun q _ _ _ _ _ _ => tsx_one (tx_conv (tx_notInI (ns := nI Y) (by exact hu) (px_var 7) (px_var 3)) (by rw [mem_nI]))) (fun q _ _ _ _ _ _ _ => px_var 8) ?_ (sw_true rfl rfl rfl (by decide +kernel)))
  refine bx_cons (sx_ret (Nat.le_refl _) (px_add (px_sum (hx := LsOf.d) rfl (ns := (a.s.zipIdx.filter fun q => !decide (q.2 ∈ Y)).map (·.1)) (ax_cons (px_var 5) ax_nil) (hm.fr _ (by decide)) (by rw [List.map_map]; rfl)) (px_sum (hx := LsOf.d) rfl (ns := (dd [] ((a.arcs.filter fun p => decide (p.1 ∈ Y)).map (·.2))).map fun q => a.d.getD q 0) (ax_cons
    (px_lcK 4 (fun k => [some (.d (.lst (a.s.map .int))), some (.d (.lst (a.d.map .int))), some (.d (.lst (a.arcs.map arcD))), some (.d (.lst ((nI Y).map .int))), some (.d (.dic (kvD (fun _ : Unit => Dt.bl true) ((dd [] ((a.arcs.filter fun p => decide (p.1 ∈ Y)).map (·.2))).map fun q => (q, ()))))), some (.d (.lst ((a.s.zipIdx.filter fun q => !decide (q.2 ∈ Y)).map fun q => .int q.1))), none, some (.d (kD k)), none]) (fun _ => true) (fun k => .int (a.d.getD (keyN k) 0)) rfl (EndC.d .ls) rfl hnCb (blkOk_by (N := nCb) (sc := defScope sCb) (own := [("place", 7)]) (by decide +kernel)) ?_
      (fun _ _ _ _ _ => pn 7 hnCb) (fun k _ => gx_name 7) (by decide) (fun _ _ _ _ _ _ _ => tsx_nil) (fun k hk _ _ _ _ _ _ => ?_)) ax_nil) (hm.fr _ (by decide)) ?_)) ⟨?_, rfl⟩)
  · have e1 : (dd [] ((a.arcs.filter fun p => decide (p.1 ∈ Y)).map (·.2))).length ≤ a.d.length := len_le _ _ (dd_nodup _ _ List.nodup_nil) fun q hq => by
      rcases (dd_mem _ _).mp hq with z | z
      · exact nomatch z
      · obtain ⟨p, hp, rfl⟩ := List.mem_map.mp z
        exact (ok.hin p (List.mem_filter.mp hp).1).2
    unfold kvD
    rw [List.length_map, List.length_map]
    exact lt1 (by have := ok.hd; omega)
  · rw [kvD_keys, List.map_map] at hk
    obtain ⟨q, hq, rfl⟩ := List.mem_map.mp hk
    have hlt : q < a.d.length := by
      rcases (dd_mem _ _).mp hq with z | z
      · exact nomatch z
      · obtain ⟨p, hp, rfl⟩ := List.mem_map.mp z
        exact (ok.hin p (List.mem_filter.mp hp).1).2
    exact px_ixL (i := (q : Nat)) (px_var 1) (px_var 7) (atI_map (getD_get hlt))
  · rw [filt_true, kvD_keys, List.map_map, List.map_map, List.map_map]
    rfl
  · rw [outside_sum, joined_sum fun p hp => (ok.hin p hp).2]
    rfl
end
end K50
namespace K50
open PySem PySem.Spec PyProof.Rows L2 DL
abbrev sTk : Stmt := topS 7
abbrev nTk : List Str := ["_law_draws_here", "_law_bound"]
theorem scTk : FnScope nTk ["_law_draws_here", "_law_bound"] (defScope sTk) := ⟨rfl, rfl, rfl, by decide +kernel, rfl, by decide +kernel, by decide +kernel⟩
abbrev sDr : Stmt := topS 6
abbrev nDr : List Str := ["_law_script", "_law_draws_here", "_law_cell", "_law_number", "_law_first", "_law_k", "_law_seed"]
theorem scDr : FnScope nDr ["_law_script"] (defScope sDr) := ⟨rfl, rfl, rfl, by decide +kernel, rfl, by decide +kernel, by decide +kernel⟩
theorem hnDr : nDr.Nodup := by decide +kernel
/-- the numbers left, the next one first -/
def drO (l : List Int) : OD := .ls (l.reverse.map .int)
def tk (l : List Int) (b : Int) : Int := l.headD 0 % b
def cTk (x : { x : List Int × Int // 0 < x.2 }) : Ctr := ⟨[.l 0, .d (.int x.1.2)], [drO x.1.1], fun w Ω => w = .d (.int (tk x.1.1 x.1.2)) ∧ Ω = [drO x.1.1.tail]⟩
theorem tk_nn {l : List Int} {b : Int} (h : 0 < b) : 0 ≤ tk l b := Int.emod_nonneg _ (by omega)
theorem tk_lt {l : List Int} {b : Int} (h : 0 < b) : tk l b < b := Int.emod_lt_of_pos _ h
def cDr (ns : { ns : List Int // ns.length ≤ 100 }) : Ctr := ⟨[.d (.rl ns.1)], [], fun w Ω => w = .l 1 ∧ ∃ D, Ω = [.ls (D.map .int), drO D]⟩
section
variable {P : Program} {w : World} {K : PySem.W.Frag} {mg : Str → Option Value} {base : Heap} {qual : Str} {Cl f : Addr} {cdv : Value} {A : Around} {outer : List Env} {s : Shared} {H : Hp} {E : XK}
theorem bodyTk (hm : Free mg) (x : { x : List Int × Int // 0 < x.2 }) :
    BX (cxOf CX0 P w K mg base nTk qual (defScope sTk) f cdv A outer s H E).nox (cTk x).cs.length (defBody sTk) (startG nTk (cTk x).ws) (cTk x).cs { nx := fun _ Ω' => (cTk x).R (.d .non) Ω', rt := (cTk x).R } := by
  obtain ⟨⟨l, b⟩, hb⟩ := x
  dsimp only at hb
  refine bx_cons (sx_if (Nat.le_refl _) (tx_eq (px_len (ds := l.reverse.map .int) (hx := .l (.l rfl)) (ax_cons (px_var 0) ax_nil) (hm.fr _ (by decide))) px_int) (fun h => ?_) (fun h => ?_))
  · have h : (((l.reverse.map Dt.int).length : Nat) : Int) = 0 := of_decide_eq_true h
    rw [List.length_map, List.length_reverse] at h
    obtain rfl : l = [] := List.eq_nil_of_length_eq_zero (by omega)
    exact bx_cons (sx_ret (Nat.le_refl _) px_int ⟨by show W.d (.int 0) = W.d (.int (0 % b)); rw [Int.zero_emod], rfl⟩)
  · have h : ¬ (((l.reverse.map Dt.int).length : Nat) : Int) = 0 := of_decide_eq_false h
    rw [List.length_map, List.length_reverse] at h
    cases l with
    | nil => exact absurd rfl h
    | cons y r =>
      have e : (y :: r).reverse.map Dt.int = r.reverse.map Dt.int ++ [.int y] := by rw [List.reverse_cons, List.map_append]; rfl
      exact bx_nil (bx_cons (sx_ret (Nat.le_refl _) (px_mod hb (px_intI (ax_cons (px_pop (n := 0) (x := .int y) (ds := r.reverse.map .int) (show some (OD.ls _) = _ by rw [e]) (px_var 0)) ax_nil) (hm.fr _ (by decide))) (px_var 1)) ⟨rfl, rfl⟩))
def IsI (ds : List Dt) : Prop := ∃ D : List Int, ds = D.map .int
theorem IsI.nil : IsI [] := ⟨[], rfl⟩
theorem IsI.snoc {ds : List Dt} {v : Int} (h : IsI ds) : IsI (ds ++ [.int v]) := by
  obtain ⟨D, rfl⟩ := h
  exact ⟨D ++ [v], by rw [List.map_append]; rfl⟩
theorem snoc_le {ds : List Dt} {d : Dt} {n : Nat} (h : ds.length ≤ n) : (ds ++ [d]).length ≤ n + 1 := by
  rw [List.length_append, List.length_singleton]
  omega
def drΓ (ns : List Int) (g2 : Option W) (num : Int) (g4 g5 g6 : Option W) : Gm := [some (.d (.rl ns)), some (.l 0), g2, some (.d (.int num)), g4, g5, g6]
theorem bodyDr (hm : Free mg) (ns : { ns : List Int // ns.length ≤ 100 }) :
    BX (cxOf CX0 P w K mg base nDr qual (defScope sDr) f cdv A outer s H E).nox (cDr ns).cs.length (defBody sDr) (startG nDr (cDr ns).ws) (cDr ns).cs { nx := fun _ Ω' => (cDr ns).R (.d .non) Ω', rt := (cDr ns).R } := by
  obtain ⟨ns, hns⟩ := ns
  refine bx_cons (sx_asg (Nat.le_refl _) (px_lstO (ds := []) ax_nil) (pn 1 hnDr) (gx_name 1) ?_)
  refine bx_mid (fun Γ Ω => ∃ (D : List Dt) (g2 g3 g4 g5 g6 : Option W), IsI D ∧ D.length ≤ 62 * ns.length ∧ Γ = [some (.d (.rl ns)), some (.l 0), g2, g3, g4, g5, g6] ∧ Ω = [.ls D])
    (sx_for ns (fun n => .d (.int n)) (fun i Γ Ω => ∃ (D : List Dt) (g2 g3 g4 g5 g6 : Option W), IsI D ∧ D.length ≤ 62 * i ∧ Γ = [some (.d (.rl ns)), some (.l 0), g2, g3, g4, g5, g6] ∧ Ω = [.ls D]) (fun i n Γ => Γ.set 2 (some (.d (.int n)))) (Nat.zero_le _) (ix_ls (px_var 0) .r) (by rw [List.map_map]; rfl) ⟨[], _, _, _, _, _, IsI.nil, Nat.zero_le _, rfl, rfl⟩ (fun _ _ _ _ _ z => nomatch z) (pn 2 hnDr) (fun _ _ _ _ _ _ => gx_name 2) ?_ ?_ PassesOwn.never) ?_
  · rintro i n Γ' Ω' hn ⟨D, g2, g3, g4, g5, g6, hI, hD, rfl, rfl⟩
    have hi := (List.getElem?_eq_some_iff.mp hn).1
    refine bx_cons (sx_asg (Nat.le_refl _) (px_abs (ax_cons (px_var 2) ax_nil) (hm.fr _ (by decide))) (pn 3 hnDr) (gx_name 3) ?_)
    refine bx_mid (fun Γ Ω => ∃ (D : List Dt) (num : Int) (g2 g4 g5 g6 : Option W), IsI D ∧ D.length ≤ 62 * i + 2 ∧ Γ = drΓ ns g2 num g4 g5 g6 ∧ Ω = [.ls D]) (sx_if (Nat.le_refl _) (tx_lt (px_var 3) (px_pow ⟨by decide, by decide, by decide⟩ px_int px_int)) (fun hlt => ?_) (fun _ => bx_nil ⟨D, _, _, _, _, _, hI, by omega, rfl, rfl⟩)) ?_
    · refine bx_cons (sx_asg (Nat.le_refl _) (px_mod (by decide) (px_intI (ax_cons (px_add (px_mul (.inr (by decide)) (px_var 3) px_int) px_int) ax_nil) (hm.fr _ (by decide))) px_int) (pn 4 hnDr) (gx_name 4) ?_)
      refine bx_cons (sx_expr (Nat.le_refl _) (px_append (ds := D) rfl rfl (lt1 (by omega)) (px_var 1) (ax_cons (px_mod (by decide) (px_intI (ax_cons (px_add (px_mul (.inr (by decide)) (px_var 4) px_int) (px_var 3)) ax_nil) (hm.fr _ (by decide))) px_int) ax_nil)) ?_)
      refine bx_cons (sx_expr (Nat.le_refl _) (px_append (ds := D ++ [Dt.int ((((n.natAbs : Int) * 48271 + 11) % 2147483647 * 69621 + (n.natAbs : Int)) % 2147483629)]) rfl rfl (lt1 (by rw [List.length_append, List.length_singleton]; omega)) (px_var 1) (ax_cons (px_mod (by decide) (px_intI (ax_cons (px_add (px_var 4) (px_fdiv ⟨by decide, by decide⟩ (px_var 3) px_int)) ax_nil) (hm.fr _ (by decide))) px_int) ax_nil)) ?_)
      refine bx_cons (sx_asg (Nat.le_refl _) px_int (pn 3 hnDr) (gx_name 3) (bx_nil ⟨_, 0, _, _, _, _, hI.snoc.snoc, snoc_le (snoc_le hD), rfl, rfl⟩))
    · rintro Γ' Ω' ⟨D, num, g2, g4, g5, g6, hI, hD, rfl, rfl⟩
      refine bx_cons (sx_for (List.range 60) (fun k => .d (.int (k : Nat))) (fun j Γ Ω => ∃ (D : List Dt) (num : Int) (g2 g4 g5 g6 : Option W), IsI D ∧ D.length ≤ 62 * i + 2 + j ∧ Γ = drΓ ns g2 num g4 g5 g6 ∧ Ω = [.ls D]) (fun _ k Γ => Γ.set 5 (some (.d (.int (k : Nat))))) (Nat.le_refl _) (ix_range (ax_cons px_int ax_nil) (hm.fr _ (by decide)) (by decide)) rfl ⟨D, num, _, _, _, _, hI, hD, rfl, rfl⟩ (fun _ _ _ _ _ z => nomatch z) (pn 5 hnDr) (fun _ _ _ _ _ _ => gx_name 5) ?_ ?_ PassesOwn.never)
      · rintro j k Γ' Ω' hk ⟨D, num, g2, g4, g5, g6, hI, hD, rfl, rfl⟩
        have hj := (List.getElem?_eq_some_iff.mp hk).1
        rw [List.length_range] at hj
        refine bx_cons (sx_if (Nat.le_refl _) (tx_gt (px_var 3) px_int) (fun _ => ?_) (fun _ => bx_nil (bx_nil ⟨D, num, _, _, _, _, hI, by omega, rfl, rfl⟩)))
        refine bx_cons (sx_expr (Nat.le_refl _) (px_append (ds := D) rfl rfl (lt1 (by omega)) (px_var 1) (ax_cons (px_mod (by decide) (px_intI (ax_cons (px_var 3) ax_nil) (hm.fr _ (by decide))) px_int) ax_nil)) ?_)
        refine bx_cons (sx_asg (Nat.le_refl _) (px_fdiv ⟨by decide, by decide⟩ (px_var 3) px_int) (pn 3 hnDr) (gx_name 3) (bx_nil (bx_nil ⟨_, _, _, _, _, _, hI.snoc, snoc_le hD, rfl, rfl⟩)))
      · rintro Γ' Ω' ⟨D, num, g2, g4, g5, g6, hI, hD, rfl, rfl⟩
        rw [List.length_range] at hD
        exact bx_nil ⟨D, _, _, _, _, _, hI, by omega, rfl, rfl⟩
  · rintro Γ' Ω' ⟨D, g2, g3, g4, g5, g6, hI, hD, rfl, rfl⟩
    exact ⟨D, _, _, _, _, _, hI, hD, rfl, rfl⟩
  · rintro Γ' Ω' ⟨D, g2, g3, g4, g5, g6, hI, hD, rfl, rfl⟩
    refine bx_cons (sx_asg (Nat.zero_le _) px_int (pn 6 hnDr) (gx_name 6) ?_)
    refine bx_mid (fun Γ Ω => ∃ (sd : Int) (g2 g3 g4 g5 : Option W), Γ = [some (.d (.rl ns)), some (.l 0), g2, g3, g4, g5, some (.d (.int sd))] ∧ Ω = [.ls D]) (sx_if (Nat.zero_le _) (tx_gt (px_len (hx := .l .r) (ax_cons (px_var 0) ax_nil) (hm.fr _ (by decide))) px_int) (fun hl => ?_) (fun _ => bx_nil ⟨_, _, _, _, _, rfl, rfl⟩)) ?_
    · have hl := of_decide_eq_true hl
      rw [List.length_map] at hl
      cases ns with
      | nil => exact absurd hl (by decide)
      | cons y r => exact bx_cons (sx_asg (Nat.zero_le _) (px_add px_int (px_abs (ax_cons (px_ixL (hx := LsOf.r) (i := 0) (d := .int y) (px_var 0) px_int (by exact atI_nat (i := 0) rfl)) ax_nil) (hm.fr _ (by decide)))) (pn 6 hnDr) (gx_name 6) (bx_nil ⟨_, _, _, _, _, rfl, rfl⟩))
    · rintro Γ' Ω' ⟨sd, g2, g3, g4, g5, rfl, rfl⟩
      refine bx_mid (fun Γ Ω => ∃ (D : List Dt) (g2 g3 g4 g5 g6 : Option W), IsI D ∧ Γ = [some (.d (.rl ns)), some (.l 0), g2, g3, g4, g5, g6] ∧ Ω = [.ls D]) (sx_for (List.range 240) (fun k => .d (.int (k : Nat))) (fun j Γ Ω => ∃ (D : List Dt) (sd : Int) (g2 g3 g4 g5 : Option W), IsI D ∧ D.length ≤ 62 * ns.length + j ∧ Γ = [some (.d (.rl ns)), some (.l 0), g2, g3, g4, g5, some (.d (.int sd))] ∧ Ω = [.ls D]) (fun _ k Γ => Γ.set 5 (some (.d (.int (k : Nat))))) (Nat.zero_le _) (ix_range (ax_cons px_int ax_nil) (hm.fr _ (by decide)) (by decide)) rfl ⟨D, sd, _, _, _, _, hI, hD, rfl, rfl⟩ (fun _ _ _ _ _ z => nomatch z) (pn 5 hnDr) (fun _ _ _ _ _ _ => gx_name 5) ?_ ?_ PassesOwn.never) ?_
      · rintro j k Γ' Ω' hk ⟨D, sd, g2, g3, g4, g5, hI, hD, rfl, rfl⟩
        have hj := (List.getElem?_eq_some_iff.mp hk).1
        rw [List.length_range] at hj
        refine bx_cons (sx_asg (Nat.le_refl _) (px_mod (by decide) (px_intI (ax_cons (px_add (px_mul (.inr (by decide)) (px_var 6) px_int) px_int) ax_nil) (hm.fr _ (by decide))) px_int) (pn 6 hnDr) (gx_name 6) ?_)
        refine bx_cons (sx_expr (Nat.le_refl _) (px_append (ds := D) rfl rfl (lt1 (by omega)) (px_var 1) (ax_cons (px_fdiv ⟨by decide, by decide⟩ (px_var 6) px_int) ax_nil)) (bx_nil ⟨_, _, _, _, _, _, hI.snoc, snoc_le hD, rfl, rfl⟩))
      · rintro Γ' Ω' ⟨D, sd, g2, g3, g4, g5, hI, hD, rfl, rfl⟩
        exact ⟨D, _, _, _, _, _, hI, rfl, rfl⟩
      · rintro Γ' Ω' ⟨D, g2, g3, g4, g5, g6, ⟨D, rfl⟩, rfl, rfl⟩
        exact bx_cons (sx_ret (Nat.zero_le _) (px_lstRev (ds := D.map .int) (hx := .l rfl) rfl (px_var 1) (hm.fr _ (by decide)) (hm.fr _ (by decide)) (EndC.l (fun z => by cases z))) ⟨rfl, D, by unfold drO; rw [List.map_reverse]; rfl⟩)
end
end K50
namespace K50
open PySem PySem.Spec PyProof.Rows L2 DL
abbrev sSa : Stmt := topS 8
abbrev nSa : List Str := ["_law_actual", "_law_due", "_law_k"]
theorem scSa : FnScope nSa ["_law_actual", "_law_due"] (defScope sSa) := ⟨rfl, rfl, rfl, by decide +kernel, rfl, by decide +kernel, by decide +kernel⟩
theorem hnSa : nSa.Nodup := by decide +kernel
/-- data that _law_same tells to be the same as itself, with at most n levels -/
def Sm : Nat → Dt → Prop
  | _, .int _ => True
  | _, .bl _ => True
  | n + 1, .lst ds => ds.length < 100000 ∧ ∀ d ∈ ds, Sm n d
  | _, _ => False
def cSa (n : Nat) (x : { x : Dt // Sm n x }) : Ctr := cD [x.1, x.1] (.bl true)
section
variable {P : Program} {w : World} {K : PySem.W.Frag} {mg : Str → Option Value} {base : Heap} {qual : Str} {Cl f : Addr} {cdv : Value} {A : Around} {outer : List Env} {s : Shared} {H : Hp} {E : XK}
theorem scEq_self {b : Bool} : Dt.scEq (.bl b) (.bl b) = true := decide_eq_true rfl
theorem scEq_selfI {b : Int} : Dt.scEq (.int b) (.int b) = true := decide_eq_true rfl
theorem bodySa (hm : Free mg) (n : Nat) (hrec : ∀ m, n = m + 1 → DefOk P w K mg base "_law_same" (m + 1) ["_law_actual", "_law_due"] (cSa m)) (x : { x : Dt // Sm n x }) (hr : Room n (A.deeper (envOfC qual (defScope sSa) s.heap.objs.size f cdv))) :
    BX (cxOf CX0 P w K mg base nSa qual (defScope sSa) f cdv A outer s H E).nox (cSa n x).cs.length (defBody sSa) (startG nSa (cSa n x).ws) (cSa n x).cs { nx := fun _ Ω' => (cSa n x).R (.d .non) Ω', rt := (cSa n x).R } := by
  obtain ⟨x, hx⟩ := x
  have mt := hm.fr "tuple" (by decide)
  have ml := hm.fr "list" (by decide)
  have mb := hm.fr "bool" (by decide)
  have mi := hm.fr "int" (by decide)
  have ms := hm.fr "str" (by decide)
  have mis := hm.fr "isinstance" (by decide)
  cases x with
  | int v =>
    refine bx_cons (sx_if (Nat.le_refl _) (tx_or (tx_val (px_isi (px_var 1) mis mt rfl (by decide +kernel : kitB "int" "tuple" = some false) (by decide +kernel))) (fun _ => tx_or1 (tx_val (px_isi (px_var 1) mis ml rfl (by decide +kernel : kitB "int" "list" = some false) (by decide +kernel))))).tx (fun h => by cases h) (fun _ => bx_nil ?_))
    refine bx_cons (sx_if (Nat.le_refl _) (tx_ne (px_isi (px_var 1) mis mb rfl (by decide +kernel : kitB "int" "bool" = some false) (by decide +kernel)) (px_isi (px_var 0) mis mb rfl (by decide +kernel : kitB "int" "bool" = some false) (by decide +kernel))) (fun h => by cases h) (fun _ => bx_nil ?_))
    refine bx_cons (sx_if (Nat.le_refl _) (tx_or (tx_ne (px_isi (px_var 1) mis mi rfl (by decide +kernel : kitB "int" "int" = some true) (by decide +kernel)) (px_isi (px_var 0) mis mi rfl (by decide +kernel : kitB "int" "int" = some true) (by decide +kernel))) (fun _ => tx_or1 (tx_ne (px_isi (px_var 1) mis ms rfl (by decide +kernel : kitB "int" "str" = some false) (by decide +kernel)) (px_isi (px_var 0) mis ms rfl (by decide +kernel : kitB "int" "str" = some false) (by decide +kernel))))).tx (fun h => by cases h) (fun _ => bx_nil ?_))
    exact bx_cons (sx_ret (Nat.le_refl _) (px_eq (px_var 0) (px_var 1)) ⟨by rw [scEq_selfI], rfl⟩)
  | bl v =>
    refine bx_cons (sx_if (Nat.le_refl _) (tx_or (tx_val (px_isi (px_var 1) mis mt rfl (by decide +kernel : kitB "bool" "tuple" = some false) (by decide +kernel))) (fun _ => tx_or1 (tx_val (px_isi (px_var 1) mis ml rfl (by decide +kernel : kitB "bool" "list" = some false) (by decide +kernel))))).tx (fun h => by cases h) (fun _ => bx_nil ?_))
    refine bx_cons (sx_if (Nat.le_refl _) (tx_ne (px_isi (px_var 1) mis mb rfl (by decide +kernel : kitB "bool" "bool" = some true) (by decide +kernel)) (px_isi (px_var 0) mis mb rfl (by decide +kernel : kitB "bool" "bool" = some true) (by decide +kernel))) (fun h => by cases h) (fun _ => bx_nil ?_))
    refine bx_cons (sx_if (Nat.le_refl _) (tx_or (tx_ne (px_isi (px_var 1) mis mi rfl (by decide +kernel : kitB "bool" "int" = some true) (by decide +kernel)) (px_isi (px_var 0) mis mi rfl (by decide +kernel : kitB "bool" "int" = some true) (by decide +kernel))) (fun _ => tx_or1 (tx_ne (px_isi (px_var 1) mis ms rfl (by decide +kernel : kitB "bool" "str" = some false) (by decide +kernel)) (px_isi (px_var 0) mis ms rfl (by decide +kernel : kitB "bool" "str" = some false) (by decide +kernel))))).tx (fun h => by cases h) (fun _ => bx_nil ?_))
    exact bx_cons (sx_ret (Nat.le_refl _) (px_eq (px_var 0) (px_var 1)) ⟨by rw [scEq_self], rfl⟩)
  | lst ds =>
    cases n with
    | zero => exact hx.elim
    | succ n =>
      obtain ⟨hl, hx⟩ := hx
      refine bx_cons (sx_if (Nat.le_refl _) (tx_or (tx_val (px_isi (px_var 1) mis mt rfl (by decide +kernel : kitB "list" "tuple" = some false) (by decide +kernel))) (fun _ => tx_or1 (tx_val (px_isi (px_var 1) mis ml rfl (by decide +kernel : kitB "list" "list" = some true) (by decide +kernel))))).tx (fun _ => ?_) (fun h => by cases h))
      refine bx_cons (sx_if (Nat.le_refl _) (tx_or (tx_ne (px_isi (px_var 1) mis mt rfl (by decide +kernel : kitB "list" "tuple" = some false) (by decide +kernel)) (px_isi (px_var 0) mis mt rfl (by decide +kernel : kitB "list" "tuple" = some false) (by decide +kernel))) (fun _ => tx_or1 (tx_ne (px_isi (px_var 1) mis ml rfl (by decide +kernel : kitB "list" "list" = some true) (by decide +kernel)) (px_isi (px_var 0) mis ml rfl (by decide +kernel : kitB "list" "list" = some true) (by decide +kernel))))).tx (fun h => by cases h) (fun _ => bx_nil ?_))
      refine bx_cons (sx_if (Nat.le_refl _) (tx_ne (px_len (hx := .l .d) (ax_cons (px_var 0) ax_nil) (hm.fr _ (by decide))) (px_len (hx := .l .d) (ax_cons (px_var 1) ax_nil) (hm.fr _ (by decide)))) (fun h => by rw [scEq_selfI] at h; cases h) (fun _ => bx_nil ?_))
      refine bx_cons (sx_for (List.range ds.length) (fun k => .d (.int (k : Nat))) (fun i Γ Ω => ∃ g, Γ = [some (.d (.lst ds)), some (.d (.lst ds)), g] ∧ Ω = []) (fun i k Γ => Γ.set 2 (some (.d (.int (k : Nat))))) (Nat.le_refl _) (ix_range (ax_cons (px_len (hx := .l .d) (ax_cons (px_var 1) ax_nil) (hm.fr _ (by decide))) ax_nil) (hm.fr _ (by decide)) (by omega)) (by simp) ⟨none, rfl, rfl⟩ (fun _ _ _ _ _ z => nomatch z) (pn 2 hnSa) (fun _ _ _ _ _ _ => gx_name 2) ?_ ?_ PassesOwn.never)
      · rintro i k Γ' Ω' hk ⟨g, rfl, rfl⟩
        have hkl := List.mem_range.mp (List.mem_of_getElem? hk)
        have ek : ds[k]? = some ds[k] := List.getElem?_eq_getElem hkl
        exact bx_cons (sx_if (Nat.le_refl _) (tx_not (tx_val (px_callD (ds := [ds[k], ds[k]]) (r := .bl true) (hrec n rfl) hr ⟨ds[k], hx _ (List.getElem_mem hkl)⟩ rfl (ax_cons (px_ixL (px_var 0) (px_var 2) (DL.atI_nat ek)) (ax_cons (px_ixL (px_var 1) (px_var 2) (DL.atI_nat ek)) ax_nil))))) (fun h => by cases h) (fun _ => bx_nil (bx_nil ⟨_, rfl, rfl⟩)))
      · rintro Γ' Ω' ⟨g, rfl, rfl⟩
        exact bx_cons (sx_ret (Nat.le_refl _) px_bl ⟨rfl, rfl⟩)
  | _ => cases n <;> exact hx.elim
end
end K50
namespace K50
open PySem PySem.Spec PyProof.Rows L2 DL
abbrev sCu : Stmt := topS 10
abbrev nCu : List Str := ["_law_supplies", "_law_demands", "_law_arcs", "_law_part", "_law_near", "_law_k", "_law_arc"]
theorem scCu : FnScope nCu ["_law_supplies", "_law_demands", "_law_arcs", "_law_part"] (defScope sCu) := ⟨rfl, rfl, rfl, by decide +kernel, rfl, by decide +kernel, by decide +kernel⟩
theorem hnCu : nCu.Nodup := by decide +kernel
theorem eqb_nil {ds : List Dt} : Dt.eqb (.lst ds) (.lst []) = ds.isEmpty := by
  cases ds with
  | nil => rfl
  | cons a r => rfl
theorem arc_depth {p : Nat × Nat} : (arcD p).py.depth = 1 := rfl
theorem ok_arcs : ∀ arcs : List (Nat × Nat), Dt.plL (arcs.map arcD) = true ∧ PyData.plainAll (Dt.pyL (arcs.map arcD)) = true ∧ PyData.depthAll (Dt.pyL (arcs.map arcD)) ≤ 2
  | [] => ⟨rfl, rfl, Nat.le_of_ble_eq_true rfl⟩
  | p :: ps => by
    obtain ⟨h1, h2, h3⟩ := ok_arcs ps
    refine ⟨?_, ?_, ?_⟩
    · rw [List.map_cons, Dt.plL, h1]; rfl
    · rw [List.map_cons, Dt.pyL, PyData.plainAll, h2]; rfl
    · rw [List.map_cons, Dt.pyL, PyData.depthAll, arc_depth]; omega
theorem ok_arcL {arcs : List (Nat × Nat)} : (Dt.lst (arcs.map arcD)).ok := by
  obtain ⟨h1, h2, h3⟩ := ok_arcs arcs
  refine ⟨by rw [Dt.pl]; exact h1, by rw [Dt.py, PyData.plain]; exact h2, by rw [Dt.py, PyData.depth]; omega⟩
section
variable {P : Program} {w : World} {K : PySem.W.Frag} {mg : Str → Option Value} {base : Heap} {qual : Str} {Cl f : Addr} {cdv : Value} {A : Around} {outer : List Env} {s : Shared} {H : Hp} {E : XK}
theorem near_filter {arcs : List (Nat × Nat)} {Y : List Nat} {k : Nat} : (!((arcs.filter fun a => decide (a.1 ∈ Y) && decide (a.2 = k)).map arcD).isEmpty) = nearC arcs Y k := by
  unfold nearC
  cases h : arcs.filter fun a => decide (a.1 ∈ Y) && decide (a.2 = k) with
  | nil =>
    rw [List.filter_eq_nil_iff] at h
    symm
    rw [List.map_nil, List.isEmpty_nil, Bool.not_true, List.any_eq_false]
    exact h
  | cons a r =>
    have m : a ∈ arcs.filter fun a => decide (a.1 ∈ Y) && decide (a.2 = k) := by rw [h]; exact List.mem_cons_self ..
    obtain ⟨m1, m2⟩ := List.mem_filter.mp m
    symm
    rw [List.map_cons, List.isEmpty_cons, Bool.not_false, List.any_eq_true]
    exact ⟨a, m1, m2⟩
theorem bodyCu (hm : Free mg) (x : { x : CA // GAOk x.a }) (hr : Room 0 (A.deeper (envOfC qual (defScope sCu) s.heap.objs.size f cdv))) :
    BX (cxOf CX0 P w K mg base nCu qual (defScope sCu) f cdv A outer s H E).nox (cCb x).cs.length (defBody sCu) (startG nCu (cCb x).ws) (cCb x).cs { nx := fun _ Ω' => (cCb x).R (.d .non) Ω', rt := (cCb x).R } := by
  obtain ⟨⟨a, Y⟩, ok⟩ := x
  dsimp only at ok
  have hu : A.units + 3 + 64 < cLine := by have := hr.un; have e : (A.deeper (envOfC qual (defScope sCu) s.heap.objs.size f cdv)).units = A.units + 3 := rfl; omega
  have hru : ∀ n : List Int, n.length < 64 → -(2 ^ 62) ≤ (((n.map Dt.int).length : Nat) : Int) ∧ (((n.map Dt.int).length : Nat) : Int) < 2 ^ 62 := fun n h => by rw [List.length_map]; omega
  refine bx_cons (sx_lc 4 (List.range a.d.length) (fun q => .d (.int (q : Nat))) (fun q => [some (.d (.lst (a.s.map .int))), some (.d (.lst (a.d.map .int))), some (.d (.lst (a.arcs.map arcD))), some (.d (.lst ((nI Y).map .int))), none, some (.d (.int (q : Nat))), none]) (fun q => nearC a.arcs Y q) (fun q => .int (q : Nat)) lc_endD (Nat.le_refl _) rfl hnCu (ix_range (ax_cons (px_len (hx := .l .d) (ax_cons (px_var 1) ax_nil) (hm.fr _ (by decide))) ax_nil) (hm.fr _ (by decide)) (hru a.d ok.hd)) (blkOk_by (N := nCu) (sc := defScope sCu) (own := [("_law_k", 5)]) (by decide +kernel)) (by rw [List.length_map]; simp) (fun _ z => nomatch z) (by rw [List.length_range]; exact lt1 (by have := ok.hd; omega))
    (fun _ _ _ _ _ => pn 5 hnCu) (fun q _ => gx_name 5) (by decide)
    (fun q _ _ _ _ _ _ => tsx_one (tx_conv (tx_neP (x := .lst ((a.arcs.filter fun p => decide (p.1 ∈ Y) && decide (p.2 = q)).map arcD)) (y := .lst []) (by exact hu)
      (px_lc a.arcs (fun p => .d (arcD p)) (fun p => [some (.d (.lst (a.s.map .int))), some (.d (.lst (a.d.map .int))), some (.d (.lst (a.arcs.map arcD))), some (.d (.lst ((nI Y).map .int))), none, some (.d (.int (q : Nat))), some (.d (arcD p))]) (fun p => decide (p.1 ∈ Y) && decide (p.2 = q)) (fun p => arcD p) rfl hnCu (ix_ls (px_var 2) .d) (blkOk_by (own := [("_law_arc", 6)]) rfl) (by rw [List.map_map]; rfl) (fun _ z => nomatch z) (lt1 ok.ha)
        (fun _ _ _ _ _ => pn 6 hnCu) (fun p _ => gx_name 6) (by decide)
        (fun p _ _ _ _ _ _ => tsx_one (tx_and (tx_conv (tx_inI (ns := nI Y) (by exact hu) (px_ixT (px_var 6) px_int) (px_var 3)) mem_nI) (fun _ => tx_and1 (tx_conv (tx_eq (px_ixT (px_var 6) px_int) (px_var 5)) (by exact natI)))).tx)
        (fun p _ _ _ _ _ _ _ => px_var 6))
      (px_lst (ds := []) ax_nil) ok_arcL (ok_arcL (arcs := []))) (by rw [eqb_nil, near_filter])))
    (fun q _ _ _ _ _ _ _ => px_var 5) ?_ (sw_true rfl rfl rfl (by decide +kernel)))
  refine bx_cons (sx_ret (Nat.le_refl _) (px_add (px_sum (hx := LsOf.d) rfl (ns := ((List.range a.s.length).filter fun p => decide (p ∉ Y)).map fun p => a.s.getD p 0) (ax_cons
      (px_lc (List.range a.s.length) (fun p => .d (.int (p : Nat))) (fun p => [some (.d (.lst (a.s.map .int))), some (.d (.lst (a.d.map .int))), some (.d (.lst (a.arcs.map arcD))), some (.d (.lst ((nI Y).map .int))), some (.d (.lst (((List.range a.d.length).filter fun q => nearC a.arcs Y q).map fun q => .int (q : Nat)))), some (.d (.int (p : Nat))), none]) (fun p => decide (p ∉ Y)) (fun p => .int (a.s.getD p 0)) rfl hnCu (ix_range (ax_cons (px_len (hx := .l .d) (ax_cons (px_var 0) ax_nil) (hm.fr _ (by decide))) ax_nil) (hm.fr _ (by decide)) (hru a.s ok.hs)) (blkOk_by (N := nCu) (sc := defScope sCu) (own := [("_law_k", 5)]) (by decide +kernel)) (by rw [List.length_map]; simp) (fun _ z => nomatch z) (by rw [List.length_range]; exact lt1 (by have := ok.hs; omega))
        (fun _ _ _ _ _ => pn 5 hnCu) (fun q _ => gx_name 5) (by decide)
        (fun p _ _ _ _ _ _ => tsx_one (tx_conv (tx_notInI (ns := nI Y) (by exact hu) (px_var 5) (px_var 3)) (by rw [mem_nI]; by_cases h : p ∈ Y <;> simp [h])))
        (fun p hp _ _ _ _ _ _ => px_ixL (px_var 0) (px_var 5) (atI_map (getD_get (List.mem_range.mp hp))))) ax_nil) (hm.fr _ (by decide)) (by rw [List.map_map]; rfl))
    (px_sum (hx := LsOf.d) rfl (ns := ((List.range a.d.length).filter fun q => nearC a.arcs Y q).map fun q => a.d.getD q 0) (ax_cons
      (px_lc ((List.range a.d.length).filter fun q => nearC a.arcs Y q) (fun q => .d (.int (q : Nat))) (fun q => [some (.d (.lst (a.s.map .int))), some (.d (.lst (a.d.map .int))), some (.d (.lst (a.arcs.map arcD))), some (.d (.lst ((nI Y).map .int))), some (.d (.lst (((List.range a.d.length).filter fun q => nearC a.arcs Y q).map fun q => .int (q : Nat)))), some (.d (.int (q : Nat))), none]) (fun _ => true) (fun q => .int (a.d.getD q 0)) rfl hnCu (ix_ls (px_var 4) .d) (blkOk_by (N := nCu) (sc := defScope sCu) (own := [("_law_k", 5)]) (by decide +kernel)) (by rw [List.map_map]; rfl) (fun _ z => nomatch z) ?_
        (fun _ _ _ _ _ => pn 5 hnCu) (fun q _ => gx_name 5) (by decide) (fun _ _ _ _ _ _ _ => tsx_nil)
        (fun q hq _ _ _ _ _ _ => px_ixL (px_var 1) (px_var 5) (atI_map (getD_get (List.mem_range.mp (List.mem_filter.mp hq).1))))) ax_nil) (hm.fr _ (by decide)) (by rw [filt_true, List.map_map]; rfl))) ⟨rfl, rfl⟩)
  have h1 : ((List.range a.d.length).filter fun q => nearC a.arcs Y q).length ≤ _ := List.length_filter_le _ _
  rw [List.length_range] at h1
  exact lt1 (by have := ok.hd; omega)
end
end K50
namespace K50
open PySem PySem.Spec PyProof.Rows L2 DL
/-! ### _law_is_flow, _law_subsets -/
abbrev sLf : Stmt := topS 11
abbrev nLf : List Str := ["_law_supplies", "_law_demands", "_law_arcs", "_law_flow", "_law_k", "_law_amount", "_law_j"]
theorem scLf : FnScope nLf ["_law_supplies", "_law_demands", "_law_arcs", "_law_flow"] (defScope sLf) := ⟨rfl, rfl, rfl, by decide +kernel, rfl, by decide +kernel, by decide +kernel⟩
theorem hnLf : nLf.Nodup := by decide +kernel
abbrev sSu : Stmt := topS 12
abbrev nSu : List Str := ["_law_count", "_law_found", "_law_k", "_law_part"]
theorem scSu : FnScope nSu ["_law_count"] (defScope sSu) := ⟨rfl, rfl, rfl, by decide +kernel, rfl, by decide +kernel, by decide +kernel⟩
theorem hnSu : nSu.Nodup := by decide +kernel
theorem ok_intL {ns : List Int} : (Dt.lst (ns.map Dt.int)).ok := by
  obtain ⟨h1, h2⟩ := ok_ints ns
  have h3 : PyData.depthAll (Dt.pyL (ns.map Dt.int)) ≤ 1 := by
    clear h1 h2
    induction ns with
    | nil => exact Nat.le_of_ble_eq_true rfl
    | cons a r ih =>
      rw [List.map_cons, Dt.pyL, PyData.depthAll]
      have : (Dt.int a).py.depth = 0 := rfl
      omega
  exact ⟨by rw [Dt.pl]; exact h1, by rw [Dt.py, PyData.plain]; exact h2, by rw [Dt.py, PyData.depth]; omega⟩
theorem zip_range {arcs : List (Nat × Nat)} {fl : List Int} (h : fl.length = arcs.length) : arcs.zip fl = (List.range arcs.length).map fun j => (arcs.getD j (0, 0), fl.getD j 0) := by
  apply List.ext_getElem?
  intro i
  rw [List.getElem?_map]
  by_cases hi : i < arcs.length
  · rw [List.getElem?_range hi, List.getElem?_eq_getElem (by rw [List.length_zip]; omega), List.getElem_zip, Option.map_some, List.getD_eq_getElem?_getD, List.getD_eq_getElem?_getD, List.getElem?_eq_getElem hi, List.getElem?_eq_getElem (by omega)]
    rfl
  · rw [List.getElem?_eq_none (by rw [List.length_zip]; omega), List.getElem?_eq_none (by rw [List.length_range]; omega)]
    rfl
theorem sum_idx {arcs : List (Nat × Nat)} {fl : List Int} {c : Nat × Nat → Bool} (h : fl.length = arcs.length) : (((List.range arcs.length).filter fun j => c (arcs.getD j (0, 0))).map fun j => fl.getD j 0).sum = sumC c arcs fl := by
  unfold sumC
  rw [zip_range h, List.filter_map, List.map_map]
  rfl
def subsN : Nat → List (List Nat)
  | 0 => [[]]
  | k + 1 => subsN k ++ (subsN k).map fun l => l ++ [k]
theorem subsN_len : ∀ k, (subsN k).length = 2 ^ k
  | 0 => rfl
  | k + 1 => by rw [subsN, List.length_append, List.length_map, subsN_len k, Nat.pow_succ]; omega
def partD (Y : List Nat) : Dt := .lst ((nI Y).map .int)
def cSu (n : { n : Nat // n ≤ 10 }) : Ctr := ⟨[.d (.int (n.1 : Nat))], [], fun w Ω => w = .d (.lst ((subsN n.1).map partD)) ∧ Ω = []⟩
theorem partD_snoc {Y : List Nat} {k : Nat} : Dt.lst ((nI Y).map .int ++ [.int (k : Nat)]) = partD (Y ++ [k]) := by
  unfold partD nI
  rw [List.map_append, List.map_append]
  rfl
section
variable {P : Program} {w : World} {K : PySem.W.Frag} {mg : Str → Option Value} {base : Heap} {qual : Str} {Cl f : Addr} {cdv : Value} {A : Around} {outer : List Env} {s : Shared} {H : Hp} {E : XK}
theorem bodyLf (hm : Free mg) (x : { x : IA // IAOk x }) (hr : Room 0 (A.deeper (envOfC qual (defScope sLf) s.heap.objs.size f cdv))) :
    BX (cxOf CX0 P w K mg base nLf qual (defScope sLf) f cdv A outer s H E).nox (cIf x).cs.length (defBody sLf) (startG nLf (cIf x).ws) (cIf x).cs { nx := fun _ Ω' => (cIf x).R (.d .non) Ω', rt := (cIf x).R } := by
  obtain ⟨⟨a, fl⟩, ok, hl⟩ := x
  dsimp only at ok hl
  have hu : A.units + 3 + 64 < cLine := by have := hr.un; have e : (A.deeper (envOfC qual (defScope sLf) s.heap.objs.size f cdv)).units = A.units + 3 := rfl; omega
  have hru : ∀ n : List Int, n.length < 64 → -(2 ^ 62) ≤ (((n.map Dt.int).length : Nat) : Int) ∧ (((n.map Dt.int).length : Nat) : Int) < 2 ^ 62 := fun n h => by rw [List.length_map]; omega
  have hra : -(2 ^ 62) ≤ (((a.arcs.map arcD).length : Nat) : Int) ∧ (((a.arcs.map arcD).length : Nat) : Int) < 2 ^ 62 := by rw [List.length_map]; have := ok.ha; omega
  refine bx_cons (sx_if (Nat.le_refl _) (tx_or (tx_ne (px_len (hx := .l .d) (ax_cons (px_var 3) ax_nil) (hm.fr _ (by decide))) (px_len (hx := .l .d) (ax_cons (px_var 2) ax_nil) (hm.fr _ (by decide)))) (fun _ => tx_or1 (tx_neP (x := .lst ((fl.filter fun x => decide (x < 0)).map .int)) (y := .lst []) (by exact hu)
    (px_lc fl (fun x => .d (.int x)) (fun x => [some (.d (.lst (a.s.map .int))), some (.d (.lst (a.d.map .int))), some (.d (.lst (a.arcs.map arcD))), some (.d (.lst (fl.map .int))), none, some (.d (.int x)), none]) (fun x => decide (x < 0)) (fun x => .int x) rfl hnLf (ix_ls (px_var 3) .d) (blkOk_by (N := nLf) (sc := defScope sLf) (own := [("_law_amount", 5)]) (by decide +kernel)) (by rw [List.map_map]; rfl) (fun _ z => nomatch z) (lt1 hl)
      (fun _ _ _ _ _ => pn 5 hnLf) (fun x _ => gx_name 5) (by decide) (fun _ _ _ _ _ _ _ => tsx_one (tx_lt (px_var 5) px_int)) (fun x _ _ _ _ _ _ _ => px_var 5)) (px_lst (ds := []) ax_nil) ok_intL (ok_intL (ns := []))))).tx (fun hb => ?_) (fun hb => ?_))
  · refine bx_cons (sx_ret (Nat.le_refl _) px_bl ⟨?_, rfl⟩)
    rw [List.length_map, List.length_map, eqb_nil] at hb
    show W.d (.bl false) = W.d (.bl (isFl _ _ _ _))
    congr 2
    unfold isFl
    rcases Bool.or_eq_true_iff.mp hb with h | h
    · have : ¬ fl.length = a.arcs.length := fun e => by
        rw [e, scEq_selfI] at h
        cases h
      rw [decide_eq_false this]
      simp
    · have : fl.all (fun x => decide (0 ≤ x)) = false := by
        rw [List.all_eq_false]
        cases e : fl.filter fun x => decide (x < 0) with
        | nil => rw [e] at h; cases h
        | cons y r =>
          have m : y ∈ fl.filter fun x => decide (x < 0) := by rw [e]; exact List.mem_cons_self ..
          obtain ⟨m1, m2⟩ := List.mem_filter.mp m
          have m2 := of_decide_eq_true m2
          exact ⟨y, m1, fun z => by have := of_decide_eq_true z; omega⟩
      rw [this]
      simp
  · rw [List.length_map, List.length_map, eqb_nil] at hb
    obtain ⟨h1, h2⟩ := Bool.or_eq_false_iff.mp hb
    have e0 : fl.length = a.arcs.length := by
      have h3 : Dt.scEq (.int (fl.length : Nat)) (.int (a.arcs.length : Nat)) = true := by simpa using h1
      have h4 : ((fl.length : Nat) : Int) = (a.arcs.length : Nat) := of_decide_eq_true h3
      omega
    have e1 : decide (fl.length = a.arcs.length) = true := decide_eq_true e0
    have e2 : fl.all (fun x => decide (0 ≤ x)) = true := by
      rw [List.all_eq_true]
      intro x hx
      apply decide_eq_true
      rcases Int.lt_or_le x 0 with g | g
      · have m : x ∈ fl.filter fun x => decide (x < 0) := List.mem_filter.mpr ⟨hx, decide_eq_true g⟩
        cases e : fl.filter fun x => decide (x < 0) with
        | nil => rw [e] at m; exact nomatch m
        | cons y r => rw [e] at h2; cases h2
      · exact g
    refine bx_nil ?_
    refine bx_mid (fun Γ Ω => ∃ g, Γ = [some (.d (.lst (a.s.map .int))), some (.d (.lst (a.d.map .int))), some (.d (.lst (a.arcs.map arcD))), some (.d (.lst (fl.map .int))), g, none, none] ∧ Ω = [] ∧ ∀ p, p < a.s.length → 0 ≤ restS a.s a.arcs fl p)
      (sx_for (List.range a.s.length) (fun k => .d (.int (k : Nat))) (fun i Γ Ω => ∃ g, Γ = [some (.d (.lst (a.s.map .int))), some (.d (.lst (a.d.map .int))), some (.d (.lst (a.arcs.map arcD))), some (.d (.lst (fl.map .int))), g, none, none] ∧ Ω = [] ∧ ∀ p, p < i → 0 ≤ restS a.s a.arcs fl p) (fun _ k Γ => Γ.set 4 (some (.d (.int (k : Nat))))) (Nat.le_refl _) (ix_range (ax_cons (px_len (hx := .l .d) (ax_cons (px_var 0) ax_nil) (hm.fr _ (by decide))) ax_nil) (hm.fr _ (by decide)) (hru a.s ok.hs)) (by simp) ⟨none, rfl, rfl, fun p h => absurd h (Nat.not_lt_zero _)⟩ (fun _ _ _ _ _ z => nomatch z) (pn 4 hnLf) (fun _ _ _ _ _ _ => gx_name 4) ?_ ?_ PassesOwn.never) ?_
    · rintro i k Γ' Ω' hk ⟨g, rfl, rfl, hp⟩
      have hkl := List.mem_range.mp (List.mem_of_getElem? hk)
      have hik : k = i := by
        have hi := (List.getElem?_eq_some_iff.mp hk).1
        rw [List.length_range] at hi
        rw [List.getElem?_range hi] at hk
        exact (Option.some.inj hk).symm
      subst hik
      refine bx_cons (sx_if (Nat.le_refl _) (tx_gt (px_sum (hx := LsOf.d) rfl (ns := ((List.range a.arcs.length).filter fun j => decide ((a.arcs.getD j (0, 0)).1 = k)).map fun j => fl.getD j 0) (ax_cons
        (px_lc (List.range a.arcs.length) (fun j => .d (.int (j : Nat))) (fun j => [some (.d (.lst (a.s.map .int))), some (.d (.lst (a.d.map .int))), some (.d (.lst (a.arcs.map arcD))), some (.d (.lst (fl.map .int))), some (.d (.int (k : Nat))), none, some (.d (.int (j : Nat)))]) (fun j => decide ((a.arcs.getD j (0, 0)).1 = k)) (fun j => .int (fl.getD j 0)) rfl hnLf (ix_range (ax_cons (px_len (hx := .l .d) (ax_cons (px_var 2) ax_nil) (hm.fr _ (by decide))) ax_nil) (hm.fr _ (by decide)) hra) (blkOk_by (N := nLf) (sc := defScope sLf) (own := [("_law_j", 6)]) (by decide +kernel)) (by rw [List.length_map]; simp) (fun _ z => nomatch z) (by rw [List.length_range]; exact lt1 ok.ha)
          (fun _ _ _ _ _ => pn 6 hnLf) (fun x _ => gx_name 6) (by decide) (fun j hj _ _ _ _ _ => tsx_one (tx_conv (tx_eq (px_ixT (px_ixL (px_var 2) (px_var 6) (atI_map (f := arcD) (getD_get (d := (0, 0)) (List.mem_range.mp hj)))) px_int) (px_var 4)) (by exact natI))) (fun j hj _ _ _ _ _ _ => px_ixL (px_var 3) (px_var 6) (atI_map (getD_get (by rw [e0]; exact List.mem_range.mp hj))))) ax_nil) (hm.fr _ (by decide)) (by rw [List.map_map]; rfl)) (px_ixL (px_var 0) (px_var 4) (atI_map (getD_get (d := 0) hkl)))) (fun hb => ?_) (fun hb => ?_))
      · have hb := of_decide_eq_true hb
        rw [sum_idx (c := fun p : Nat × Nat => decide (p.1 = k)) e0] at hb
        refine bx_cons (sx_ret (Nat.le_refl _) px_bl ⟨?_, rfl⟩)
        show W.d (.bl false) = W.d (.bl (isFl _ _ _ _))
        congr 2
        unfold isFl
        have : (List.range a.s.length).all (fun p => decide (0 ≤ restS a.s a.arcs fl p)) = false := by
          rw [List.all_eq_false]
          refine ⟨k, List.mem_range.mpr hkl, fun z => ?_⟩
          have z := of_decide_eq_true z
          unfold restS at z
          rw [usedS_sum] at z
          omega
        rw [this]
        simp
      · have hb := of_decide_eq_false hb
        rw [sum_idx (c := fun p : Nat × Nat => decide (p.1 = k)) e0] at hb
        refine bx_nil (bx_nil ⟨_, rfl, rfl, fun p hp' => ?_⟩)
        by_cases e : p = k
        · subst e
          unfold restS
          rw [usedS_sum]
          omega
        · exact hp p (by omega)
    · rintro Γ' Ω' ⟨g, rfl, rfl, hp⟩
      exact ⟨g, rfl, rfl, fun p h => hp p (by rw [List.length_range]; exact h)⟩
    · rintro Γ' Ω' ⟨g, rfl, rfl, hS⟩
      refine bx_mid (fun Γ Ω => ∃ g, Γ = [some (.d (.lst (a.s.map .int))), some (.d (.lst (a.d.map .int))), some (.d (.lst (a.arcs.map arcD))), some (.d (.lst (fl.map .int))), g, none, none] ∧ Ω = [] ∧ ∀ p, p < a.d.length → 0 ≤ restD a.d a.arcs fl p)
        (sx_for (List.range a.d.length) (fun k => .d (.int (k : Nat))) (fun i Γ Ω => ∃ g, Γ = [some (.d (.lst (a.s.map .int))), some (.d (.lst (a.d.map .int))), some (.d (.lst (a.arcs.map arcD))), some (.d (.lst (fl.map .int))), g, none, none] ∧ Ω = [] ∧ ∀ p, p < i → 0 ≤ restD a.d a.arcs fl p) (fun _ k Γ => Γ.set 4 (some (.d (.int (k : Nat))))) (Nat.le_refl _) (ix_range (ax_cons (px_len (hx := .l .d) (ax_cons (px_var 1) ax_nil) (hm.fr _ (by decide))) ax_nil) (hm.fr _ (by decide)) (hru a.d ok.hd)) (by simp) ⟨_, rfl, rfl, fun p h => absurd h (Nat.not_lt_zero _)⟩ (fun _ _ _ _ _ z => nomatch z) (pn 4 hnLf) (fun _ _ _ _ _ _ => gx_name 4) ?_ ?_ PassesOwn.never) ?_
      · rintro i k Γ' Ω' hk ⟨g, rfl, rfl, hp⟩
        have hkl := List.mem_range.mp (List.mem_of_getElem? hk)
        have hik : k = i := by
          have hi := (List.getElem?_eq_some_iff.mp hk).1
          rw [List.length_range] at hi
          rw [List.getElem?_range hi] at hk
          exact (Option.some.inj hk).symm
        subst hik
        refine bx_cons (sx_if (Nat.le_refl _) (tx_gt (px_sum (hx := LsOf.d) rfl (ns := ((List.range a.arcs.length).filter fun j => decide ((a.arcs.getD j (0, 0)).2 = k)).map fun j => fl.getD j 0) (ax_cons
          (px_lc (List.range a.arcs.length) (fun j => .d (.int (j : Nat))) (fun j => [some (.d (.lst (a.s.map .int))), some (.d (.lst (a.d.map .int))), some (.d (.lst (a.arcs.map arcD))), some (.d (.lst (fl.map .int))), some (.d (.int (k : Nat))), none, some (.d (.int (j : Nat)))]) (fun j => decide ((a.arcs.getD j (0, 0)).2 = k)) (fun j => .int (fl.getD j 0)) rfl hnLf (ix_range (ax_cons (px_len (hx := .l .d) (ax_cons (px_var 2) ax_nil) (hm.fr _ (by decide))) ax_nil) (hm.fr _ (by decide)) hra) (blkOk_by (N := nLf) (sc := defScope sLf) (own := [("_law_j", 6)]) (by decide +kernel)) (by rw [List.length_map]; simp) (fun _ z => nomatch z) (by rw [List.length_range]; exact lt1 ok.ha)
            (fun _ _ _ _ _ => pn 6 hnLf) (fun x _ => gx_name 6) (by decide) (fun j hj _ _ _ _ _ => tsx_one (tx_conv (tx_eq (px_ixT (px_ixL (px_var 2) (px_var 6) (atI_map (f := arcD) (getD_get (d := (0, 0)) (List.mem_range.mp hj)))) px_int) (px_var 4)) (by exact natI))) (fun j hj _ _ _ _ _ _ => px_ixL (px_var 3) (px_var 6) (atI_map (getD_get (by rw [e0]; exact List.mem_range.mp hj))))) ax_nil) (hm.fr _ (by decide)) (by rw [List.map_map]; rfl)) (px_ixL (px_var 1) (px_var 4) (atI_map (getD_get (d := 0) hkl)))) (fun hb => ?_) (fun hb => ?_))
        · have hb := of_decide_eq_true hb
          rw [sum_idx (c := fun p : Nat × Nat => decide (p.2 = k)) e0] at hb
          refine bx_cons (sx_ret (Nat.le_refl _) px_bl ⟨?_, rfl⟩)
          show W.d (.bl false) = W.d (.bl (isFl _ _ _ _))
          congr 2
          unfold isFl
          have : (List.range a.d.length).all (fun p => decide (0 ≤ restD a.d a.arcs fl p)) = false := by
            rw [List.all_eq_false]
            refine ⟨k, List.mem_range.mpr hkl, fun z => ?_⟩
            have z := of_decide_eq_true z
            unfold restD at z
            rw [usedD_sum] at z
            omega
          rw [this]
          simp
        · have hb := of_decide_eq_false hb
          rw [sum_idx (c := fun p : Nat × Nat => decide (p.2 = k)) e0] at hb
          refine bx_nil (bx_nil ⟨_, rfl, rfl, fun p hp' => ?_⟩)
          by_cases e : p = k
          · subst e
            unfold restD
            rw [usedD_sum]
            omega
          · exact hp p (by omega)
      · rintro Γ' Ω' ⟨g, rfl, rfl, hp⟩
        exact ⟨g, rfl, rfl, fun p h => hp p (by rw [List.length_range]; exact h)⟩
      · rintro Γ' Ω' ⟨g, rfl, rfl, hD⟩
        refine bx_cons (sx_ret (Nat.le_refl _) px_bl ⟨?_, rfl⟩)
        show W.d (.bl true) = W.d (.bl (isFl _ _ _ _))
        congr 2
        unfold isFl
        have e3 : (List.range a.s.length).all (fun p => decide (0 ≤ restS a.s a.arcs fl p)) = true := List.all_eq_true.mpr fun p hp => decide_eq_true (hS p (List.mem_range.mp hp))
        have e4 : (List.range a.d.length).all (fun p => decide (0 ≤ restD a.d a.arcs fl p)) = true := List.all_eq_true.mpr fun p hp => decide_eq_true (hD p (List.mem_range.mp hp))
        rw [e1, e2, e3, e4]
        rfl
theorem bodySu (hm : Free mg) (n : { n : Nat // n ≤ 10 }) :
    BX (cxOf CX0 P w K mg base nSu qual (defScope sSu) f cdv A outer s H E).nox (cSu n).cs.length (defBody sSu) (startG nSu (cSu n).ws) (cSu n).cs { nx := fun _ Ω' => (cSu n).R (.d .non) Ω', rt := (cSu n).R } := by
  obtain ⟨n, hn⟩ := n
  have hn2 : -(2 ^ 62) ≤ ((n : Nat) : Int) ∧ ((n : Nat) : Int) < 2 ^ 62 := by omega
  refine bx_cons (sx_asg (Nat.le_refl _) (px_lst (ds := [.lst []]) (ax_cons (px_lst (ds := []) ax_nil) ax_nil)) (pn 1 hnSu) (gx_name 1) ?_)
  refine bx_cons (sx_for (List.range n) (fun k => .d (.int (k : Nat))) (fun i Γ Ω => ∃ g, Γ = [some (.d (.int (n : Nat))), some (.d (.lst ((subsN i).map partD))), g, none] ∧ Ω = []) (fun _ k Γ => Γ.set 2 (some (.d (.int (k : Nat))))) (Nat.le_refl _) (ix_range (ax_cons (px_var 0) ax_nil) (hm.fr _ (by decide)) hn2) (by simp) ⟨none, rfl, rfl⟩ (fun _ _ _ _ _ z => nomatch z) (pn 2 hnSu) (fun _ _ _ _ _ _ => gx_name 2) ?_ ?_ PassesOwn.never)
  · rintro i k Γ' Ω' hk ⟨g, rfl, rfl⟩
    have hi := (List.getElem?_eq_some_iff.mp hk).1
    rw [List.length_range] at hi
    obtain rfl : i = k := by
      rw [List.getElem?_range hi] at hk
      exact Option.some.inj hk
    have hlen : (subsN i).length ≤ 1024 := by
      rw [subsN_len]
      exact Nat.pow_le_pow_right (by decide) (show i ≤ 10 by omega)
    have hy : ∀ l ∈ subsN i, l.length ≤ i := by
      clear hk hi hlen hn
      induction i with
      | zero => intro l hl; rw [subsN, List.mem_singleton] at hl; subst hl; exact Nat.le_refl _
      | succ i ih =>
        intro l hl
        rw [subsN] at hl
        rcases List.mem_append.mp hl with h | h
        · have := ih l h; omega
        · obtain ⟨l', h', rfl⟩ := List.mem_map.mp h
          have := ih l' h'
          rw [List.length_append, List.length_singleton]; omega
    have e : (subsN (i + 1)).map partD = (subsN i).map partD ++ ((subsN i).filter fun _ => true).map fun Y => Dt.lst ((nI Y).map .int ++ [.int (i : Nat)]) := by
      rw [subsN, List.map_append, filt_true, List.map_map]
      congr 1
      apply List.map_congr_left
      intro Y _
      exact partD_snoc.symm
    refine bx_cons (sx_asg (Nat.le_refl _) (px_cat (hx := LtOf.d) (hy := LtOf.d) (px_var 1)
      (px_lc (subsN i) (fun Y => .d (partD Y)) (fun Y => [some (.d (.int (n : Nat))), some (.d (.lst ((subsN i).map partD))), some (.d (.int (i : Nat))), some (.d (partD Y))]) (fun _ => true) (fun Y => .lst ((nI Y).map .int ++ [.int (i : Nat)])) rfl hnSu (ix_ls (px_var 1) .d) (blkOk_by (N := nSu) (sc := defScope sSu) (own := [("_law_part", 3)]) (by decide +kernel)) (by rw [List.map_map]; rfl) (fun _ z => nomatch z) (lt1 (by omega))
        (fun _ _ _ _ _ => pn 3 hnSu) (fun x _ => gx_name 3) (by decide) (fun _ _ _ _ _ _ _ => tsx_nil)
        (fun Y hY _ _ _ _ _ _ => px_cat (ds := (nI Y).map .int) (es' := [.int (i : Nat)]) (hx := LtOf.d) (hy := LtOf.d) (px_var 3) (px_lst (ds := [.int (i : Nat)]) (ax_cons (px_var 2) ax_nil)) (by
          have h0 := hy Y hY
          have := lt1 (n := i + 1) (by omega)
          unfold nI
          rw [List.length_map, List.length_map, List.length_singleton]
          omega)))
      (by
        have := lt1 (n := 4096) (by decide)
        rw [List.length_map, List.length_map, filt_true]
        omega)) (pn 1 hnSu) (gx_name 1) (bx_nil ⟨some (.d (.int (i : Nat))), ?_, rfl⟩))
    rw [e]
    rfl
  · rintro Γ' Ω' ⟨g, rfl, rfl⟩
    exact bx_cons (sx_ret (Nat.le_refl _) (px_var 1) ⟨by rw [List.length_range], rfl⟩)
end
end K50
namespace K50
open PySem PySem.Spec PyProof.Rows L2 DL
abbrev sBe : Stmt := topS 13
abbrev nBe : List Str := ["_law_draws_here", "_law_flow", "_law_kind", "_law_at", "_law_more"]
theorem scBe : FnScope nBe ["_law_draws_here", "_law_flow"] (defScope sBe) := ⟨rfl, rfl, rfl, by decide +kernel, rfl, by decide +kernel, by decide +kernel⟩
theorem hnBe : nBe.Nodup := by decide +kernel
def cBe (x : { x : List Int × List Int // x.2.length ≤ 90000 }) : Ctr := ⟨[.l 0, .d (.lst (x.1.2.map .int))], [drO x.1.1], fun w Ω => ∃ (l fl : List Int), w = .d (.lst (fl.map .int)) ∧ Ω = [drO l] ∧ fl.length ≤ 2 * x.1.2.length + 1⟩
theorem tkAt {l : List Int} {b : Int} {h : 0 < b} {Ω : Om} {n : Nat} (e : Ω[n]? = some (drO l)) : CallAt (cTk ⟨(l, b), h⟩) [n] Ω [.l n, .d (.int b)] :=
  ⟨rfl, by simp, rfl, rfl, rfl, fun j m hj => match j, hj with
    | 0, hj => by cases hj; exact e
    | j + 1, hj => by simp at hj⟩
theorem tkPut {Ω : Om} {n : Nat} {od : OD} : putC Ω [n] [od] = Ω.set n od := by
  show Ω.set n od ++ [] = _
  exact List.append_nil _
section
variable {X : Cx} {o b : Expr} {Γ : Gm} {Ω Ω1 Ω2 : Om} {n j : Nat} {l : List Int} {v : Int} {p pos : Pos}
theorem px_take (htk : DefOk X.prog X.w X.K X.mg X.base "_law_take" 1 ["_law_draws_here", "_law_bound"] cTk) (hr : Room 1 X.A) (hb : 0 < v) (h : Ω2[n]? = some (drO l)) (ho : PX X o Γ Ω (.l n) Ω1) (hbx : PX X b Γ Ω1 (.d (.int v)) Ω2)
    (hg : Gl X "_law_take" := by rfl) (he : starEach [o, b] X.env = (false, eval o X.env) :: starEach [b] X.env := by rfl) (he2 : starEach [b] X.env = (false, eval b X.env) :: starEach [] X.env := by rfl) (hpl : (backTo pos (starEach [b] X.env)).any (·.1) = false := by rfl) : PX X (.Call (.Name "_law_take" p) [o, b] [] pos) Γ Ω (.d (.int (tk l v))) (Ω2.set n (drO l.tail)) :=
  px_call htk hr ⟨(l, v), hb⟩ [n] (ax_cons ho (ax_cons hbx ax_nil he2) he) (tkAt h) (fun w' Ω' hR => by
    obtain ⟨rfl, rfl⟩ := hR
    exact ⟨rfl, tkPut⟩) hg (by decide) he hpl
end
theorem cutA_map {α β : Type} {f : α → β} {xs : List α} {lo hi : Option Int} : cutA (xs.map f) lo hi = (cutA xs lo hi).map f := by
  unfold cutA
  rw [List.length_map, List.map_take, List.map_drop]
theorem cutA_len {α : Type} {xs : List α} {lo hi : Option Int} : (cutA xs lo hi).length ≤ xs.length := by
  unfold cutA
  rw [List.length_take, List.length_drop]
  omega
theorem four {v : Int} (h0 : 0 ≤ v) (h1 : v < 4) : ∃ m : Int, atI ([.int 1, .int (-1), .int 2, .int (-3)] : List Dt) v = some (.int m) := by
  have : v = 0 ∨ v = 1 ∨ v = 2 ∨ v = 3 := by omega
  rcases this with rfl | rfl | rfl | rfl
  · exact ⟨1, rfl⟩
  · exact ⟨-1, rfl⟩
  · exact ⟨2, rfl⟩
  · exact ⟨-3, rfl⟩
section
variable {P : Program} {w : World} {K : PySem.W.Frag} {mg : Str → Option Value} {base : Heap} {qual : Str} {Cl f : Addr} {cdv : Value} {A : Around} {outer : List Env} {s : Shared} {H : Hp} {E : XK}
theorem bodyBe (hm : Free mg) (htk : DefOk P w K mg base "_law_take" 1 ["_law_draws_here", "_law_bound"] cTk) (x : { x : List Int × List Int // x.2.length ≤ 90000 }) (hr : Room 1 (A.deeper (envOfC qual (defScope sBe) s.heap.objs.size f cdv))) :
    BX (cxOf CX0 P w K mg base nBe qual (defScope sBe) f cdv A outer s H E).nox (cBe x).cs.length (defBody sBe) (startG nBe (cBe x).ws) (cBe x).cs { nx := fun _ Ω' => (cBe x).R (.d .non) Ω', rt := (cBe x).R } := by
  obtain ⟨⟨l, fl⟩, hl⟩ := x
  dsimp only at hl
  have hu : A.units + 3 + 64 < cLine := by have := hr.un; have e : (A.deeper (envOfC qual (defScope sBe) s.heap.objs.size f cdv)).units = A.units + 3 := rfl; omega
  have hz : ∀ n m : Nat, n ≤ 190000 → m ≤ 90001 → n + m ≤ sizeLine := fun n m h1 h2 => by have := line63; rw [sizeLine_eq]; omega
  refine bx_cons (sx_asg (Nat.le_refl _) (px_take (v := 5) (l := l) htk hr (by decide) rfl (px_var 0) px_int) (pn 2 hnBe) (gx_name 2) ?_)
  refine bx_cons (sx_if (Nat.le_refl _) (tx_or (tx_eq (px_var 2) px_int) (fun _ => tx_or1 (tx_eqP (x := .lst (fl.map .int)) (y := .lst []) (by exact hu) (px_var 1) (px_lst (ds := []) ax_nil) ok_intL (ok_intL (ns := []))))).tx (fun _ => ?_) (fun hb => ?_))
  · refine bx_cons (sx_ret (Nat.le_refl _) (px_cat (hx := LtOf.d) (hy := LtOf.d) (px_var 1) (px_lst (ds := [.int 0]) (ax_cons px_int ax_nil)) (by show (fl.map Dt.int).length + 1 ≤ sizeLine; rw [List.length_map]; exact hz _ _ (by omega) (by decide))) ⟨l.tail, fl ++ [0], ?_, rfl, ?_⟩)
    · rw [List.map_append]; rfl
    · show (fl ++ [0]).length ≤ 2 * fl.length + 1
      rw [List.length_append, List.length_singleton]; omega
  · rw [eqb_nil] at hb
    have hne : (fl.map Dt.int).isEmpty = false := (Bool.or_eq_false_iff.mp hb).2
    have hpos : (0 : Int) < ((fl.map Dt.int).length : Nat) := by
      cases fl with
      | nil => cases hne
      | cons a r => rw [List.length_map, List.length_cons]; omega
    refine bx_nil (bx_cons (sx_asg (Nat.le_refl _) (px_take (v := ((fl.map Dt.int).length : Nat)) (l := l.tail) htk hr hpos rfl (px_var 0) (px_len (hx := .l .d) (ax_cons (px_var 1) ax_nil) (hm.fr _ (by decide)))) (pn 3 hnBe) (gx_name 3) ?_))
    generalize hat : tk l.tail ((fl.map Dt.int).length : Nat) = at_
    have a0 : 0 ≤ at_ := by rw [← hat]; exact tk_nn hpos
    have a1 : at_ < (fl.map Dt.int).length := by rw [← hat]; exact tk_lt hpos
    rw [List.length_map] at a1
    obtain ⟨at_, rfl⟩ : ∃ n : Nat, at_ = (n : Nat) := ⟨at_.toNat, by omega⟩
    have a2 : at_ < fl.length := by omega
    have cl : ∀ lo hi, (cutA (fl.map Dt.int) lo hi).length ≤ fl.length := fun lo hi => by
      have := cutA_len (xs := fl.map Dt.int) (lo := lo) (hi := hi)
      rw [List.length_map] at this
      exact this
    refine bx_cons (sx_if (Nat.le_refl _) (tx_eq (px_var 2) px_int) (fun _ => ?_) (fun _ => bx_nil ?_))
    · refine bx_cons (sx_ret (Nat.le_refl _) (px_cat (hx := LtOf.d) (hy := LtOf.d) (px_slL (hx := LsOf.d) (px_var 1) ox_none (ox_some (px_var 3))) (px_slL (hx := LsOf.d) (px_var 1) (ox_some (px_add (px_var 3) px_int)) ox_none) ?_) ⟨_, cutA fl none (some (at_ : Nat)) ++ cutA fl (some ((at_ : Nat) + 1)) none, ?_, rfl, ?_⟩)
      · exact hz _ _ (Nat.le_trans (cl _ _) (by omega)) (Nat.le_trans (cl _ _) (by omega))
      · rw [cutA_map, cutA_map, List.map_append]
      · show (cutA fl none (some ((at_ : Nat) : Int)) ++ cutA fl (some (((at_ : Nat) : Int) + 1)) none).length ≤ 2 * fl.length + 1
        have h1 := cutA_len (xs := fl) (lo := none) (hi := some ((at_ : Nat) : Int))
        have h2 := cutA_len (xs := fl) (lo := some (((at_ : Nat) : Int) + 1)) (hi := none)
        rw [List.length_append]
        omega
    · obtain ⟨m, em⟩ := four (tk_nn (l := l.tail.tail) (b := 4) (by decide)) (tk_lt (by decide))
      refine bx_cons (sx_asg (Nat.le_refl _) (px_ixL (hx := LsOf.d) (px_lst (ds := [.int 1, .int (-1), .int 2, .int (-3)]) (ax_cons px_int (ax_cons (px_neg px_int) (ax_cons px_int (ax_cons (px_neg px_int) ax_nil))))) (px_take (v := 4) (l := l.tail.tail) htk hr (by decide) rfl (px_var 0) px_int) em) (pn 4 hnBe) (gx_name 4) ?_)
      refine bx_cons (sx_ret (Nat.le_refl _) (px_cat (hx := LtOf.d) (hy := LtOf.d) (px_cat (hx := LtOf.d) (hy := LtOf.d) (px_slL (hx := LsOf.d) (px_var 1) ox_none (ox_some (px_var 3))) (px_lst (ds := [.int (fl.getD at_ 0 + m)]) (ax_cons (px_add (px_ixL (hx := LsOf.d) (px_var 1) (px_var 3) (atI_map (getD_get a2))) (px_var 4)) ax_nil)) ?_) (px_slL (hx := LsOf.d) (px_var 1) (ox_some (px_add (px_var 3) px_int)) ox_none) ?_) ⟨_, cutA fl none (some (at_ : Nat)) ++ [fl.getD at_ 0 + m] ++ cutA fl (some ((at_ : Nat) + 1)) none, ?_, rfl, ?_⟩)
      · exact hz _ _ (Nat.le_trans (cl _ _) (by omega)) (Nat.le_of_ble_eq_true rfl)
      · exact hz _ _ (by rw [List.length_append, List.length_singleton]; exact Nat.le_trans (Nat.add_le_add_right (cl _ _) 1) (by omega)) (Nat.le_trans (cl _ _) (by omega))
      · rw [cutA_map, cutA_map, List.map_append, List.map_append]; rfl
      · show (cutA fl none (some ((at_ : Nat) : Int)) ++ [fl.getD at_ 0 + m] ++ cutA fl (some (((at_ : Nat) : Int) + 1)) none).length ≤ 2 * fl.length + 1
        have h1 := cutA_len (xs := fl) (lo := none) (hi := some ((at_ : Nat) : Int))
        have h2 := cutA_len (xs := fl) (lo := some (((at_ : Nat) : Int) + 1)) (hi := none)
        have h3 : (cutA fl none (some ((at_ : Nat) : Int))).length + (cutA fl (some (((at_ : Nat) : Int) + 1)) none).length ≤ 2 * fl.length := by omega
        rw [List.length_append, List.length_append, List.length_singleton]
        omega
end
end K50
namespace K50
open PySem PySem.Spec PyProof.Rows L2 DL
abbrev sNe : Stmt := topS 9
abbrev nNe : List Str := ["_law_draws_here", "_law_most", "_law_high", "_law_supplies", "_law_demands", "_law_arcs", "_law_share", "_law_one", "_law_two", "_law_k", "_law_row"]
theorem scNe : FnScope nNe ["_law_draws_here", "_law_most", "_law_high"] (defScope sNe) := ⟨rfl, rfl, rfl, by decide +kernel, rfl, by decide +kernel, by decide +kernel⟩
theorem hnNe : nNe.Nodup := by decide +kernel
structure EA where
  l : List Int
  most : Nat
  high : Int
def netDt (a : GA) : Dt := .lst [.lst (a.s.map .int), .lst (a.d.map .int), .lst (a.arcs.map arcD)]
def cNe (x : { x : EA // x.most ≤ 6 ∧ 0 < x.high }) : Ctr := ⟨[.l 0, .d (.int (x.1.most : Nat)), .d (.int x.1.high)], [drO x.1.l], fun w Ω => ∃ (l : List Int) (a : GA), GAOk a ∧ a.s.length ≤ x.1.most ∧ a.d.length ≤ x.1.most ∧ a.arcs.length ≤ 36 ∧ (∀ v ∈ a.s, v < x.1.high) ∧ (∀ v ∈ a.d, v < x.1.high) ∧ w = .d (netDt a) ∧ Ω = [drO l]⟩
/-- the next n draws -/
def valsN (l : List Int) (h : Int) (n : Nat) : List Int := (List.range n).map fun i => tk (l.drop i) h
theorem valsN_nn {l : List Int} {h : Int} (hh : 0 < h) {n : Nat} (p : Nat) : 0 ≤ (valsN l h n).getD p 0 := by
  unfold valsN
  rw [List.getD_eq_getElem?_getD, List.getElem?_map]
  cases e : (List.range n)[p]? with
  | none => exact Int.le_refl _
  | some i => exact tk_nn hh
theorem valsN_lt {l : List Int} {h : Int} (hh : 0 < h) {n : Nat} : ∀ v ∈ valsN l h n, v < h := fun v hv => by
  obtain ⟨i, _, rfl⟩ := List.mem_map.mp hv
  exact tk_lt hh
def numd (l : List Int) (h : Int) (n : Nat) : List (Nat × Int) := (List.range n).map fun i => (i, tk (l.drop i) h)
theorem numd_get {l : List Int} {h : Int} {n i : Nat} {x : Nat × Int} (e : (numd l h n)[i]? = some x) : x = (i, tk (l.drop i) h) := by
  unfold numd at e
  rw [List.getElem?_map] at e
  obtain ⟨j, ej, rfl⟩ := Option.map_eq_some_iff.mp e
  have hi := (List.getElem?_eq_some_iff.mp ej).1
  rw [List.length_range] at hi
  rw [List.getElem?_range hi] at ej
  cases ej
  rfl
theorem numd_vals {l : List Int} {h : Int} {n : Nat} : (((numd l h n).filter fun _ => true).map fun x => Dt.int x.2) = (valsN l h n).map .int := by
  rw [filt_true]
  unfold numd valsN
  rw [List.map_map, List.map_map]
  rfl
theorem drop_tail {l : List Int} {i : Nat} : (l.drop i).tail = l.drop (i + 1) := List.tail_drop
def rowD (r : Int × (Nat × Nat)) : Dt := .lst [.int r.1, arcD r.2]
theorem rows_ok {rows : List (Int × (Nat × Nat))} : Dt.plL (rows.map rowD) = true := by
  induction rows with
  | nil => rfl
  | cons r rs ih => rw [List.map_cons, Dt.plL, ih]; rfl
theorem rows_alike {rows : List (Int × (Nat × Nat))} : PySem.W.AllAlike ((rows.map rowD).map Dt.py) := by
  intro d hd d' hd'
  rw [List.map_map] at hd hd'
  obtain ⟨r, _, rfl⟩ := List.mem_map.mp hd
  obtain ⟨r', _, rfl⟩ := List.mem_map.mp hd'
  rfl
theorem rows_sortable {rows : List (Int × (Nat × Nat))} : PySem.W.Sortable ((rows.map rowD).map Dt.py) := by
  refine .inr fun d hd => ?_
  rw [List.map_map] at hd
  obtain ⟨r, _, rfl⟩ := List.mem_map.mp hd
  exact ⟨fun z => (by cases z), fun xs z => (by cases z)⟩
def sortR (rows : List (Int × (Nat × Nat))) : List (Int × (Nat × Nat)) := rows.mergeSort fun a b => PySem.W.dataLe false Dt.py (rowD a) (rowD b)
theorem sortR_map {rows : List (Int × (Nat × Nat))} : (rows.map rowD).mergeSort (PySem.W.dataLe false Dt.py) = (sortR rows).map rowD := (List.map_mergeSort (f := rowD) (r := fun a b => PySem.W.dataLe false Dt.py (rowD a) (rowD b)) fun _ _ _ _ => rfl).symm
theorem sortR_perm {rows : List (Int × (Nat × Nat))} : (sortR rows).Perm rows := List.mergeSort_perm ..
section
variable {P : Program} {w : World} {K : PySem.W.Frag} {mg : Str → Option Value} {base : Heap} {qual : Str} {Cl f : Addr} {cdv : Value} {A : Around} {outer : List Env} {s : Shared} {H : Hp} {E : XK}
theorem bodyNe (hm : Free mg) (htk : DefOk P w K mg base "_law_take" 1 ["_law_draws_here", "_law_bound"] cTk) (x : { x : EA // x.most ≤ 6 ∧ 0 < x.high }) (hr : Room 1 (A.deeper (envOfC qual (defScope sNe) s.heap.objs.size f cdv))) :
    BX (cxOf CX0 P w K mg base nNe qual (defScope sNe) f cdv A outer s H E).nox (cNe x).cs.length (defBody sNe) (startG nNe (cNe x).ws) (cNe x).cs { nx := fun _ Ω' => (cNe x).R (.d .non) Ω', rt := (cNe x).R } := by
  obtain ⟨⟨l, most, high⟩, hmo, hhi⟩ := x
  dsimp only at hmo hhi
  have hu : A.units + 3 + 64 < cLine := by have := hr.un; have e : (A.deeper (envOfC qual (defScope sNe) s.heap.objs.size f cdv)).units = A.units + 3 := rfl; omega
  have hb : (0 : Int) < (most : Nat) + 1 := by omega
  have n1a := tk_nn (l := l) hb
  have n1b := tk_lt (l := l) hb
  obtain ⟨n1, e1⟩ : ∃ n1 : Nat, tk l ((most : Nat) + 1) = (n1 : Nat) := ⟨_, (Int.toNat_of_nonneg n1a).symm⟩
  have n1c : n1 ≤ most := by omega
  refine bx_cons (sx_lcE 3 (numd l.tail high n1) (fun x => .d (.int (x.1 : Nat))) (fun x => [some (.l 0), some (.d (.int (most : Nat))), some (.d (.int high)), none, none, none, none, none, none, some (.d (.int (x.1 : Nat))), none]) (fun _ => true) (fun x => .int x.2) (fun i => [drO (l.tail.drop i)]) (fun i => [drO (l.tail.drop i)]) (EndC.d .ls) (Nat.le_refl _) rfl hnNe
    (ix_range (ax_cons (px_take (v := (most : Nat) + 1) (l := l) htk hr hb rfl (px_var 0) (px_add (px_var 1) px_int)) ax_nil) (hm.fr _ (by decide)) (by omega)) (blkOk_by (N := nNe) (sc := defScope sNe) (own := [("_law_k", 9)]) (by decide +kernel)) (by rw [e1, Int.toNat_natCast]; unfold numd; rw [List.map_map]; rfl) (fun _ _ z => nomatch z) (by unfold numd; rw [List.length_map, List.length_range]; exact lt1 (by omega))
    (fun _ _ _ _ _ => pn 9 hnNe) (fun _ _ => gx_name 9) (by decide) (fun _ _ _ h => by cases h) (fun i x hx _ _ _ _ _ => tse_nil)
    (fun i x hx _ _ _ _ _ _ => by
      have ex := numd_get hx
      subst ex
      exact px_convO (px_take (v := high) (l := l.tail.drop i) htk hr hhi rfl (px_var 0) (px_var 2)) (by rw [← drop_tail]; rfl)) ?_ (sw_true rfl rfl rfl (by decide +kernel)))
  rw [numd_vals]
  generalize hs : valsN l.tail high n1 = s1
  have hs0 : ∀ p, 0 ≤ s1.getD p 0 := by rw [← hs]; exact valsN_nn hhi
  have hs1 : ∀ v ∈ s1, v < high := by rw [← hs]; exact valsN_lt hhi
  have hs2 : s1.length ≤ most := by rw [← hs]; unfold valsN; rw [List.length_map, List.length_range]; exact n1c
  generalize l.tail.drop (numd l.tail high n1).length = l2
  have n2a := tk_nn (l := l2) hb
  have n2b := tk_lt (l := l2) hb
  obtain ⟨n2, e2⟩ : ∃ n2 : Nat, tk l2 ((most : Nat) + 1) = (n2 : Nat) := ⟨_, (Int.toNat_of_nonneg n2a).symm⟩
  have n2c : n2 ≤ most := by omega
  refine bx_cons (sx_lcE 4 (numd l2.tail high n2) (fun x => .d (.int (x.1 : Nat))) (fun x => [some (.l 0), some (.d (.int (most : Nat))), some (.d (.int high)), some (.d (.lst (s1.map .int))), none, none, none, none, none, some (.d (.int (x.1 : Nat))), none]) (fun _ => true) (fun x => .int x.2) (fun i => [drO (l2.tail.drop i)]) (fun i => [drO (l2.tail.drop i)]) (EndC.d .ls) (Nat.le_refl _) rfl hnNe
    (ix_range (ax_cons (px_take (v := (most : Nat) + 1) (l := l2) htk hr hb rfl (px_var 0) (px_add (px_var 1) px_int)) ax_nil) (hm.fr _ (by decide)) (by omega)) (blkOk_by (N := nNe) (sc := defScope sNe) (own := [("_law_k", 9)]) (by decide +kernel)) (by rw [e2, Int.toNat_natCast]; unfold numd; rw [List.map_map]; rfl) (fun _ _ z => nomatch z) (by unfold numd; rw [List.length_map, List.length_range]; exact lt1 (by omega))
    (fun _ _ _ _ _ => pn 9 hnNe) (fun _ _ => gx_name 9) (by decide) (fun _ _ _ h => by cases h) (fun i x hx _ _ _ _ _ => tse_nil)
    (fun i x hx _ _ _ _ _ _ => by
      have ex := numd_get hx
      subst ex
      exact px_convO (px_take (v := high) (l := l2.tail.drop i) htk hr hhi rfl (px_var 0) (px_var 2)) (by rw [← drop_tail]; rfl)) ?_ (sw_true rfl rfl rfl (by decide +kernel)))
  rw [numd_vals]
  generalize hd : valsN l2.tail high n2 = d1
  have hd0 : ∀ p, 0 ≤ d1.getD p 0 := by rw [← hd]; exact valsN_nn hhi
  have hd1 : ∀ v ∈ d1, v < high := by rw [← hd]; exact valsN_lt hhi
  have hd2 : d1.length ≤ most := by rw [← hd]; unfold valsN; rw [List.length_map, List.length_range]; exact n2c
  generalize l2.tail.drop (numd l2.tail high n2).length = l3
  refine bx_cons (sx_asg (Nat.le_refl _) (px_lstO (ds := []) ax_nil) (pn 5 hnNe) (gx_name 5) ?_)
  refine bx_cons (sx_asg (Nat.le_of_ble_eq_true rfl) (px_add px_int (px_take (v := 4) (l := l3) htk hr (by decide) rfl (px_var 0) px_int)) (pn 6 hnNe) (gx_name 6) ?_)
  generalize 1 + tk l3 4 = sh
  change BX _ _ _ _ [drO l3.tail, OD.ls []] _
  refine bx_mid (fun Γ Ω => ∃ (l : List Int) (rows : List (Int × (Nat × Nat))) (g7 g8 : Option W), rows.length ≤ s1.length * d1.length ∧ (∀ r ∈ rows, r.2.1 < s1.length ∧ r.2.2 < d1.length) ∧ Γ = [some (.l 0), some (.d (.int (most : Nat))), some (.d (.int high)), some (.d (.lst (s1.map .int))), some (.d (.lst (d1.map .int))), some (.l 1), some (.d (.int sh)), g7, g8, none, none] ∧ Ω = [drO l, .ls (rows.map rowD)])
    (sx_for (List.range s1.length) (fun k => .d (.int (k : Nat))) (fun i Γ Ω => ∃ (l : List Int) (rows : List (Int × (Nat × Nat))) (g7 g8 : Option W), rows.length ≤ i * d1.length ∧ (∀ r ∈ rows, r.2.1 < s1.length ∧ r.2.2 < d1.length) ∧ Γ = [some (.l 0), some (.d (.int (most : Nat))), some (.d (.int high)), some (.d (.lst (s1.map .int))), some (.d (.lst (d1.map .int))), some (.l 1), some (.d (.int sh)), g7, g8, none, none] ∧ Ω = [drO l, .ls (rows.map rowD)]) (fun _ k Γ => Γ.set 7 (some (.d (.int (k : Nat))))) (Nat.le_of_ble_eq_true rfl) (ix_range (ax_cons (px_len (hx := .l .d) (ax_cons (px_var 3) ax_nil) (hm.fr _ (by decide))) ax_nil) (hm.fr _ (by decide)) (by rw [List.length_map]; omega)) (by simp) ⟨l3.tail, [], none, none, Nat.zero_le _, (fun _ z => nomatch z), rfl, rfl⟩ (fun _ _ _ _ _ z => nomatch z) (pn 7 hnNe) (fun _ _ _ _ _ _ => gx_name 7) ?_ ?_ PassesOwn.never) ?_
  · rintro i k Γ' Ω' hk ⟨l, rows, g7, g8, hrl, hrr, rfl, rfl⟩
    have hkl := List.mem_range.mp (List.mem_of_getElem? hk)
    have hi := (List.getElem?_eq_some_iff.mp hk).1
    rw [List.length_range] at hi
    have hid : i * d1.length ≤ 36 := Nat.le_trans (Nat.mul_le_mul (show i ≤ 6 by omega) (show d1.length ≤ 6 by omega)) (by decide)
    refine bx_cons (sx_for (List.range d1.length) (fun k => .d (.int (k : Nat))) (fun j Γ Ω => ∃ (l : List Int) (rows : List (Int × (Nat × Nat))) (g8 : Option W), rows.length ≤ i * d1.length + j ∧ (∀ r ∈ rows, r.2.1 < s1.length ∧ r.2.2 < d1.length) ∧ Γ = [some (.l 0), some (.d (.int (most : Nat))), some (.d (.int high)), some (.d (.lst (s1.map .int))), some (.d (.lst (d1.map .int))), some (.l 1), some (.d (.int sh)), some (.d (.int (k : Nat))), g8, none, none] ∧ Ω = [drO l, .ls (rows.map rowD)]) (fun _ k Γ => Γ.set 8 (some (.d (.int (k : Nat))))) (Nat.le_of_ble_eq_true rfl) (ix_range (ax_cons (px_len (hx := .l .d) (ax_cons (px_var 4) ax_nil) (hm.fr _ (by decide))) ax_nil) (hm.fr _ (by decide)) (by rw [List.length_map]; omega)) (by simp) ⟨l, rows, g8, hrl, hrr, rfl, rfl⟩ (fun _ _ _ _ _ z => nomatch z) (pn 8 hnNe) (fun _ _ _ _ _ _ => gx_name 8) ?_ ?_ PassesOwn.never)
    · rintro j k2 Γ' Ω' hk2 ⟨l, rows, g8, hrl, hrr, rfl, rfl⟩
      have hkl2 := List.mem_range.mp (List.mem_of_getElem? hk2)
      have hj := (List.getElem?_eq_some_iff.mp hk2).1
      rw [List.length_range] at hj
      refine bx_cons (sx_if (Nat.le_of_ble_eq_true rfl) (tx_lt (px_take (v := 4) (l := l) htk hr (by decide) rfl (px_var 0) px_int) (px_var 6)) (fun _ => ?_) (fun _ => bx_nil (bx_nil ⟨l.tail, rows, _, by omega, hrr, rfl, rfl⟩)))
      change BX _ _ _ _ [drO l.tail, OD.ls (rows.map rowD)] _
      refine bx_cons (sx_expr (Nat.le_of_ble_eq_true rfl) (px_append (n := 1) (ds := rows.map rowD) rfl rfl (lt1 (by rw [List.length_map]; omega)) (px_var 5) (ax_cons (px_lst (ds := [.int (tk l.tail 99), .tup [.int (k : Nat), .int (k2 : Nat)]]) (ax_cons (px_take (v := 99) (l := l.tail) htk hr (by decide) rfl (px_var 0) px_int) (ax_cons (px_tup (ds := [.int (k : Nat), .int (k2 : Nat)]) (ax_cons (px_var 7) (ax_cons (px_var 8) ax_nil))) ax_nil))) ax_nil)) (bx_nil (bx_nil ⟨l.tail.tail, rows ++ [(tk l.tail 99, (k, k2))], some (.d (.int (k2 : Nat))), ?_, ?_, rfl, ?_⟩)))
      · rw [List.length_append, List.length_singleton]; omega
      · intro r hr'
        rcases List.mem_append.mp hr' with h | h
        · exact hrr r h
        · rw [List.mem_singleton] at h; subst h; exact ⟨hkl, hkl2⟩
      · rw [List.map_append]; rfl
    · rintro Γ' Ω' ⟨l, rows, g8, hrl, hrr, rfl, rfl⟩
      rw [List.length_range] at hrl
      exact bx_nil ⟨l, rows, _, _, by rw [Nat.succ_mul]; exact hrl, hrr, rfl, rfl⟩
  · rintro Γ' Ω' ⟨l, rows, g7, g8, hrl, hrr, rfl, rfl⟩
    rw [List.length_range] at hrl
    exact ⟨l, rows, g7, g8, hrl, hrr, rfl, rfl⟩
  · rintro Γ' Ω' ⟨l, rows, g7, g8, hrl, hrr, rfl, rfl⟩
    have hr36 : rows.length ≤ 36 := Nat.le_trans hrl (Nat.le_trans (Nat.mul_le_mul (show s1.length ≤ 6 by omega) (show d1.length ≤ 6 by omega)) (by decide))
    have hsl : (sortR rows).length ≤ 36 := by rw [sortR_perm.length_eq]; exact hr36
    refine bx_cons (sx_retD (Ω2 := [drO l]) (x := netDt ⟨s1, d1, (sortR rows).map (·.2)⟩) (Nat.le_of_ble_eq_true rfl) (px_lst (ds := [.lst (s1.map .int), .lst (d1.map .int), .lst (((sortR rows).map (·.2)).map arcD)]) (ax_cons (px_var 3) (ax_cons (px_var 4) (ax_cons (px_conv (w' := .d (.lst (((sortR rows).map (·.2)).map arcD)))
      (px_lc (sortR rows) (fun r => .d (rowD r)) (fun r => [some (.l 0), some (.d (.int (most : Nat))), some (.d (.int high)), some (.d (.lst (s1.map .int))), some (.d (.lst (d1.map .int))), some (.l 1), some (.d (.int sh)), g7, g8, none, some (.d (rowD r))]) (fun _ => true) (fun r => arcD r.2) rfl hnNe (ix_ls (px_conv (px_sortD (ds := rows.map rowD) (hx := LsOf.l rfl) (by exact hu) (ax_cons (px_var 5) ax_nil) (hm.fr _ (by decide)) rows_ok rows_alike rows_sortable (by rw [List.length_map]; exact Nat.le_of_lt (lt1 (by omega))) ?_) (by rw [sortR_map])) .d) (blkOk_by (N := nNe) (sc := defScope sNe) (own := [("_law_row", 10)]) (by decide +kernel)) (by rw [List.map_map]; rfl) (fun _ z => nomatch z) (lt1 (by omega))
        (fun _ _ _ _ _ => pn 10 hnNe) (fun _ _ => gx_name 10) (by decide) (fun _ _ _ _ _ _ _ => tsx_nil)
        (fun r _ _ _ _ _ _ _ => px_ixL (ds := [.int r.1, arcD r.2]) (d := arcD r.2) (hx := LsOf.d) (px_var 10) px_int rfl)) (by rw [filt_true, List.map_map]; rfl)) ax_nil)))) (.keep .trunc) ⟨l, ⟨s1, d1, (sortR rows).map (·.2)⟩, ⟨?_, ?_, ?_, ?_, hs0, hd0⟩, hs2, hd2, ?_, hs1, hd1, rfl, rfl⟩)
    · intro d hd
      obtain ⟨r, _, rfl⟩ := List.mem_map.mp hd
      exact Nat.le_of_ble_eq_true rfl
    · show s1.length < 64; omega
    · show d1.length < 64; omega
    · show ((sortR rows).map (·.2)).length < 100000
      rw [List.length_map]; omega
    · intro p hp
      obtain ⟨r, hr', rfl⟩ := List.mem_map.mp hp
      exact hrr r (sortR_perm.mem_iff.mp hr')
    · show ((sortR rows).map (·.2)).length ≤ 36
      rw [List.length_map]; exact hsl
end
end K50
namespace K50
open PySem PySem.Spec PyProof.Rows L2 DL
/-! ### the text of a net -/
theorem short_int {v : Int} (h0 : 0 ≤ v) (h1 : v < 10 ^ 12) : (PyData.int v).leavesShort 13 = true ∧ (PyData.int v).showable = true ∧ (PyData.int v).weight ≤ 41 := by
  have h2 : v.natAbs < 2 ^ 40 := by omega
  have h4 : v.natAbs.log2 < 40 := by
    by_cases h3 : v.natAbs = 0
    · rw [h3]; decide
    · exact (Nat.log2_lt h3).mpr h2
  refine ⟨?_, ?_, ?_⟩
  · have h := toString_length_le h0 (k := 12) (by decide) h1
    show decide ((PyData.shown (.int v)).length ≤ 13) = true
    apply decide_eq_true
    have : (PyData.shown (.int v)) = Str.ofString (toString v) := rfl
    rw [this]
    omega
  · show decide (v.natAbs.log2 < 1920) = true
    apply decide_eq_true
    omega
  · simp only [PyData.weight]
    split <;> omega
theorem short_ints : ∀ ns : List Int, (∀ v ∈ ns, 0 ≤ v ∧ v < 10 ^ 12) → PyData.leavesShortAll 13 (Dt.pyL (ns.map .int)) = true ∧ PyData.showableAll (Dt.pyL (ns.map .int)) = true ∧ PyData.weightAll (Dt.pyL (ns.map .int)) ≤ 42 * ns.length ∧ PyData.hasDictAll (Dt.pyL (ns.map .int)) = false
  | [], _ => ⟨rfl, rfl, Nat.le_refl _, rfl⟩
  | v :: ns, h => by
    obtain ⟨a1, a2, a3⟩ := short_int (h v (List.mem_cons_self ..)).1 (h v (List.mem_cons_self ..)).2
    obtain ⟨b1, b2, b3, b4⟩ := short_ints ns fun u hu => h u (List.mem_cons_of_mem _ hu)
    rw [List.map_cons, Dt.pyL, Dt.py, List.length_cons]
    refine ⟨?_, ?_, ?_, ?_⟩
    · rw [PyData.leavesShortAll, a1, b1]; rfl
    · rw [PyData.showableAll, a2, b2]; rfl
    · rw [PyData.weightAll]
      omega
    · rw [PyData.hasDictAll, b4]; rfl
theorem short_arcs : ∀ ps : List (Nat × Nat), (∀ p ∈ ps, p.1 < 64 ∧ p.2 < 64) → PyData.leavesShortAll 13 (Dt.pyL (ps.map arcD)) = true ∧ PyData.showableAll (Dt.pyL (ps.map arcD)) = true ∧ PyData.weightAll (Dt.pyL (ps.map arcD)) ≤ 100 * ps.length ∧ PyData.hasDictAll (Dt.pyL (ps.map arcD)) = false
  | [], _ => ⟨rfl, rfl, Nat.le_refl _, rfl⟩
  | p :: ps, h => by
    obtain ⟨h1, h2⟩ := h p (List.mem_cons_self ..)
    obtain ⟨a1, a2, a3⟩ := short_int (v := (p.1 : Nat)) (by omega) (by omega)
    obtain ⟨c1, c2, c3⟩ := short_int (v := (p.2 : Nat)) (by omega) (by omega)
    obtain ⟨b1, b2, b3, b4⟩ := short_arcs ps fun u hu => h u (List.mem_cons_of_mem _ hu)
    have e : (arcD p).py = .tuple [.int (p.1 : Nat), .int (p.2 : Nat)] := rfl
    rw [List.map_cons, Dt.pyL, e, List.length_cons]
    refine ⟨?_, ?_, ?_, ?_⟩
    · rw [PyData.leavesShortAll, PyData.leavesShort, PyData.leavesShortAll, PyData.leavesShortAll, PyData.leavesShortAll, a1, c1, b1]; rfl
    · rw [PyData.showableAll, PyData.showable, PyData.showableAll, PyData.showableAll, PyData.showableAll, a2, c2, b2]; rfl
    · rw [PyData.weightAll]
      have : (PyData.tuple [.int (p.1 : Nat), .int (p.2 : Nat)]).weight ≤ 90 := by
        rw [PyData.weight, PyData.weightAll, PyData.weightAll, PyData.weightAll]
        omega
      omega
    · rw [PyData.hasDictAll, b4]; rfl
structure NetSmall (a : GA) : Prop where
  ok : GAOk a
  hs6 : a.s.length ≤ 6
  hd6 : a.d.length ≤ 6
  ha36 : a.arcs.length ≤ 36
  bs : ∀ v ∈ a.s, v < 10 ^ 12
  bd : ∀ v ∈ a.d, v < 10 ^ 12
theorem mem_nn {l : List Int} (h : ∀ p, 0 ≤ l.getD p 0) : ∀ v ∈ l, 0 ≤ v := fun v hv => by
  obtain ⟨i, e⟩ := List.getElem?_of_mem hv
  have := h i
  rw [List.getD_eq_getElem?_getD, e] at this
  exact this
theorem net_repr {a : GA} (h : NetSmall a) : (netDt a).pl = true ∧ (netDt a).py.showable = true ∧ (netDt a).py.hasDict = false ∧ (netDt a).py.depth ≤ 40 ∧ (netDt a).py.shown.length ≤ sizeLine := by
  obtain ⟨a1, a2, a3, a4⟩ := short_ints a.s fun v hv => ⟨mem_nn h.ok.ns v hv, h.bs v hv⟩
  obtain ⟨b1, b2, b3, b4⟩ := short_ints a.d fun v hv => ⟨mem_nn h.ok.nd v hv, h.bd v hv⟩
  obtain ⟨c1, c2, c3, c4⟩ := short_arcs a.arcs fun p hp => ⟨Nat.lt_trans (h.ok.hin p hp).1 h.ok.hs, Nat.lt_trans (h.ok.hin p hp).2 h.ok.hd⟩
  have e : (netDt a).py = .list [.list (Dt.pyL (a.s.map .int)), .list (Dt.pyL (a.d.map .int)), .list (Dt.pyL (a.arcs.map arcD))] := rfl
  refine ⟨?_, ?_, ?_, ?_, ?_⟩
  · show Dt.plL [_, _, _] = true
    rw [Dt.plL, Dt.plL, Dt.plL, Dt.pl, Dt.pl, Dt.pl, (ok_ints _).1, (ok_ints _).1, (ok_arcs _).1]
    rfl
  · rw [e, PyData.showable, PyData.showableAll, PyData.showableAll, PyData.showableAll, PyData.showable, PyData.showable, PyData.showable, a2, b2, c2]; rfl
  · rw [e, PyData.hasDict, PyData.hasDictAll, PyData.hasDictAll, PyData.hasDictAll, PyData.hasDict, PyData.hasDict, PyData.hasDict, a4, b4, c4]; rfl
  · have h1 := (ok_intL (ns := a.s)).2.2
    have h2 := (ok_intL (ns := a.d)).2.2
    have h3 := (ok_arcs a.arcs).2.2
    rw [Dt.py] at h1 h2
    have h4 : PyData.depthAll (Dt.pyL (a.s.map .int)) ≤ 2 := by
      clear h1 h2 h3
      induction a.s with
      | nil => exact Nat.le_of_ble_eq_true rfl
      | cons v r ih => rw [List.map_cons, Dt.pyL, PyData.depthAll]; have : (Dt.int v).py.depth = 0 := rfl; omega
    have h5 : PyData.depthAll (Dt.pyL (a.d.map .int)) ≤ 2 := by
      clear h1 h2 h3 h4
      induction a.d with
      | nil => exact Nat.le_of_ble_eq_true rfl
      | cons v r ih => rw [List.map_cons, Dt.pyL, PyData.depthAll]; have : (Dt.int v).py.depth = 0 := rfl; omega
    rw [e]
    simp only [PyData.depth, PyData.depthAll]
    omega
  · apply PyData.shown_fits (B := 13) (by decide) (by decide)
    · rw [e, PyData.leavesShort, PyData.leavesShortAll, PyData.leavesShortAll, PyData.leavesShortAll, PyData.leavesShortAll, PyData.leavesShort, PyData.leavesShort, PyData.leavesShort, a1, b1, c1]; rfl
    · have := h.hs6
      have := h.hd6
      have := h.ha36
      rw [e]
      simp only [PyData.weight, PyData.weightAll]
      omega
/-! ### the least cut -/
def upd1 (s d : List Int) (arcs : List (Nat × Nat)) (o : Option (List Nat)) (Y : List Nat) : Option (List Nat) :=
  match o with
  | none => some Y
  | some Z => if cutV s d arcs Y < cutV s d arcs Z ∨ (cutV s d arcs Y = cutV s d arcs Z ∧ Y.length < Z.length) then some Y else some Z
def best (s d : List Int) (arcs : List (Nat × Nat)) (l : List (List Nat)) : Option (List Nat) := l.foldl (upd1 s d arcs) none
theorem best_snoc {s d : List Int} {arcs : List (Nat × Nat)} {l : List (List Nat)} {Y : List Nat} : best s d arcs (l ++ [Y]) = upd1 s d arcs (best s d arcs l) Y := by
  unfold best
  rw [List.foldl_append]
  rfl
theorem snoc_ind {α : Type} {P : List α → Prop} (h0 : P []) (h1 : ∀ l a, P l → P (l ++ [a])) (l : List α) : P l := by
  have : ∀ l : List α, P l.reverse := fun l => by
    induction l with
    | nil => exact h0
    | cons a r ih => rw [List.reverse_cons]; exact h1 _ _ ih
  have q := this l.reverse
  rwa [List.reverse_reverse] at q
/-- what is the least of all, alone of its size, is found -/
theorem best_is {s d : List Int} {arcs : List (Nat × Nat)} {X : List Nat} {l : List (List Nat)} (hmin : ∀ Y ∈ l, cutV s d arcs X ≤ cutV s d arcs Y) (hlen : ∀ Y ∈ l, cutV s d arcs Y = cutV s d arcs X → X.length ≤ Y.length ∧ (X.length = Y.length → Y = X)) (hX : X ∈ l) : best s d arcs l = some X := by
  have go : ∀ (l1 l2 : List (List Nat)), l = l1 ++ l2 → (X ∈ l1 → best s d arcs l1 = some X) := by
    intro l1
    induction l1 using snoc_ind with
    | h0 => intro l2 _ h; exact nomatch h
    | h1 l1 Y ih =>
      intro l2 hl hX
      rw [best_snoc]
      have hYl : Y ∈ l := by rw [hl]; simp
      by_cases hx1 : X ∈ l1
      · rw [ih ([Y] ++ l2) (by rw [hl, List.append_assoc]) hx1]
        show (if _ then some Y else some X) = some X
        by_cases c : cutV s d arcs Y < cutV s d arcs X ∨ (cutV s d arcs Y = cutV s d arcs X ∧ Y.length < X.length)
        · exfalso
          rcases c with c | ⟨c1, c2⟩
          · have := hmin Y hYl; omega
          · have := (hlen Y hYl c1).1; omega
        · rw [if_neg c]
      · have : X = Y := by
          rcases List.mem_append.mp hX with h | h
          · exact absurd h hx1
          · exact List.mem_singleton.mp h
        subst this
        cases hb : best s d arcs l1 with
        | none => rfl
        | some Z =>
          show (if _ then some X else some Z) = some X
          have hZ : Z ∈ l1 := by
            have mem : ∀ (l1 : List (List Nat)) (Z : List Nat), best s d arcs l1 = some Z → Z ∈ l1 := by
              intro l1
              induction l1 using snoc_ind with
              | h0 => intro Z h; cases h
              | h1 l1 Y ih2 =>
                intro Z h
                rw [best_snoc] at h
                cases hb2 : best s d arcs l1 with
                | none => rw [hb2] at h; cases h; simp
                | some Z2 =>
                  rw [hb2] at h
                  have h : (if _ then some Y else some Z2) = some Z := h
                  split at h
                  · cases h; simp
                  · cases h; simp [ih2 _ hb2]
            exact mem l1 Z hb
          have hZl : Z ∈ l := by rw [hl]; simp [hZ]
          have h1 := hmin Z hZl
          have hne : Z ≠ X := fun e => hx1 (e ▸ hZ)
          rw [if_pos]
          by_cases e : cutV s d arcs Z = cutV s d arcs X
          · obtain ⟨h2, h3⟩ := hlen Z hZl e
            have : X.length ≠ Z.length := fun z => hne (h3 z)
            exact .inr ⟨e.symm, by omega⟩
          · exact .inl (by omega)
  exact go l [] (List.append_nil l).symm hX
/-- the subsets: all ascending lists below n -/
theorem subsN_mem : ∀ (n : Nat) (Y : List Nat), Y ∈ subsN n ↔ (Y.Pairwise (· < ·) ∧ ∀ p ∈ Y, p < n)
  | 0, Y => by
    rw [subsN, List.mem_singleton]
    constructor
    · rintro rfl; exact ⟨.nil, fun _ z => nomatch z⟩
    · rintro ⟨_, h⟩
      cases Y with
      | nil => rfl
      | cons a r => exact absurd (h a (List.mem_cons_self ..)) (Nat.not_lt_zero _)
  | n + 1, Y => by
    rw [subsN, List.mem_append, List.mem_map, subsN_mem n Y]
    constructor
    · rintro (⟨h1, h2⟩ | ⟨Z, hZ, rfl⟩)
      · exact ⟨h1, fun p hp => Nat.lt_succ_of_lt (h2 p hp)⟩
      · obtain ⟨h1, h2⟩ := (subsN_mem n Z).mp hZ
        refine ⟨List.pairwise_append.mpr ⟨h1, List.pairwise_singleton _ _, fun a ha b hb => ?_⟩, fun p hp => ?_⟩
        · rw [List.mem_singleton] at hb; subst hb; exact h2 a ha
        · rcases List.mem_append.mp hp with h | h
          · exact Nat.lt_succ_of_lt (h2 p h)
          · rw [List.mem_singleton] at h; omega
    · rintro ⟨h1, h2⟩
      by_cases hn : n ∈ Y
      · right
        rcases List.eq_nil_or_concat Y with rfl | ⟨Z, b, rfl⟩
        · exact nomatch hn
        · rw [List.concat_eq_append] at *
          obtain ⟨p1, _, p3⟩ := List.pairwise_append.mp h1
          have hb : b = n := by
            rcases List.mem_append.mp hn with h | h
            · have := p3 n h b (List.mem_singleton.mpr rfl)
              have := h2 b (by simp)
              omega
            · exact (List.mem_singleton.mp h).symm
          subst hb
          exact ⟨Z, (subsN_mem b Z).mpr ⟨p1, fun p hp => p3 p hp b (List.mem_singleton.mpr rfl)⟩, rfl⟩
      · left
        refine ⟨h1, fun p hp => ?_⟩
        have := h2 p hp
        have : p ≠ n := fun e => hn (e ▸ hp)
        omega
theorem asc_sub {X Y : List Nat} (hX : X.Pairwise (· < ·)) (hY : Y.Pairwise (· < ·)) (h : ∀ p ∈ X, p ∈ Y) : X.length ≤ Y.length ∧ (X.length = Y.length → Y = X) := by
  have nX : X.Nodup := hX.imp fun h => Nat.ne_of_lt h
  have nY : Y.Nodup := hY.imp fun h => Nat.ne_of_lt h
  have sub : X.Sublist Y := by
    clear nX nY
    induction Y generalizing X with
    | nil =>
      cases X with
      | nil => exact .slnil
      | cons a r => exact nomatch h a (List.mem_cons_self ..)
    | cons b Y ih =>
      cases X with
      | nil => exact List.nil_sublist _
      | cons a r =>
        obtain ⟨x1, x2⟩ := List.pairwise_cons.mp hX
        obtain ⟨y1, y2⟩ := List.pairwise_cons.mp hY
        rcases List.mem_cons.mp (h a (List.mem_cons_self ..)) with e | m
        · subst e
          refine .cons₂ _ (ih x2 y2 fun p hp => ?_)
          rcases List.mem_cons.mp (h p (List.mem_cons_of_mem _ hp)) with e | m
          · have := x1 p hp; omega
          · exact m
        · refine .cons _ (ih hX y2 fun p hp => ?_)
          rcases List.mem_cons.mp (h p hp) with e | m2
          · subst e
            have hba := y1 a m
            rcases List.mem_cons.mp hp with e2 | m3
            · omega
            · have := x1 p m3; omega
          · exact m2
  exact ⟨sub.length_le, fun e => (sub.eq_of_length e).symm⟩
theorem best_zs {a : GA} {fl : List Int} {zs : List Nat} (ok : GAOk a) (h : GfOk a.s a.d a.arcs fl zs) : best a.s a.d a.arcs (subsN a.s.length) = some zs ∧ cutV a.s a.d a.arcs zs = fl.sum := by
  have e : cutV a.s a.d a.arcs zs = fl.sum := by
    have := weak ok.hin h.fo zs
    have := h.met
    omega
  refine ⟨best_is (fun Y _ => by rw [e]; exact weak ok.hin h.fo Y) (fun Y hY he => ?_) ((subsN_mem _ _).mpr ⟨h.asc, h.rng⟩), e⟩
  exact asc_sub h.asc ((subsN_mem _ _).mp hY).1 (h.least Y (by rw [he, e]; exact Int.le_refl _))
theorem cutV_congr {s d : List Int} {arcs : List (Nat × Nat)} {Y Z : List Nat} (h : ∀ p, p ∈ Y ↔ p ∈ Z) : cutV s d arcs Y = cutV s d arcs Z := by
  have e1 : (fun p => decide (p ∉ Y)) = fun p => decide (p ∉ Z) := by funext p; simp only [h]
  have e2 : nearC arcs Y = nearC arcs Z := by funext q; unfold nearC; simp only [h]
  unfold cutV
  rw [e1, e2]
end K50
namespace K50
open PySem PySem.Spec PyProof.Rows L2 DL
abbrev sLa : Stmt := topS 14
abbrev nLa : List Str := ["_law_script", "_law_draws_here", "_law_high", "_law_supplies", "_law_demands", "_law_arcs", "_law_kept", "_law_size", "_law_flow", "_law_cut_here", "_law_least", "_law_part", "_law_bound", "_law_turn", "_law_k"]
theorem scLa : FnScope nLa ["_law_script"] (defScope sLa) := ⟨rfl, rfl, rfl, by decide +kernel, rfl, by decide +kernel, by decide +kernel⟩
theorem hnLa : nLa.Nodup := by decide +kernel
theorem fourH {v : Int} (h0 : 0 ≤ v) (h1 : v < 4) : ∃ m : Int, atI ([.int 4, .int 12, .int 12, .int (10 ^ (9 : Int).toNat)] : List Dt) v = some (.int m) ∧ 0 < m ∧ m ≤ 10 ^ 9 := by
  have : v = 0 ∨ v = 1 ∨ v = 2 ∨ v = 3 := by omega
  rcases this with rfl | rfl | rfl | rfl
  · exact ⟨4, rfl, by decide, by decide⟩
  · exact ⟨12, rfl, by decide, by decide⟩
  · exact ⟨12, rfl, by decide, by decide⟩
  · exact ⟨10 ^ (9 : Int).toNat, rfl, by decide, by decide⟩
/-- all that the law's body calls -/
structure Kit (P : Program) (w : World) (K : PySem.W.Frag) (mg : Str → Option Value) (base : Heap) : Prop where
  dr : DefOk P w K mg base "_law_draws" 1 ["_law_script"] cDr
  tk : DefOk P w K mg base "_law_take" 1 ["_law_draws_here", "_law_bound"] cTk
  sa : ∀ n, DefOk P w K mg base "_law_same" (n + 1) ["_law_actual", "_law_due"] (cSa n)
  ne : DefOk P w K mg base "_law_net" 2 ["_law_draws_here", "_law_most", "_law_high"] cNe
  cu : DefOk P w K mg base "_law_cut" 1 ["_law_supplies", "_law_demands", "_law_arcs", "_law_part"] cCb
  lf : DefOk P w K mg base "_law_is_flow" 1 ["_law_supplies", "_law_demands", "_law_arcs", "_law_flow"] cIf
  su : DefOk P w K mg base "_law_subsets" 1 ["_law_count"] cSu
  be : DefOk P w K mg base "_law_bent" 2 ["_law_draws_here", "_law_flow"] cBe
  gf : DefOk P w K mg base "greatest_flow" 4 ["supplies", "demands", "arcs"] cGf
  isf : DefOk P w K mg base "is_flow" 3 ["supplies", "demands", "arcs", "flow"] cIf
  cb : DefOk P w K mg base "cut_bound" 1 ["supplies", "demands", "arcs", "cut"] cCb
def leastD (s d : List Int) (arcs : List (Nat × Nat)) : Option (List Nat) → Dt
  | none => .non
  | some Y => .lst [.int (cutV s d arcs Y), partD Y]
theorem partD_eq {Y : List Nat} : partD Y = .lst (Y.map natD) := by
  unfold partD nI
  rw [List.map_map]
  rfl
/-- a step at the least: what is told of a part -/
theorem upd1_some {s d : List Int} {arcs : List (Nat × Nat)} {Y Z : List Nat} : upd1 s d arcs (some Z) Y = if (decide (cutV s d arcs Y < cutV s d arcs Z) || (decide (cutV s d arcs Y = cutV s d arcs Z) && decide (((Y.length : Nat) : Int) < ((Z.length : Nat) : Int)))) = true then some Y else some Z := by
  show (if _ then _ else _) = _
  by_cases h : cutV s d arcs Y < cutV s d arcs Z ∨ (cutV s d arcs Y = cutV s d arcs Z ∧ Y.length < Z.length)
  · rw [if_pos h, if_pos]
    rw [Bool.or_eq_true, Bool.and_eq_true]
    exact h.imp (fun h => decide_eq_true h) fun h => ⟨decide_eq_true h.1, decide_eq_true (by omega)⟩
  · rw [if_neg h, if_neg]
    rw [Bool.or_eq_true, Bool.and_eq_true]
    rintro (z | ⟨z1, z2⟩)
    · exact h (.inl (of_decide_eq_true z))
    · have := of_decide_eq_true z2
      exact h (.inr ⟨of_decide_eq_true z1, by omega⟩)
def laΓ (ns : List Int) (g2 : Option W) (a : GA) (kept size flow cuth least part bound turn : Option W) : Gm :=
  [some (.d (.rl ns)), some (.l 1), g2, some (.d (.lst (a.s.map .int))), some (.d (.lst (a.d.map .int))), some (.d (.lst (a.arcs.map arcD))), kept, size, flow, cuth, least, part, bound, turn, none]
theorem isFl_of {s d : List Int} {arcs : List (Nat × Nat)} {fl : List Int} (fo : FlowOk s d arcs fl) : isFl s d arcs fl = true := by
  unfold isFl
  rw [decide_eq_true fo.len, List.all_eq_true.mpr fun x hx => decide_eq_true (mem_nn fo.nn x hx), List.all_eq_true.mpr fun p hp => decide_eq_true (fo.oS p (List.mem_range.mp hp)), List.all_eq_true.mpr fun p hp => decide_eq_true (fo.oD p (List.mem_range.mp hp))]
  rfl
theorem sm_pair {v : Int} {zs : List Nat} (h : zs.length < 100000) : Sm 2 (.lst [.int v, .lst (zs.map natD)]) := by
  refine ⟨by show 2 < 100000; decide, fun d hd => ?_⟩
  rcases List.mem_cons.mp hd with rfl | hd
  · exact True.intro
  · obtain rfl := List.mem_singleton.mp hd
    refine ⟨by rw [List.length_map]; exact h, fun d hd => ?_⟩
    obtain ⟨p, _, rfl⟩ := List.mem_map.mp hd
    exact True.intro
theorem tx_cO {X : Cx} {e : Expr} {Γ : Gm} {Ω Ω1 Ω2 : Om} {p : Bool} (h : TX X e Γ Ω p Ω1) (he : Ω1 = Ω2) : TX X e Γ Ω p Ω2 := he ▸ h
/-- between two turns of the last for -/
def laI (ns : List Int) (high : Int) (a : GA) (size : Int) (zs : List Nat) (D : List Int) (i : Nat) (Γ : Gm) (Ω : Om) : Prop := ∃ (l fl : List Int) (least part bound turn : Option W), fl.length + 1 ≤ 2 ^ i * 37 ∧
  Γ = laΓ ns (some (.d (.int high))) a (some (.d (.str (netDt a).py.shown))) (some (.d (.int size))) (some (.d (.lst (fl.map .int)))) (some (.d (.lst (zs.map natD)))) least part bound turn ∧ Ω = [OD.ls (D.map .int), drO l]
theorem sm_ints {n : Nat} {l : List Int} (h : l.length < 100000) : Sm (n + 1) (.lst (l.map .int)) := ⟨by rw [List.length_map]; exact h, fun d hd => by
  obtain ⟨v, _, rfl⟩ := List.mem_map.mp hd
  cases n <;> exact True.intro⟩
section
variable {P : Program} {w : World} {K : PySem.W.Frag} {mg : Str → Option Value} {base : Heap} {qual : Str} {f : Addr} {cdv : Value} {t : Shared} {G : Hp}
theorem bodyLa (hm : Free mg) (kk : Kit P w K mg base) (ns : List Int) (hns : ns.length ≤ 63) :
    BX (cxOf CX0 P w K mg base nLa qual (defScope sLa) f cdv callerA [] t G fun _ _ _ => False).nox 0 (defBody sLa) (startG nLa [.d (.rl ns)]) [] { nx := fun _ _ => False, rt := fun w _ => w = .d (.bl true) } := by
  have hr : Room 4 (callerA.deeper (envOfC qual (defScope sLa) t.heap.objs.size f cdv)) := (show Room 5 callerA from ⟨rfl, by decide, by decide⟩).deeper _
  have hr2 := hr.mono (j := 2) (by decide)
  have hr1 := hr.mono (j := 1) (by decide)
  have hu : callerA.units + 3 + 64 < cLine := by have := hr.un; have e : (callerA.deeper (envOfC qual (defScope sLa) t.heap.objs.size f cdv)).units = callerA.units + 3 := rfl; omega
  refine bx_cons (sx_asgR (Nat.le_refl _) (pxr_call kk.dr hr1 ⟨ns, by omega⟩ [] (ax_cons (px_var 0) ax_nil) (callAt_data (ds := [.rl ns]) rfl rfl)) (pn 1 hnLa) ?_)
  rintro w0 Ω0 ⟨w', Ω', ⟨rfl, D, rfl⟩, rfl, rfl⟩
  refine ⟨_, _, gx_name 1, ?_⟩
  change BX _ _ _ _ [OD.ls (D.map .int), drO D] _
  obtain ⟨high, eh, h0, h1⟩ := fourH (tk_nn (l := D) (b := 4) (by decide)) (tk_lt (by decide))
  refine bx_cons (sx_asg (Nat.zero_le _) (px_ixL (hx := LsOf.d) (px_lst (ds := [.int 4, .int 12, .int 12, .int (10 ^ (9 : Int).toNat)]) (ax_cons px_int (ax_cons px_int (ax_cons px_int (ax_cons (px_pow ⟨by decide, by decide, by decide⟩ px_int px_int) ax_nil))))) (px_take (n := 1) (v := 4) (l := D) kk.tk hr1 (by decide) rfl (px_var 1) px_int) eh) (pn 2 hnLa) (gx_name 2) ?_)
  change BX _ _ _ _ [OD.ls (D.map .int), drO D.tail] _
  refine bx_cons (sx_asgR (Nat.zero_le _) (pxr_call kk.ne hr2 ⟨⟨D.tail, 6, high⟩, Nat.le_refl _, h0⟩ [1] (ax_cons (px_var 1) (ax_cons px_int (ax_cons (px_var 2) ax_nil))) ⟨rfl, by decide, rfl, rfl, rfl, fun j n h => match j, h with
    | 0, h => by cases h; rfl
    | j + 1, h => by simp at h⟩) (pg_unl (n := 3) rfl (pgs_n 3 hnLa (pgs_n 4 hnLa (pgs_n 5 hnLa pgs_nil)))) ?_)
  rintro w0 Ω0 ⟨w', Ω', ⟨l, a, ok, hs6, hd6, ha36, bs, bd, rfl, rfl⟩, rfl, rfl⟩
  refine ⟨_, _, gxl3 3 4 5, ?_⟩
  change BX _ _ _ _ [OD.ls (D.map .int), drO l] _
  have hs6 : a.s.length ≤ 6 := hs6
  have hd6 : a.d.length ≤ 6 := hd6
  have sm : NetSmall a := ⟨ok, hs6, hd6, ha36, fun v hv => Int.lt_of_lt_of_le (bs v hv) (Int.le_trans h1 (by decide)), fun v hv => Int.lt_of_lt_of_le (bd v hv) (Int.le_trans h1 (by decide))⟩
  obtain ⟨r1, r2, r3, r4, r5⟩ := net_repr sm
  refine bx_cons (sx_asg (Nat.zero_le _) (px_repr (x := netDt a) (by exact hu) rfl (ax_cons (px_lst (ds := [.lst (a.s.map .int), .lst (a.d.map .int), .lst (a.arcs.map arcD)]) (ax_cons (px_var 3) (ax_cons (px_var 4) (ax_cons (px_var 5) ax_nil)))) ax_nil) (.inl ⟨_, rfl⟩) r1 r2 r3 r4 r5 (hm.fr _ (by decide))) (pn 6 hnLa) (gx_name 6) ?_)
  refine bx_cons (sx_asgR (Nat.zero_le _) (pxr_call kk.gf hr ⟨a, ok⟩ [] (ax_cons (px_var 3) (ax_cons (px_var 4) (ax_cons (px_var 5) ax_nil))) (callAt_data (ds := [.lst (a.s.map .int), .lst (a.d.map .int), .lst (a.arcs.map arcD)]) rfl rfl)) (pg_tup (n := 3) rfl (pgs_n 7 hnLa (pgs_n 8 hnLa (pgs_n 9 hnLa pgs_nil)))) ?_)
  rintro w0 Ω0 ⟨w', Ω', ⟨rfl, fl, zs, gok, rfl⟩, rfl, rfl⟩
  refine ⟨_, _, gx3 7 8 9, ?_⟩
  change BX _ _ _ _ [OD.ls (D.map .int), drO l] _
  obtain ⟨eb, ec⟩ := best_zs ok gok
  have hfl : fl.length = a.arcs.length := gok.fo.len
  have haS : a.s.length ≤ 10 := by omega
  refine bx_cons (sx_asg (Nat.zero_le _) px_non (pn 10 hnLa) (gx_name 10) ?_)
  let C : Gm → Om → Option W → Option W → Option W → Prop := fun Γ Ω least part bound => Γ = laΓ ns (some (.d (.int high))) a (some (.d (.str (netDt a).py.shown))) (some (.d (.int fl.sum))) (some (.d (.lst (fl.map .int)))) (some (.d (.lst (zs.map natD)))) least part bound none ∧ Ω = [OD.ls (D.map .int), drO l]
  refine bx_mid (fun Γ Ω => ∃ part bound, C Γ Ω (some (.d (leastD a.s a.d a.arcs (some zs)))) part bound) (sx_for (subsN a.s.length) (fun Y => .d (partD Y)) (fun i Γ Ω => ∃ part bound, C Γ Ω (some (.d (leastD a.s a.d a.arcs (best a.s a.d a.arcs ((subsN a.s.length).take i))))) part bound) (fun _ Y Γ => Γ.set 11 (some (.d (partD Y)))) (Nat.zero_le _)
    (ix_ls (px_call kk.su hr1 ⟨a.s.length, haS⟩ [] (ax_cons (px_len (hx := .l .d) (ax_cons (px_var 3) ax_nil) (hm.fr _ (by decide))) ax_nil) (by rw [List.length_map]; exact callAt_data (ds := [.int (a.s.length : Nat)]) rfl rfl) (fun w' Ω' hR => by
      obtain ⟨rfl, rfl⟩ := hR
      exact ⟨rfl, putC_nil _⟩)) .d) (by rw [List.map_map]; rfl) ⟨none, none, rfl, rfl⟩ (fun _ _ _ _ _ z => nomatch z) (pn 11 hnLa) (fun _ _ _ _ _ _ => gx_name 11) ?_ ?_ PassesOwn.never) ?_
  · rintro i Y Γ' Ω' hY ⟨part, bound, rfl, rfl⟩
    have en : best a.s a.d a.arcs ((subsN a.s.length).take (i + 1)) = upd1 a.s a.d a.arcs (best a.s a.d a.arcs ((subsN a.s.length).take i)) Y := by
      rw [List.take_add_one, hY]
      exact best_snoc
    refine bx_cons (sx_asg (Nat.le_refl _) (px_call kk.cu hr1 ⟨⟨a, Y⟩, ok⟩ [] (ax_cons (px_var 3) (ax_cons (px_var 4) (ax_cons (px_var 5) (ax_cons (px_var 11) ax_nil)))) (callAt_data (ds := [.lst (a.s.map .int), .lst (a.d.map .int), .lst (a.arcs.map arcD), partD Y]) rfl rfl) (fun w' Ω' hR => by
      obtain ⟨rfl, rfl⟩ := hR
      exact ⟨rfl, putC_nil _⟩)) (pn 12 hnLa) (gx_name 12) ?_)
    cases ho : best a.s a.d a.arcs ((subsN a.s.length).take i) with
    | none =>
      rw [ho] at en
      refine bx_cons (sx_if (Nat.le_refl _) (tx_or (q := true) (tx_isN (w := .d .non) (px_var 10) px_non) (fun h => by cases h)).tx (fun _ => ?_) (fun h => by cases h))
      refine bx_cons (sx_asg (Nat.le_refl _) (px_lst (ds := [.int (cutV a.s a.d a.arcs Y), partD Y]) (ax_cons (px_var 12) (ax_cons (px_var 11) ax_nil))) (pn 10 hnLa) (gx_name 10) (bx_nil (bx_nil ⟨some (.d (partD Y)), some (.d (.int (cutV a.s a.d a.arcs Y))), ?_, rfl⟩)))
      rw [en]
      rfl
    | some Z =>
      rw [ho, upd1_some] at en
      refine bx_cons (sx_if (Nat.le_refl _) (tx_or (tx_isN (w := .d (.lst [.int (cutV a.s a.d a.arcs Z), partD Z])) (px_var 10) px_non) (fun _ => tx_or (tx_lt (px_var 12) (px_ixL (ds := [.int (cutV a.s a.d a.arcs Z), partD Z]) (d := .int (cutV a.s a.d a.arcs Z)) (hx := LsOf.d) (px_var 10) px_int rfl)) (fun _ => tx_or1
        (tx_and (tx_eq (px_var 12) (px_ixL (ds := [.int (cutV a.s a.d a.arcs Z), partD Z]) (d := .int (cutV a.s a.d a.arcs Z)) (hx := LsOf.d) (px_var 10) px_int rfl)) (fun _ => tx_and1 (tx_lt (px_len (ds := (nI Y).map .int) (hx := .l .d) (ax_cons (px_var 11) ax_nil) (hm.fr _ (by decide))) (px_len (ds := (nI Z).map .int) (hx := .l .d) (ax_cons (px_ixL (ds := [.int (cutV a.s a.d a.arcs Z), partD Z]) (d := partD Z) (hx := LsOf.d) (px_var 10) px_int rfl) ax_nil) (hm.fr _ (by decide)))))).tx))).tx (fun hb => ?_) (fun hb => ?_))
      · refine bx_cons (sx_asg (Nat.le_refl _) (px_lst (ds := [.int (cutV a.s a.d a.arcs Y), partD Y]) (ax_cons (px_var 12) (ax_cons (px_var 11) ax_nil))) (pn 10 hnLa) (gx_name 10) (bx_nil (bx_nil ⟨some (.d (partD Y)), some (.d (.int (cutV a.s a.d a.arcs Y))), ?_, rfl⟩)))
        unfold nI at hb
        rw [List.length_map, List.length_map, List.length_map, List.length_map] at hb
        have hb2 : (false || (decide (cutV a.s a.d a.arcs Y < cutV a.s a.d a.arcs Z) || (decide (cutV a.s a.d a.arcs Y = cutV a.s a.d a.arcs Z) && decide (((Y.length : Nat) : Int) < ((Z.length : Nat) : Int))))) = true := hb
        rw [Bool.false_or] at hb2
        rw [en, if_pos hb2]
        rfl
      · refine bx_nil (bx_nil ⟨some (.d (partD Y)), some (.d (.int (cutV a.s a.d a.arcs Y))), ?_, rfl⟩)
        unfold nI at hb
        rw [List.length_map, List.length_map, List.length_map, List.length_map] at hb
        rw [en, if_neg (fun z => by
          have z2 : (false || (decide (cutV a.s a.d a.arcs Y < cutV a.s a.d a.arcs Z) || (decide (cutV a.s a.d a.arcs Y = cutV a.s a.d a.arcs Z) && decide (((Y.length : Nat) : Int) < ((Z.length : Nat) : Int))))) = true := by rw [Bool.false_or]; exact z
          exact Bool.false_ne_true (hb.symm.trans z2))]
        rfl
  · rintro Γ' Ω' ⟨part, bound, hC⟩
    rw [List.take_length, eb] at hC
    exact ⟨part, bound, hC⟩
  · rintro Γ' Ω' ⟨part, bound, rfl, rfl⟩
    have el : leastD a.s a.d a.arcs (some zs) = .lst [.int fl.sum, .lst (zs.map natD)] := by show Dt.lst [.int (cutV a.s a.d a.arcs zs), partD zs] = _; rw [ec, partD_eq]
    rw [el]
    have hzl : zs.length < 100000 := by
      have : zs.length ≤ a.s.length := len_le _ _ (gok.asc.imp fun h => Nat.ne_of_lt h) gok.rng
      omega
    have hda : ∀ X : List Dt, X = [.lst (a.s.map .int), .lst (a.d.map .int), .lst (a.arcs.map arcD)] → True := fun _ _ => trivial
    refine bx_cons (sx_if (Nat.zero_le _) (tx_or (tx_not (tx_val (px_callD (ds := [.lst [.int fl.sum, .lst (zs.map natD)], .lst [.int fl.sum, .lst (zs.map natD)]]) (r := .bl true) (kk.sa 2) (hr.mono (by decide)) ⟨_, sm_pair hzl⟩ rfl (ax_cons (px_lst (ds := [.int fl.sum, .lst (zs.map natD)]) (ax_cons (px_var 7) (ax_cons (px_var 9) ax_nil))) (ax_cons (px_var 10) ax_nil)))))
      (fun _ => tx_or (tx_not (tx_val (px_call (w := .d (.bl (isFl a.s a.d a.arcs fl))) kk.lf hr1 ⟨⟨a, fl⟩, ok, by show fl.length < 100000; omega⟩ [] (ax_cons (px_var 3) (ax_cons (px_var 4) (ax_cons (px_var 5) (ax_cons (px_var 8) ax_nil)))) (callAt_data (ds := [.lst (a.s.map .int), .lst (a.d.map .int), .lst (a.arcs.map arcD), .lst (fl.map .int)]) rfl rfl) (fun w' Ω' hR => by
        obtain ⟨rfl, rfl⟩ := hR
        exact ⟨rfl, putC_nil _⟩)))) (fun _ => tx_or1 (tx_ne (px_sum (hx := LsOf.d) rfl (ns := fl) (ax_cons (px_var 8) ax_nil) (hm.fr _ (by decide)) rfl) (px_var 7))))).tx (fun hb => ?_) (fun _ => bx_nil ?_))
    · exfalso
      have hb : (!true || (!isFl a.s a.d a.arcs fl || !Dt.scEq (.int fl.sum) (.int fl.sum))) = true := hb
      rw [isFl_of gok.fo, scEq_selfI] at hb
      cases hb
    · refine bx_cons (sx_for (List.range 4) (fun k => .d (.int (k : Nat))) (laI ns high a fl.sum zs D) (fun _ k Γ => Γ.set 13 (some (.d (.int (k : Nat))))) (Nat.zero_le _) (ix_range (ax_cons px_int ax_nil) (hm.fr _ (by decide)) (by decide)) rfl ⟨l, fl, some (.d (.lst [.int fl.sum, .lst (zs.map natD)])), part, bound, none, by omega, rfl, rfl⟩ (fun _ _ _ _ _ z => nomatch z) (pn 13 hnLa) (fun _ _ _ _ _ _ => gx_name 13) ?_ ?_ PassesOwn.never)
      · rintro i k Γ' Ω' hk ⟨l, fl2, least, part, bound, turn, hl, rfl, rfl⟩
        have hi := (List.getElem?_eq_some_iff.mp hk).1
        rw [List.length_range] at hi
        have hpw : 2 ^ i ≤ 8 := Nat.le_trans (Nat.pow_le_pow_right (by decide) (show i ≤ 3 by omega)) (by decide)
        have hl2 : fl2.length ≤ 300 := by
          have := Nat.mul_le_mul_right 37 hpw
          omega
        refine bx_cons (sx_if (Nat.le_refl _) (tx_not (tx_val (px_callD (ds := [.bl (isFl a.s a.d a.arcs fl2), .bl (isFl a.s a.d a.arcs fl2)]) (r := .bl true) (kk.sa 0) hr1 ⟨.bl (isFl a.s a.d a.arcs fl2), True.intro⟩ rfl
          (ax_cons (px_call (w := .d (.bl (isFl a.s a.d a.arcs fl2))) kk.isf (hr.mono (by decide)) ⟨⟨a, fl2⟩, ok, by show fl2.length < 100000; omega⟩ [] (ax_cons (px_var 3) (ax_cons (px_var 4) (ax_cons (px_var 5) (ax_cons (px_list (ds := fl2.map .int) (hx := .l .d) (ax_cons (px_var 8) ax_nil) (hm.fr _ (by decide))) ax_nil)))) (callAt_data (ds := [.lst (a.s.map .int), .lst (a.d.map .int), .lst (a.arcs.map arcD), .lst (fl2.map .int)]) rfl rfl) (fun w' Ω' hR => by
            obtain ⟨rfl, rfl⟩ := hR
            exact ⟨rfl, putC_nil _⟩))
          (ax_cons (px_call (w := .d (.bl (isFl a.s a.d a.arcs fl2))) kk.lf hr1 ⟨⟨a, fl2⟩, ok, by show fl2.length < 100000; omega⟩ [] (ax_cons (px_var 3) (ax_cons (px_var 4) (ax_cons (px_var 5) (ax_cons (px_var 8) ax_nil)))) (callAt_data (ds := [.lst (a.s.map .int), .lst (a.d.map .int), .lst (a.arcs.map arcD), .lst (fl2.map .int)]) rfl rfl) (fun w' Ω' hR => by
            obtain ⟨rfl, rfl⟩ := hR
            exact ⟨rfl, putC_nil _⟩)) ax_nil))))) (fun hb => by cases hb) (fun _ => bx_nil ?_))
        refine bx_cons (sx_asgR (Nat.le_refl _) (pxr_call kk.be hr2 ⟨(l, fl2), by show fl2.length ≤ 90000; omega⟩ [1] (ax_cons (px_var 1) (ax_cons (px_var 8) ax_nil)) ⟨rfl, by decide, rfl, rfl, rfl, fun j n h => match j, h with
          | 0, h => by cases h; rfl
          | j + 1, h => by simp at h⟩) (pn 8 hnLa) ?_)
        rintro w0 Ω0 ⟨w', Ω', ⟨l3, fl3, rfl, rfl, hl3⟩, rfl, rfl⟩
        have hl3 : fl3.length ≤ 2 * fl2.length + 1 := hl3
        refine ⟨_, _, gx_name 8, ?_⟩
        change BX _ _ _ _ [OD.ls (D.map .int), drO l3] _
        refine bx_cons (sx_lcE 11 (numd l3 2 a.s.length) (fun x => .d (.int (x.1 : Nat))) (fun x => [some (.d (.rl ns)), some (.l 1), some (.d (.int high)), some (.d (.lst (a.s.map .int))), some (.d (.lst (a.d.map .int))), some (.d (.lst (a.arcs.map arcD))), some (.d (.str (netDt a).py.shown)), some (.d (.int fl.sum)), some (.d (.lst (fl3.map .int))), some (.d (.lst (zs.map natD))), least, part, bound, some (.d (.int (k : Nat))), some (.d (.int (x.1 : Nat)))]) (fun x => decide (x.2 = 0)) (fun x => .int (x.1 : Nat)) (fun i => [OD.ls (D.map .int), drO (l3.drop i)]) (fun i => [OD.ls (D.map .int), drO (l3.drop (i + 1))]) (EndC.d .ls) (Nat.le_refl _) rfl hnLa
          (ix_range (ax_cons (px_len (ds := a.s.map .int) (hx := .l .d) (ax_cons (px_var 3) ax_nil) (hm.fr _ (by decide))) ax_nil) (hm.fr _ (by decide)) (by rw [List.length_map]; omega)) (blkOk_by (N := nLa) (sc := defScope sLa) (own := [("_law_k", 14)]) (by decide +kernel)) (by rw [List.length_map, Int.toNat_natCast]; unfold numd; rw [List.map_map]; rfl) (fun _ _ z => nomatch z) (by unfold numd; rw [List.length_map, List.length_range]; exact lt1 (by omega))
          (fun _ _ _ _ _ => pn 14 hnLa) (fun _ _ => gx_name 14) (by decide) (fun _ _ _ _ => rfl)
          (fun i x hx _ _ _ _ _ => by
            have ex := numd_get hx
            subst ex
            exact tse_one (tx_cO (tx_eq (px_take (n := 1) (v := 2) (l := l3.drop i) kk.tk hr1 (by decide) rfl (px_var 1) px_int) px_int) (by rw [← drop_tail]; rfl)))
          (fun i x hx _ _ _ _ _ _ => px_var 14) ?_ (sw_true rfl rfl rfl (by decide +kernel)))
        have ey : ∀ xs : List (Nat × Int), (xs.filter fun x => decide (x.2 = 0)).map (fun x => Dt.int (x.1 : Nat)) = (nI ((xs.filter fun x => decide (x.2 = 0)).map (·.1))).map .int := fun xs => by
          unfold nI
          rw [List.map_map, List.map_map]
          rfl
        rw [ey]
        generalize ((numd l3 2 a.s.length).filter fun x => decide (x.2 = 0)).map (·.1) = Y
        generalize l3.drop (numd l3 2 a.s.length).length = l4
        have er : cutV a.s a.d a.arcs Y.reverse = cutV a.s a.d a.arcs Y := cutV_congr fun p => List.mem_reverse
        refine bx_cons (sx_if (Nat.le_refl _) (tx_not (tx_val (px_callD (ds := [.int (cutV a.s a.d a.arcs Y), .int (cutV a.s a.d a.arcs Y)]) (r := .bl true) (kk.sa 0) hr1 ⟨.int (cutV a.s a.d a.arcs Y), True.intro⟩ rfl
          (ax_cons (px_call (w := .d (.int (cutV a.s a.d a.arcs Y))) kk.cb hr1 ⟨⟨a, Y.reverse⟩, ok⟩ [] (ax_cons (px_var 3) (ax_cons (px_var 4) (ax_cons (px_var 5) (ax_cons (px_conv (w' := .d (.lst ((nI Y.reverse).map .int))) (px_lstRev (ds := (nI Y).map .int) (hx := LsOf.d) rfl (px_var 11) (hm.fr _ (by decide)) (hm.fr _ (by decide)) (EndC.d .ls)) (by unfold nI; rw [← List.map_reverse, ← List.map_reverse])) ax_nil)))) (callAt_data (ds := [.lst (a.s.map .int), .lst (a.d.map .int), .lst (a.arcs.map arcD), .lst ((nI Y.reverse).map .int)]) rfl rfl) (fun w' Ω' hR => by
            obtain ⟨rfl, rfl⟩ := hR
            exact ⟨by show W.d (.int (cutV a.s a.d a.arcs Y.reverse)) = _; rw [er], putC_nil _⟩))
          (ax_cons (px_call (w := .d (.int (cutV a.s a.d a.arcs Y))) kk.cu hr1 ⟨⟨a, Y⟩, ok⟩ [] (ax_cons (px_var 3) (ax_cons (px_var 4) (ax_cons (px_var 5) (ax_cons (px_var 11) ax_nil)))) (callAt_data (ds := [.lst (a.s.map .int), .lst (a.d.map .int), .lst (a.arcs.map arcD), .lst ((nI Y).map .int)]) rfl rfl) (fun w' Ω' hR => by
            obtain ⟨rfl, rfl⟩ := hR
            exact ⟨rfl, putC_nil _⟩)) ax_nil))))) (fun hb => by cases hb) (fun _ => bx_nil (bx_nil ⟨l4, fl3, least, some (.d (.lst ((nI Y).map .int))), bound, some (.d (.int (k : Nat))), ?_, rfl, rfl⟩)))
        rw [Nat.pow_succ]
        omega
      · rintro Γ' Ω' ⟨l, fl2, least, part, bound, turn, hl, rfl, rfl⟩
        refine bx_cons (sx_ret (Nat.zero_le _) (px_eq (px_repr (x := netDt a) (by exact hu) rfl (ax_cons (px_lst (ds := [.lst (a.s.map .int), .lst (a.d.map .int), .lst (a.arcs.map arcD)]) (ax_cons (px_var 3) (ax_cons (px_var 4) (ax_cons (px_var 5) ax_nil)))) ax_nil) (.inl ⟨_, rfl⟩) r1 r2 r3 r4 r5 (hm.fr _ (by decide))) (px_var 6)) ?_)
        show W.d (.bl (Dt.scEq (.str _) (.str _))) = W.d (.bl true)
        congr 2
        exact decide_eq_true rfl
end
end K50
namespace K50
open PySem PySem.Spec PyProof.Rows L2 DL
theorem hid_empty {G : Hp} : hid [] [] G = G := by
  funext a
  unfold hid
  rw [if_neg (fun z => z.elim (fun z => nomatch z) fun z => nomatch z)]
theorem lawBody {P : Program} {w : World} {K : PySem.W.Frag} {mg : Str → Option Value} {base : Heap} {qual : Str} {f : Addr} (hm : Free mg) (kk : Kit P w K mg base) (ns : List Int) (hns : ns.length ≤ 63) : LawBody P w K mg base nLa qual sLa f ns := fun cdv t G a _ hS =>
  ⟨_, bodyLa hm kk ns hns, [], [], ⟨rfl, fun i j a h => by simp at h, fun n od h => by simp at h, fun n h => by simp at h, fun a h => nomatch h⟩, sl_start (.cons (show Rp K (hid [] [] G) (.ref a) (.rl ns) from .rl (by rw [hid_empty]; exact hS)) .nil), fun _ _ _ _ _ _ _ _ q => q,
    fun v w ρ' H' Ω' _ _ r q => by
      have q : w = .d (.bl true) := q
      subst q
      exact r.bl_inv, fun _ _ _ _ _ _ _ _ q => q, fun _ _ _ _ _ _ _ _ q => q⟩
section
variable {P : Program} {w : World} {K : PySem.W.Frag} {mg : Str → Option Value} {base : Heap}

theorem all_mk {l : PySem.W.OpenLaw} {w : World} {K : PySem.W.Frag} {h : Heap} {mg : Str → Option Value} {fa C f1 f2 f3 f4 f5 f6 f7 f8 f9 f10 f11 f12 f13 f14 f15 f16 f17 f18 : Addr} (X : K.In h) (G : h.Ns mainGlobals mg) (hfa : mg "law" = some (.ref fa))
    {od1 an1 od2 an2 od3 an3 od4 an4 od5 an5 od6 an6 od7 an7 od8 an8 od9 an9 od10 an10 od11 an11 od12 an12 od13 an13 od14 an14 od15 an15 od16 an16 od17 an17 od18 an18 : Option Addr} {sl1 sl2 sl3 sl4 sl5 sl6 sl7 sl8 sl9 sl10 sl11 sl12 sl13 sl14 sl15 sl16 sl17 sl18 : Array (Option Value)} {oc1 kV1 dc1 pm1 cd1 ct1 oc2 kV2 dc2 pm2 cd2 ct2 oc3 kV3 dc3 pm3 cd3 ct3 oc4 kV4 dc4 pm4 cd4 ct4 oc5 kV5 dc5 pm5 cd5 ct5 oc6 kV6 dc6 pm6 cd6 ct6 oc7 kV7 dc7 pm7 cd7 ct7 oc8 kV8 dc8 pm8 cd8 ct8 oc9 kV9 dc9 pm9 cd9 ct9 oc10 kV10 dc10 pm10 cd10 ct10 oc11 kV11 dc11 pm11 cd11 ct11 oc12 kV12 dc12 pm12 cd12 ct12 oc13 kV13 dc13 pm13 cd13 ct13 oc14 kV14 dc14 pm14 cd14 ct14 oc15 kV15 dc15 pm15 cd15 ct15 oc16 kV16 dc16 pm16 cd16 ct16 oc17 kV17 dc17 pm17 cd17 ct17 oc18 kV18 dc18 pm18 cd18 ct18 : Value}
    (aC : PySem.W.nsIn K mainGlobals "Network" = some (some (.ref C)))
    (a1 : PySem.W.findIn K (.ref C) "__init__" = some (some (.ref f1))) (i1 : PySem.W.isFn K (.ref f1) = true) (l1 : K.lookup f1 = some ⟨oc1, od1, .func (PySem.W.fnOf "__init__" "Network.__init__" (defArgs sIn) (defBody sIn) (defScope sIn) .none kV1 dc1 pm1 an1 cd1 ct1), sl1⟩) (c1 : PySem.W.codeIn K cd1 "Network.__init__" = true) (k1 : PySem.W.keepIn K (.ref f1) = true)
    (a2 : PySem.W.findIn K (.ref C) "rest_of_supply" = some (some (.ref f2))) (i2 : PySem.W.isFn K (.ref f2) = true) (l2 : K.lookup f2 = some ⟨oc2, od2, .func (PySem.W.fnOf "rest_of_supply" "Network.rest_of_supply" (defArgs sRS) (defBody sRS) (defScope sRS) .none kV2 dc2 pm2 an2 cd2 ct2), sl2⟩) (c2 : PySem.W.codeIn K cd2 "Network.rest_of_supply" = true) (k2 : PySem.W.keepIn K (.ref f2) = true)
    (a3 : PySem.W.findIn K (.ref C) "rest_of_demand" = some (some (.ref f3))) (i3 : PySem.W.isFn K (.ref f3) = true) (l3 : K.lookup f3 = some ⟨oc3, od3, .func (PySem.W.fnOf "rest_of_demand" "Network.rest_of_demand" (defArgs sRD) (defBody sRD) (defScope sRD) .none kV3 dc3 pm3 an3 cd3 ct3), sl3⟩) (c3 : PySem.W.codeIn K cd3 "Network.rest_of_demand" = true) (k3 : PySem.W.keepIn K (.ref f3) = true)
    (a4 : PySem.W.findIn K (.ref C) "reached" = some (some (.ref f4))) (i4 : PySem.W.isFn K (.ref f4) = true) (l4 : K.lookup f4 = some ⟨oc4, od4, .func (PySem.W.fnOf "reached" "Network.reached" (defArgs sRe) (defBody sRe) (defScope sRe) .none kV4 dc4 pm4 an4 cd4 ct4), sl4⟩) (c4 : PySem.W.codeIn K cd4 "Network.reached" = true) (k4 : PySem.W.keepIn K (.ref f4) = true)
    (a5 : PySem.W.findIn K (.ref C) "augment" = some (some (.ref f5))) (i5 : PySem.W.isFn K (.ref f5) = true) (l5 : K.lookup f5 = some ⟨oc5, od5, .func (PySem.W.fnOf "augment" "Network.augment" (defArgs sAu) (defBody sAu) (defScope sAu) .none kV5 dc5 pm5 an5 cd5 ct5), sl5⟩) (c5 : PySem.W.codeIn K cd5 "Network.augment" = true) (k5 : PySem.W.keepIn K (.ref f5) = true)
    (a6 : PySem.W.findIn K (.ref C) "grow" = some (some (.ref f6))) (i6 : PySem.W.isFn K (.ref f6) = true) (l6 : K.lookup f6 = some ⟨oc6, od6, .func (PySem.W.fnOf "grow" "Network.grow" (defArgs sGr) (defBody sGr) (defScope sGr) .none kV6 dc6 pm6 an6 cd6 ct6), sl6⟩) (c6 : PySem.W.codeIn K cd6 "Network.grow" = true) (k6 : PySem.W.keepIn K (.ref f6) = true)
    (a7 : PySem.W.nsIn K mainGlobals "greatest_flow" = some (some (.ref f7))) (l7 : K.lookup f7 = some ⟨oc7, od7, .func (PySem.W.fnOf "greatest_flow" "greatest_flow" (defArgs sGf) (defBody sGf) (defScope sGf) .none kV7 dc7 pm7 an7 cd7 ct7), sl7⟩) (c7 : PySem.W.codeIn K cd7 "greatest_flow" = true) (k7 : PySem.W.keepIn K (.ref f7) = true)
    (a8 : PySem.W.nsIn K mainGlobals "is_flow" = some (some (.ref f8))) (l8 : K.lookup f8 = some ⟨oc8, od8, .func (PySem.W.fnOf "is_flow" "is_flow" (defArgs sIf) (defBody sIf) (defScope sIf) .none kV8 dc8 pm8 an8 cd8 ct8), sl8⟩) (c8 : PySem.W.codeIn K cd8 "is_flow" = true) (k8 : PySem.W.keepIn K (.ref f8) = true)
    (a9 : PySem.W.nsIn K mainGlobals "cut_bound" = some (some (.ref f9))) (l9 : K.lookup f9 = some ⟨oc9, od9, .func (PySem.W.fnOf "cut_bound" "cut_bound" (defArgs sCb) (defBody sCb) (defScope sCb) .none kV9 dc9 pm9 an9 cd9 ct9), sl9⟩) (c9 : PySem.W.codeIn K cd9 "cut_bound" = true) (k9 : PySem.W.keepIn K (.ref f9) = true)
    (a10 : PySem.W.nsIn K mainGlobals "_law_draws" = some (some (.ref f10))) (l10 : K.lookup f10 = some ⟨oc10, od10, .func (PySem.W.fnOf "_law_draws" "_law_draws" (defArgs sDr) (defBody sDr) (defScope sDr) .none kV10 dc10 pm10 an10 cd10 ct10), sl10⟩) (c10 : PySem.W.codeIn K cd10 "_law_draws" = true) (k10 : PySem.W.keepIn K (.ref f10) = true)
    (a11 : PySem.W.nsIn K mainGlobals "_law_take" = some (some (.ref f11))) (l11 : K.lookup f11 = some ⟨oc11, od11, .func (PySem.W.fnOf "_law_take" "_law_take" (defArgs sTk) (defBody sTk) (defScope sTk) .none kV11 dc11 pm11 an11 cd11 ct11), sl11⟩) (c11 : PySem.W.codeIn K cd11 "_law_take" = true) (k11 : PySem.W.keepIn K (.ref f11) = true)
    (a12 : PySem.W.nsIn K mainGlobals "_law_same" = some (some (.ref f12))) (l12 : K.lookup f12 = some ⟨oc12, od12, .func (PySem.W.fnOf "_law_same" "_law_same" (defArgs sSa) (defBody sSa) (defScope sSa) .none kV12 dc12 pm12 an12 cd12 ct12), sl12⟩) (c12 : PySem.W.codeIn K cd12 "_law_same" = true) (k12 : PySem.W.keepIn K (.ref f12) = true)
    (a13 : PySem.W.nsIn K mainGlobals "_law_net" = some (some (.ref f13))) (l13 : K.lookup f13 = some ⟨oc13, od13, .func (PySem.W.fnOf "_law_net" "_law_net" (defArgs sNe) (defBody sNe) (defScope sNe) .none kV13 dc13 pm13 an13 cd13 ct13), sl13⟩) (c13 : PySem.W.codeIn K cd13 "_law_net" = true) (k13 : PySem.W.keepIn K (.ref f13) = true)
    (a14 : PySem.W.nsIn K mainGlobals "_law_cut" = some (some (.ref f14))) (l14 : K.lookup f14 = some ⟨oc14, od14, .func (PySem.W.fnOf "_law_cut" "_law_cut" (defArgs sCu) (defBody sCu) (defScope sCu) .none kV14 dc14 pm14 an14 cd14 ct14), sl14⟩) (c14 : PySem.W.codeIn K cd14 "_law_cut" = true) (k14 : PySem.W.keepIn K (.ref f14) = true)
    (a15 : PySem.W.nsIn K mainGlobals "_law_is_flow" = some (some (.ref f15))) (l15 : K.lookup f15 = some ⟨oc15, od15, .func (PySem.W.fnOf "_law_is_flow" "_law_is_flow" (defArgs sLf) (defBody sLf) (defScope sLf) .none kV15 dc15 pm15 an15 cd15 ct15), sl15⟩) (c15 : PySem.W.codeIn K cd15 "_law_is_flow" = true) (k15 : PySem.W.keepIn K (.ref f15) = true)
    (a16 : PySem.W.nsIn K mainGlobals "_law_subsets" = some (some (.ref f16))) (l16 : K.lookup f16 = some ⟨oc16, od16, .func (PySem.W.fnOf "_law_subsets" "_law_subsets" (defArgs sSu) (defBody sSu) (defScope sSu) .none kV16 dc16 pm16 an16 cd16 ct16), sl16⟩) (c16 : PySem.W.codeIn K cd16 "_law_subsets" = true) (k16 : PySem.W.keepIn K (.ref f16) = true)
    (a17 : PySem.W.nsIn K mainGlobals "_law_bent" = some (some (.ref f17))) (l17 : K.lookup f17 = some ⟨oc17, od17, .func (PySem.W.fnOf "_law_bent" "_law_bent" (defArgs sBe) (defBody sBe) (defScope sBe) .none kV17 dc17 pm17 an17 cd17 ct17), sl17⟩) (c17 : PySem.W.codeIn K cd17 "_law_bent" = true) (k17 : PySem.W.keepIn K (.ref f17) = true)
    (a18 : PySem.W.nsIn K mainGlobals "law" = some (some (.ref f18))) (l18 : K.lookup f18 = some ⟨oc18, od18, .func (PySem.W.fnOf "law" "law" (defArgs sLa) (defBody sLa) (defScope sLa) .none kV18 dc18 pm18 an18 cd18 ct18), sl18⟩) (c18 : PySem.W.codeIn K cd18 "law" = true) (k18 : PySem.W.keepIn K (.ref f18) = true)
    (pg : PySem.W.plainGet K C Str.empty = true) (hd : PySem.W.hasDictIn K C = true) (po : PySem.W.plainOver K C = true) (sa : PySem.W.findIn K (.ref C) "__setattr__" = some (some (.builtin "object.__setattr__"))) (mk : PySem.W.makesIn K C = true) (kc : PySem.W.keepIn K (.ref C) = true)
    (n1 : PySem.W.findIn K (.ref C) "supplies" = some none) (n2 : PySem.W.findIn K (.ref C) "demands" = some none) (n3 : PySem.W.findIn K (.ref C) "arcs" = some none) (n4 : PySem.W.findIn K (.ref C) "flow" = some none)
    (z0 : PySem.W.nsIn K mainGlobals "len" = some none)
    (z1 : PySem.W.nsIn K mainGlobals "zip" = some none)
    (z2 : PySem.W.nsIn K mainGlobals "sum" = some none)
    (z3 : PySem.W.nsIn K mainGlobals "range" = some none)
    (z4 : PySem.W.nsIn K mainGlobals "enumerate" = some none)
    (z5 : PySem.W.nsIn K mainGlobals "list" = some none)
    (z6 : PySem.W.nsIn K mainGlobals "min" = some none)
    (z7 : PySem.W.nsIn K mainGlobals "abs" = some none)
    (z8 : PySem.W.nsIn K mainGlobals "int" = some none)
    (z9 : PySem.W.nsIn K mainGlobals "any" = some none)
    (z10 : PySem.W.nsIn K mainGlobals "all" = some none)
    (z11 : PySem.W.nsIn K mainGlobals "sorted" = some none)
    (z12 : PySem.W.nsIn K mainGlobals "reversed" = some none)
    (z13 : PySem.W.nsIn K mainGlobals "isinstance" = some none)
    (z14 : PySem.W.nsIn K mainGlobals "tuple" = some none)
    (z15 : PySem.W.nsIn K mainGlobals "bool" = some none)
    (z16 : PySem.W.nsIn K mainGlobals "str" = some none)
    (z17 : PySem.W.nsIn K mainGlobals "repr" = some none) :
    ∃ (fd : FuncData) (nm qual : Str) (st : Stmt) (N : List Str), (∀ (s : Shared) (u : Value), BindsTo s fd ⟨[u], []⟩ [("_law_script", u)]) ∧ Fun K nm qual st fa fd ∧ FnScope N ["_law_script"] (defScope st) ∧
      ∀ (ns : List Int), ns.length ≤ 63 → ∀ base : Heap, K.In base → base.Ns mainGlobals mg → LawBody l.prog w K mg base N qual st fa ns := by
  have e := hfa.symm.trans (PySem.W.mg_of X G a18)
  cases e
  have F1 := fun_mk (st := sIn) l1 c1 k1
  have F2 := fun_mk (st := sRS) l2 c2 k2
  have F3 := fun_mk (st := sRD) l3 c3 k3
  have F4 := fun_mk (st := sRe) l4 c4 k4
  have F5 := fun_mk (st := sAu) l5 c5 k5
  have F6 := fun_mk (st := sGr) l6 c6 k6
  have F7 := fun_mk (st := sGf) l7 c7 k7
  have F8 := fun_mk (st := sIf) l8 c8 k8
  have F9 := fun_mk (st := sCb) l9 c9 k9
  have F10 := fun_mk (st := sDr) l10 c10 k10
  have F11 := fun_mk (st := sTk) l11 c11 k11
  have F12 := fun_mk (st := sSa) l12 c12 k12
  have F13 := fun_mk (st := sNe) l13 c13 k13
  have F14 := fun_mk (st := sCu) l14 c14 k14
  have F15 := fun_mk (st := sLf) l15 c15 k15
  have F16 := fun_mk (st := sSu) l16 c16 k16
  have F17 := fun_mk (st := sBe) l17 c17 k17
  have F18 := fun_mk (st := sLa) l18 c18 k18
  have b1 := F1.binds (ps := ["self", "supplies", "demands", "arcs"]) fun _ _ _ _ _ _ us hl => match us, hl with | [_, _, _, _], _ => rfl
  have b2 := F2.binds (ps := ["self", "place"]) fun _ _ _ _ _ _ us hl => match us, hl with | [_, _], _ => rfl
  have b3 := F3.binds (ps := ["self", "place"]) fun _ _ _ _ _ _ us hl => match us, hl with | [_, _], _ => rfl
  have b4 := F4.binds (ps := ["self"]) fun _ _ _ _ _ _ us hl => match us, hl with | [_], _ => rfl
  have b5 := F5.binds (ps := ["self", "first", "second", "place"]) fun _ _ _ _ _ _ us hl => match us, hl with | [_, _, _, _], _ => rfl
  have b6 := F6.binds (ps := ["self"]) fun _ _ _ _ _ _ us hl => match us, hl with | [_], _ => rfl
  have b7 := F7.binds (ps := ["supplies", "demands", "arcs"]) fun _ _ _ _ _ _ us hl => match us, hl with | [_, _, _], _ => rfl
  have b8 := F8.binds (ps := ["supplies", "demands", "arcs", "flow"]) fun _ _ _ _ _ _ us hl => match us, hl with | [_, _, _, _], _ => rfl
  have b9 := F9.binds (ps := ["supplies", "demands", "arcs", "cut"]) fun _ _ _ _ _ _ us hl => match us, hl with | [_, _, _, _], _ => rfl
  have b10 := F10.binds (ps := ["_law_script"]) fun _ _ _ _ _ _ us hl => match us, hl with | [_], _ => rfl
  have b11 := F11.binds (ps := ["_law_draws_here", "_law_bound"]) fun _ _ _ _ _ _ us hl => match us, hl with | [_, _], _ => rfl
  have b12 := F12.binds (ps := ["_law_actual", "_law_due"]) fun _ _ _ _ _ _ us hl => match us, hl with | [_, _], _ => rfl
  have b13 := F13.binds (ps := ["_law_draws_here", "_law_most", "_law_high"]) fun _ _ _ _ _ _ us hl => match us, hl with | [_, _, _], _ => rfl
  have b14 := F14.binds (ps := ["_law_supplies", "_law_demands", "_law_arcs", "_law_part"]) fun _ _ _ _ _ _ us hl => match us, hl with | [_, _, _, _], _ => rfl
  have b15 := F15.binds (ps := ["_law_supplies", "_law_demands", "_law_arcs", "_law_flow"]) fun _ _ _ _ _ _ us hl => match us, hl with | [_, _, _, _], _ => rfl
  have b16 := F16.binds (ps := ["_law_count"]) fun _ _ _ _ _ _ us hl => match us, hl with | [_], _ => rfl
  have b17 := F17.binds (ps := ["_law_draws_here", "_law_flow"]) fun _ _ _ _ _ _ us hl => match us, hl with | [_, _], _ => rfl
  have hm : Free mg := ⟨fun x hx => by
    rcases List.mem_cons.mp hx with rfl | hx
    · exact PySem.W.mg_none_of X G z0
    rcases List.mem_cons.mp hx with rfl | hx
    · exact PySem.W.mg_none_of X G z1
    rcases List.mem_cons.mp hx with rfl | hx
    · exact PySem.W.mg_none_of X G z2
    rcases List.mem_cons.mp hx with rfl | hx
    · exact PySem.W.mg_none_of X G z3
    rcases List.mem_cons.mp hx with rfl | hx
    · exact PySem.W.mg_none_of X G z4
    rcases List.mem_cons.mp hx with rfl | hx
    · exact PySem.W.mg_none_of X G z5
    rcases List.mem_cons.mp hx with rfl | hx
    · exact PySem.W.mg_none_of X G z6
    rcases List.mem_cons.mp hx with rfl | hx
    · exact PySem.W.mg_none_of X G z7
    rcases List.mem_cons.mp hx with rfl | hx
    · exact PySem.W.mg_none_of X G z8
    rcases List.mem_cons.mp hx with rfl | hx
    · exact PySem.W.mg_none_of X G z9
    rcases List.mem_cons.mp hx with rfl | hx
    · exact PySem.W.mg_none_of X G z10
    rcases List.mem_cons.mp hx with rfl | hx
    · exact PySem.W.mg_none_of X G z11
    rcases List.mem_cons.mp hx with rfl | hx
    · exact PySem.W.mg_none_of X G z12
    rcases List.mem_cons.mp hx with rfl | hx
    · exact PySem.W.mg_none_of X G z13
    rcases List.mem_cons.mp hx with rfl | hx
    · exact PySem.W.mg_none_of X G z14
    rcases List.mem_cons.mp hx with rfl | hx
    · exact PySem.W.mg_none_of X G z15
    rcases List.mem_cons.mp hx with rfl | hx
    · exact PySem.W.mg_none_of X G z16
    rcases List.mem_cons.mp hx with rfl | hx
    · exact PySem.W.mg_none_of X G z17
    exact nomatch hx⟩
  have hc : NetCl K C := ⟨⟨pg, hd, po, sa⟩, fun x hx => by
    rcases List.mem_cons.mp hx with rfl | hx
    · exact n1
    rcases List.mem_cons.mp hx with rfl | hx
    · exact n2
    rcases List.mem_cons.mp hx with rfl | hx
    · exact n3
    rcases List.mem_cons.mp hx with rfl | hx
    · exact n4
    exact nomatch hx⟩
  refine ⟨_, _, _, sLa, nLa, fun s v => .of_eq rfl, F18, scLa, fun ns hns base _ _ => lawBody hm ?_ ns hns⟩
  have mIn : MakeOk l.prog w K mg base "Network" C 1 ["self", "supplies", "demands", "arcs"] (cIn C) := ⟨_, _, fn_ok F1 scIn (fun _ => rfl) fun a cdv A outer s H E _ => bodyIn hm hc a, ⟨mk, a1, i1, kc⟩, PySem.W.mg_of X G aC, b1⟩
  have mRS : MethOk l.prog w K mg base C "rest_of_supply" 1 ["self", "place"] (cRS C) := ⟨_, _, fn_ok F2 scRS (fun _ => rfl) fun a cdv A outer s H E _ => bodyRS hm hc a, ⟨a2, i2, k2⟩, b2⟩
  have mRD : MethOk l.prog w K mg base C "rest_of_demand" 1 ["self", "place"] (cRD C) := ⟨_, _, fn_ok F3 scRD (fun _ => rfl) fun a cdv A outer s H E _ => bodyRD hm hc a, ⟨a3, i3, k3⟩, b3⟩
  have mRe : MethOk l.prog w K mg base C "reached" 2 ["self"] (cRe C) := ⟨_, _, fn_ok F4 scRe (fun _ => rfl) fun a cdv A outer s H E hr => bodyRe hm hc mRS a hr, ⟨a4, i4, k4⟩, b4⟩
  have mAu : MethOk l.prog w K mg base C "augment" 2 ["self", "first", "second", "place"] (cAu C) := ⟨_, _, fn_ok F5 scAu (fun _ => rfl) fun a cdv A outer s H E hr => bodyAu hm hc mRS mRD a hr, ⟨a5, i5, k5⟩, b5⟩
  have mGr : MethOk l.prog w K mg base C "grow" 3 ["self"] (cGr C) := ⟨_, _, fn_ok F6 scGr (fun _ => rfl) fun a cdv A outer s H E hr => bodyGr hm hc mRD mRe mAu a hr, ⟨a6, i6, k6⟩, b6⟩
  have dTk : DefOk l.prog w K mg base "_law_take" 1 ["_law_draws_here", "_law_bound"] cTk := ⟨_, _, fn_ok F11 scTk (fun _ => rfl) fun a cdv A outer s H E _ => bodyTk hm a, PySem.W.mg_of X G a11, k11, b11⟩
  have dSa : ∀ n, DefOk l.prog w K mg base "_law_same" (n + 1) ["_law_actual", "_law_due"] (cSa n) := fun n => by
    induction n with
    | zero => exact ⟨_, _, fn_ok F12 scSa (fun _ => rfl) fun a cdv A outer s H E hr => bodySa hm 0 (fun m e => by cases e) a hr, PySem.W.mg_of X G a12, k12, b12⟩
    | succ n ih => exact ⟨_, _, fn_ok F12 scSa (fun _ => rfl) fun a cdv A outer s H E hr => bodySa hm (n + 1) (fun m e => by cases e; exact ih) a hr, PySem.W.mg_of X G a12, k12, b12⟩
  exact {
    dr := ⟨_, _, fn_ok F10 scDr (fun _ => rfl) fun a cdv A outer s H E _ => bodyDr hm a, PySem.W.mg_of X G a10, k10, b10⟩
    tk := dTk
    sa := dSa
    ne := ⟨_, _, fn_ok F13 scNe (fun _ => rfl) fun a cdv A outer s H E hr => bodyNe hm dTk a hr, PySem.W.mg_of X G a13, k13, b13⟩
    cu := ⟨_, _, fn_ok F14 scCu (fun _ => rfl) fun a cdv A outer s H E hr => bodyCu hm a hr, PySem.W.mg_of X G a14, k14, b14⟩
    lf := ⟨_, _, fn_ok F15 scLf (fun _ => rfl) fun a cdv A outer s H E hr => bodyLf hm a hr, PySem.W.mg_of X G a15, k15, b15⟩
    su := ⟨_, _, fn_ok F16 scSu (fun _ => rfl) fun a cdv A outer s H E _ => bodySu hm a, PySem.W.mg_of X G a16, k16, b16⟩
    be := ⟨_, _, fn_ok F17 scBe (fun _ => rfl) fun a cdv A outer s H E hr => bodyBe hm dTk a hr, PySem.W.mg_of X G a17, k17, b17⟩
    gf := ⟨_, _, fn_ok F7 scGf (fun _ => rfl) fun a cdv A outer s H E hr => bodyGf hm hc mIn mRe mGr a hr, PySem.W.mg_of X G a7, k7, b7⟩
    isf := ⟨_, _, fn_ok F8 scIf (fun _ => rfl) fun a cdv A outer s H E hr => bodyIf hm hc mIn mRS mRD a hr, PySem.W.mg_of X G a8, k8, b8⟩
    cb := ⟨_, _, fn_ok F9 scCb (fun _ => rfl) fun a cdv A outer s H E hr => bodyCb hm a hr, PySem.W.mg_of X G a9, k9, b9⟩ }
end
end K50
open PySem PySem.W PyProof.Rows
set_option maxHeartbeats 0 in
theorem PySem.Challenge.cw_samphire_k50_greatest_flows_and_least_cu_holds : PySem.Challenge.rw_samphire_k50_greatest_flows_and_least_cu.Holds := by
  w_on; o_law; k_head; (case hw => w_witness2)
  k_fill
  refine DL.walk_here (l := PySem.Challenge.rw_samphire_k50_greatest_flows_and_least_cu) (n := 63) (x := "_law_script") rfl (by decide) rfl ⟨rfl, by decide, by decide⟩ (fun w h Y => PySem.W.kIn_of Y) ?F
  case F =>
    intro w mg fa h KX G hmg
    refine' K50.all_mk KX G hmg ?aC ?a1 ?i1 ?l1 ?c1 ?k1 ?a2 ?i2 ?l2 ?c2 ?k2 ?a3 ?i3 ?l3 ?c3 ?k3 ?a4 ?i4 ?l4 ?c4 ?k4 ?a5 ?i5 ?l5 ?c5 ?k5 ?a6 ?i6 ?l6 ?c6 ?k6 ?a7 ?l7 ?c7 ?k7 ?a8 ?l8 ?c8 ?k8 ?a9 ?l9 ?c9 ?k9 ?a10 ?l10 ?c10 ?k10 ?a11 ?l11 ?c11 ?k11 ?a12 ?l12 ?c12 ?k12 ?a13 ?l13 ?c13 ?k13 ?a14 ?l14 ?c14 ?k14 ?a15 ?l15 ?c15 ?k15 ?a16 ?l16 ?c16 ?k16 ?a17 ?l17 ?c17 ?k17 ?a18 ?l18 ?c18 ?k18 ?pg ?hd ?po ?sa ?mk ?kc ?n1 ?n2 ?n3 ?n4 ?z0 ?z1 ?z2 ?z3 ?z4 ?z5 ?z6 ?z7 ?z8 ?z9 ?z10 ?z11 ?z12 ?z13 ?z14 ?z15 ?z16 ?z17
    (case aC => k_is)
    (case a1 => k_is)
    (case i1 => k_is)
    (case l1 => k_is)
    (case c1 => k_is)
    (case k1 => k_is)
    (case a2 => k_is)
    (case i2 => k_is)
    (case l2 => k_is)
    (case c2 => k_is)
    (case k2 => k_is)
    (case a3 => k_is)
    (case i3 => k_is)
    (case l3 => k_is)
    (case c3 => k_is)
    (case k3 => k_is)
    (case a4 => k_is)
    (case i4 => k_is)
    (case l4 => k_is)
    (case c4 => k_is)
    (case k4 => k_is)
    (case a5 => k_is)
    (case i5 => k_is)
    (case l5 => k_is)
    (case c5 => k_is)
    (case k5 => k_is)
    (case a6 => k_is)
    (case i6 => k_is)
    (case l6 => k_is)
    (case c6 => k_is)
    (case k6 => k_is)
    (case a7 => k_is)
    (case l7 => k_is)
    (case c7 => k_is)
    (case k7 => k_is)
    (case a8 => k_is)
    (case l8 => k_is)
    (case c8 => k_is)
    (case k8 => k_is)
    (case a9 => k_is)
    (case l9 => k_is)
    (case c9 => k_is)
    (case k9 => k_is)
    (case a10 => k_is)
    (case l10 => k_is)
    (case c10 => k_is)
    (case k10 => k_is)
    (case a11 => k_is)
    (case l11 => k_is)
    (case c11 => k_is)
    (case k11 => k_is)
    (case a12 => k_is)
    (case l12 => k_is)
    (case c12 => k_is)
    (case k12 => k_is)
    (case a13 => k_is)
    (case l13 => k_is)
    (case c13 => k_is)
    (case k13 => k_is)
    (case a14 => k_is)
    (case l14 => k_is)
    (case c14 => k_is)
    (case k14 => k_is)
    (case a15 => k_is)
    (case l15 => k_is)
    (case c15 => k_is)
    (case k15 => k_is)
    (case a16 => k_is)
    (case l16 => k_is)
    (case c16 => k_is)
    (case k16 => k_is)
    (case a17 => k_is)
    (case l17 => k_is)
    (case c17 => k_is)
    (case k17 => k_is)
    (case a18 => k_is)
    (case l18 => k_is)
    (case c18 => k_is)
    (case k18 => k_is)
    (case pg => k_is)
    (case hd => k_is)
    (case po => k_is)
    (case sa => k_is)
    (case mk => k_is)
    (case kc => k_is)
    (case n1 => k_is)
    (case n2 => k_is)
    (case n3 => k_is)
    (case n4 => k_is)
    (case z0 => k_is)
    (case z1 => k_is)
    (case z2 => k_is)
    (case z3 => k_is)
    (case z4 => k_is)
    (case z5 => k_is)
    (case z6 => k_is)
    (case z7 => k_is)
    (case z8 => k_is)
    (case z9 => k_is)
    (case z10 => k_is)
    (case z11 => k_is)
    (case z12 => k_is)
    (case z13 => k_is)
    (case z14 => k_is)
    (case z15 => k_is)
    (case z16 => k_is)
    (case z17 => k_is)
